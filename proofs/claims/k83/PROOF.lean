import PyProof.Rows.All
import Wide.All
import OpenK.AllK
import Wide.FinOn
import HandS.ForMost
import HandS.TupAny
import HandS.TupMul
import HandS.TupLe
import HandS.Flow
import HandS.IsInst
import HandS.Deep
import HandS.Sort
import HandS.SortOrd
import HandS.SortKw
import HandS.Style
import HandS.Codes
import KE.KDictKeyed
import KE.KeyNested
import HandS.SetKeys
import HandS.TupLen
import HandS.Conv
import KE.KDictSum
import KE.SortData
import KE.SortKeyHeap
import HandS.Words
import HandS.Defaults
import HandS.TryOnly
import HandS.Head0
import HandS.Head1
import HandS.Head2
import HandS.HeadEnd
import HandS.HeadHook1
import HandS.HeadHook2
import PySem.Challenge.RW_fractionwords_k83_banned_lines
set_option Elab.async false
set_option linter.all false
set_option maxRecDepth 100000
set_option maxHeartbeats 4000000
/-! FwCore: plain data, abstract memory, how a heap bears them, the lifted judgements -/
namespace Fw
open PySem L2

/-- plain data; `ref` is a thing of the memory -/
inductive D where
  | non | bl (b : Bool) | int (i : Int) | str (s : Str) | tup (l : List D) | ref (a : Addr)

/-- what a dict's raw table is -/
abbrev Tk := Array DictEntry × Nat
inductive MO where
  | lst (l : List D)
  | rl (l : List D)
  | dict (kvs : List (D × D)) (t : Tk)
  | ins (C : Addr) (fs : List (Str × D))
abbrev Mem := Addr → Option MO
def mset (M : Mem) (a : Addr) (o : MO) : Mem := fun b => if b = a then some o else M b
theorem mset_same {M : Mem} {a : Addr} {o : MO} : mset M a o a = some o := by unfold mset; rw [if_pos rfl]
theorem mset_ne {M : Mem} {a b : Addr} {o : MO} (h : b ≠ a) : mset M a o b = M b := by unfold mset; rw [if_neg h]

mutual
def Rep (K : PySem.W.Frag) (H : Hp) : D → V → Prop
  | .non, v => v = .non
  | .bl b, v => v = .bl b
  | .int i, v => v = .int i
  | .str s, v => v = .str s
  | .ref a, v => v = .ref a
  | .tup ds, v => ∃ a vs, v = .ref a ∧ SqT K H a vs ∧ Reps K H ds vs
def Reps (K : PySem.W.Frag) (H : Hp) : List D → List V → Prop
  | [], vs => vs = []
  | d :: ds, vs => ∃ v r, vs = v :: r ∧ Rep K H d v ∧ Reps K H ds r
end

section
variable {K : PySem.W.Frag} {H H' : Hp}
theorem Reps.nil : Reps K H [] [] := rfl
theorem Reps.cons {d : D} {ds : List D} {v : V} {vs : List V} (h : Rep K H d v) (t : Reps K H ds vs) : Reps K H (d :: ds) (v :: vs) := ⟨v, vs, rfl, h, t⟩
theorem Reps.length : ∀ {ds : List D} {vs : List V}, Reps K H ds vs → ds.length = vs.length
  | [], _, h => by rw [show _ = _ from h]; rfl
  | d :: ds, _, h => by obtain ⟨v, r, rfl, _, t⟩ := h; rw [List.length_cons, List.length_cons, Reps.length t]
theorem Reps.get : ∀ {ds : List D} {vs : List V} {i : Nat} {d : D}, Reps K H ds vs → ds[i]? = some d → ∃ v, vs[i]? = some v ∧ Rep K H d v
  | [], _, _, _, _, e => by simp at e
  | x :: xs, _, 0, d, h, e => by obtain ⟨v, r, rfl, h1, t⟩ := h; simp at e; subst e; exact ⟨v, rfl, h1⟩
  | x :: xs, _, i + 1, d, h, e => by obtain ⟨v, r, rfl, h1, t⟩ := h; obtain ⟨w, e1, e2⟩ := Reps.get (i := i) t (by simpa using e); exact ⟨w, by simpa using e1, e2⟩
theorem Reps.append : ∀ {ds es : List D} {vs ws : List V}, Reps K H ds vs → Reps K H es ws → Reps K H (ds ++ es) (vs ++ ws)
  | [], _, _, _, h, t => by rw [show _ = _ from h]; exact t
  | d :: ds, _, _, _, h, t => by obtain ⟨v, r, rfl, h1, h2⟩ := h; exact .cons h1 (Reps.append h2 t)
theorem Reps.snoc {ds : List D} {vs : List V} {d : D} {v : V} (h : Reps K H ds vs) (r : Rep K H d v) : Reps K H (ds ++ [d]) (vs ++ [v]) := h.append (.cons r .nil)
theorem Reps.take : ∀ {ds : List D} {vs : List V} (n : Nat), Reps K H ds vs → Reps K H (ds.take n) (vs.take n)
  | _, _, 0, _ => rfl
  | [], _, n + 1, h => by rw [show _ = _ from h]; rfl
  | d :: ds, _, n + 1, h => by obtain ⟨v, r, rfl, h1, h2⟩ := h; exact .cons h1 (Reps.take n h2)
theorem Reps.drop : ∀ {ds : List D} {vs : List V} (n : Nat), Reps K H ds vs → Reps K H (ds.drop n) (vs.drop n)
  | _, _, 0, h => h
  | [], _, n + 1, h => by rw [show _ = _ from h]; rfl
  | d :: ds, _, n + 1, h => by obtain ⟨v, r, rfl, h1, h2⟩ := h; exact Reps.drop n h2
theorem Reps.set : ∀ {ds : List D} {vs : List V} (n : Nat) {d : D} {v : V}, Reps K H ds vs → Rep K H d v → Reps K H (ds.set n d) (vs.set n v)
  | [], _, _, _, _, h, _ => by rw [show _ = _ from h]; rfl
  | d :: ds, _, 0, _, _, h, q => by obtain ⟨v, r, rfl, h1, h2⟩ := h; exact .cons q h2
  | d :: ds, _, n + 1, _, _, h, q => by obtain ⟨v, r, rfl, h1, h2⟩ := h; exact .cons h1 (Reps.set n h2 q)
theorem Reps.reverse : ∀ {ds : List D} {vs : List V}, Reps K H ds vs → Reps K H ds.reverse vs.reverse
  | [], _, h => by rw [show _ = _ from h]; rfl
  | d :: ds, _, h => by obtain ⟨v, r, rfl, h1, h2⟩ := h; rw [List.reverse_cons, List.reverse_cons]; exact (Reps.reverse h2).snoc h1
theorem Reps.dropLast {ds : List D} {vs : List V} (h : Reps K H ds vs) : Reps K H ds.dropLast vs.dropLast := by
  rw [List.dropLast_eq_take, List.dropLast_eq_take, h.length]; exact h.take _
theorem Reps.eraseIdx {ds : List D} {vs : List V} (i : Nat) (h : Reps K H ds vs) : Reps K H (ds.eraseIdx i) (vs.eraseIdx i) := by
  rw [List.eraseIdx_eq_take_drop_succ, List.eraseIdx_eq_take_drop_succ]; exact (h.take _).append (h.drop _)
theorem Reps.flat {ds : List D} {vs : List V} (h : Reps K H ds vs) : ∀ k : Nat, Reps K H (List.replicate k ds).flatten (List.replicate k vs).flatten
  | 0 => rfl
  | k + 1 => by rw [List.replicate_succ, List.replicate_succ, List.flatten_cons, List.flatten_cons]; exact h.append (Reps.flat h k)
theorem Reps.ints : ∀ {ns : List Int}, Reps K H (ns.map D.int) (ns.map V.int)
  | [] => rfl
  | n :: ns => .cons (show Rep K H (.int n) (.int n) from rfl) (Reps.ints (ns := ns))
theorem Reps.ints_eq : ∀ {ns : List Int} {vs : List V}, Reps K H (ns.map D.int) vs → vs = ns.map V.int
  | [], _, h => h
  | n :: ns, _, h => by obtain ⟨v, r, rfl, h1, h2⟩ := h; rw [show v = _ from h1, Reps.ints_eq h2]; rfl
theorem Reps.strs_eq : ∀ {ns : List Str} {vs : List V}, Reps K H (ns.map D.str) vs → vs = ns.map V.str
  | [], _, h => h
  | n :: ns, _, h => by obtain ⟨v, r, rfl, h1, h2⟩ := h; rw [show v = _ from h1, Reps.strs_eq h2]; rfl
theorem Reps.bls_eq : ∀ {ns : List Bool} {vs : List V}, Reps K H (ns.map D.bl) vs → vs = ns.map V.bl
  | [], _, h => h
  | n :: ns, _, h => by obtain ⟨v, r, rfl, h1, h2⟩ := h; rw [show v = _ from h1, Reps.bls_eq h2]; rfl

/-- tuples are kept -/
def TKeep (K : PySem.W.Frag) (H H' : Hp) : Prop := ∀ a vs, SqT K H a vs → SqT K H' a vs
mutual
theorem Rep.keep (k : TKeep K H H') : ∀ (d : D) (v : V), Rep K H d v → Rep K H' d v
  | .non, _, h => h
  | .bl _, _, h => h
  | .int _, _, h => h
  | .str _, _, h => h
  | .ref _, _, h => h
  | .tup ds, _, h => by obtain ⟨a, vs, e, s, r⟩ := h; exact ⟨a, vs, e, k a vs s, Reps.keep k ds vs r⟩
theorem Reps.keep (k : TKeep K H H') : ∀ (ds : List D) (vs : List V), Reps K H ds vs → Reps K H' ds vs
  | [], _, h => h
  | d :: ds, _, h => by obtain ⟨v, r, e, h1, h2⟩ := h; exact ⟨v, r, e, Rep.keep k d v h1, Reps.keep k ds r h2⟩
end
end

/-- fields -/
def RepF (K : PySem.W.Frag) (H : Hp) : List (Str × D) → List (Str × V) → Prop := Paired fun p q => p.1 = q.1 ∧ Rep K H p.2 q.2
theorem RepF.keep {K : PySem.W.Frag} {H H' : Hp} (k : TKeep K H H') {fs : List (Str × D)} {gs : List (Str × V)} (h : RepF K H fs gs) : RepF K H' fs gs := Paired.mapP h fun p q z => ⟨z.1, Rep.keep k _ _ z.2⟩

/-! ### dicts: keys -/
/-- keys that stand by value: ints, texts -/
def D.flat? : D → Option Key
  | .int i => some (.inl i)
  | .str s => some (.inr s)
  | _ => none
mutual
/-- keys that are tuples, as nested keys -/
def D.nk : D → Option NestedKey
  | .non => some .none
  | .int i => some (.num i)
  | .str s => some (.text s)
  | .tup ds => (D.nks ds).map NestedKey.tup
  | .bl _ => none
  | .ref _ => none
def D.nks : List D → Option (List NestedKey)
  | [] => some []
  | d :: ds => match D.nk d, D.nks ds with
    | some k, some ks => some (k :: ks)
    | _, _ => none
end

/-! ### D: equality -/
mutual
def D.beq : D → D → Bool
  | .non, .non => true
  | .bl a, .bl b => a == b
  | .int a, .int b => decide (a = b)
  | .str a, .str b => decide (a = b)
  | .tup a, .tup b => D.beqs a b
  | .ref a, .ref b => decide (a = b)
  | .non, .bl _ | .non, .int _ | .non, .str _ | .non, .tup _ | .non, .ref _ => false
  | .bl _, .non | .bl _, .int _ | .bl _, .str _ | .bl _, .tup _ | .bl _, .ref _ => false
  | .int _, .non | .int _, .bl _ | .int _, .str _ | .int _, .tup _ | .int _, .ref _ => false
  | .str _, .non | .str _, .bl _ | .str _, .int _ | .str _, .tup _ | .str _, .ref _ => false
  | .tup _, .non | .tup _, .bl _ | .tup _, .int _ | .tup _, .str _ | .tup _, .ref _ => false
  | .ref _, .non | .ref _, .bl _ | .ref _, .int _ | .ref _, .str _ | .ref _, .tup _ => false
def D.beqs : List D → List D → Bool
  | [], [] => true
  | a :: as, b :: bs => D.beq a b && D.beqs as bs
  | [], _ :: _ => false
  | _ :: _, [] => false
end
mutual
theorem D.beq_self : ∀ a : D, D.beq a a = true
  | .non => rfl
  | .bl a => by simp [D.beq]
  | .int a => by simp [D.beq]
  | .str a => by simp [D.beq]
  | .ref a => by simp [D.beq]
  | .tup a => by rw [D.beq]; exact D.beqs_self a
theorem D.beqs_self : ∀ a : List D, D.beqs a a = true
  | [] => rfl
  | a :: as => by rw [D.beqs, D.beq_self a, D.beqs_self as]; rfl
end
mutual
theorem D.eq_of_beq : ∀ a b : D, D.beq a b = true → a = b
  | .non, b, h => by cases b <;> simp [D.beq] at h ⊢
  | .bl a, b, h => by cases b <;> simp [D.beq] at h ⊢; exact h
  | .int a, b, h => by cases b <;> simp [D.beq] at h ⊢; exact h
  | .str a, b, h => by cases b <;> simp [D.beq] at h ⊢; exact h
  | .ref a, b, h => by cases b <;> simp [D.beq] at h ⊢; exact h
  | .tup a, b, h => by
    cases b with
    | tup b => rw [D.beq] at h; rw [D.eq_of_beqs a b h]
    | _ => simp [D.beq] at h
theorem D.eq_of_beqs : ∀ a b : List D, D.beqs a b = true → a = b
  | [], [], _ => rfl
  | a :: as, b :: bs, h => by
    rw [D.beqs, Bool.and_eq_true] at h
    rw [D.eq_of_beq a b h.1, D.eq_of_beqs as bs h.2]
  | [], _ :: _, h => by simp [D.beqs] at h
  | _ :: _, [], h => by simp [D.beqs] at h
end
instance : DecidableEq D := fun a b => if h : D.beq a b = true then Decidable.isTrue (D.eq_of_beq a b h) else Decidable.isFalse fun e => h (e ▸ D.beq_self a)

theorem D.flat_inj {a b : D} {k : Key} (h : a.flat? = some k) (h' : b.flat? = some k) : a = b := by
  cases a <;> simp [D.flat?] at h <;> cases b <;> simp [D.flat?] at h' <;> subst h <;> simp at h' <;> rw [h']
mutual
theorem D.nk_inj : ∀ (a b : D) (k : NestedKey), a.nk = some k → b.nk = some k → a = b
  | .non, b, k, h, h' => by
    simp [D.nk] at h; subst h
    cases b <;> simp [D.nk] at h' ⊢
  | .int i, b, k, h, h' => by
    simp [D.nk] at h; subst h
    cases b <;> simp [D.nk] at h' ⊢
    exact h'.symm
  | .str i, b, k, h, h' => by
    simp [D.nk] at h; subst h
    cases b <;> simp [D.nk] at h' ⊢
    exact h'.symm
  | .bl _, _, _, h, _ => by simp [D.nk] at h
  | .ref _, _, _, h, _ => by simp [D.nk] at h
  | .tup ds, b, k, h, h' => by
    simp only [D.nk, Option.map_eq_some_iff] at h
    obtain ⟨ks, h1, rfl⟩ := h
    cases b with
    | tup es =>
      simp only [D.nk, Option.map_eq_some_iff] at h'
      obtain ⟨ls, h2, e⟩ := h'
      injection e with e
      subst e
      rw [D.nks_inj ds es _ h1 h2]
    | _ => simp [D.nk] at h'
theorem D.nks_inj : ∀ (a b : List D) (k : List NestedKey), D.nks a = some k → D.nks b = some k → a = b
  | [], [], _, _, _ => rfl
  | [], y :: ys, k, h, h' => by
    simp [D.nks] at h; subst h
    rw [D.nks] at h'
    split at h' <;> simp at h'
  | x :: xs, [], k, h, h' => by
    simp [D.nks] at h'; subst h'
    rw [D.nks] at h
    split at h <;> simp at h
  | x :: xs, y :: ys, k, h, h' => by
    rw [D.nks] at h h'
    split at h
    · rename_i k1 ks1 e1 e2
      split at h'
      · rename_i k2 ks2 e3 e4
        simp at h h'
        subst h
        obtain ⟨rfl, rfl⟩ := List.cons.inj h'
        rw [D.nk_inj x y _ e1 e3, D.nks_inj xs ys _ e2 e4]
      · simp at h'
    · simp at h
end

/-! ### tables of data -/
def valD (kvs : List (D × D)) (k : D) : Option D := (kvs.find? fun kv => decide (kv.1 = k)).map (·.2)
def putD (kvs : List (D × D)) (k v : D) : List (D × D) :=
  if (kvs.any fun kv => decide (kv.1 = k)) = true then kvs.map (fun kv => if kv.1 = k then (kv.1, v) else kv) else kvs ++ [(k, v)]
def dropD (kvs : List (D × D)) (k : D) : List (D × D) := kvs.filter fun kv => decide (kv.1 ≠ k)

section
variable (P : Program) (w : World) (K : PySem.W.Frag) (H : Hp)
/-- the entries of a dict whose keys stand by value -/
def EntF (kvs : List (D × D)) (es : Array DictEntry) : Prop :=
  ∃ vs : List (Key × Value), Paired (fun (p : D × D) (q : Key × Value) => p.1.flat? = some q.1 ∧ ∃ v, Rep K H p.2 v ∧ RelV v q.2) kvs vs ∧ KeysOf (mixKind P w) es ∧ Pairs (mixKind P w) es.toList vs ∧ (vs.map (·.1)).Nodup
/-- .. whose keys are tuples -/
def EntT (kvs : List (D × D)) (es : Array DictEntry) : Prop :=
  ∃ xs : List (NestedKey × Addr × Value), Paired (fun (p : D × D) (q : NestedKey × Addr × Value) => (p.1.nk = some q.1 ∧ q.1.depth ≤ 8 ∧ Rep K H p.1 (.ref q.2.1) ∧ ∃ ds, p.1 = .tup ds) ∧ ∃ v, Rep K H p.2 v ∧ RelV v q.2.2) kvs xs ∧ es.toList = xs.map (entryOfKey (nestedKind P w)) ∧ (xs.map (·.1)).Nodup
abbrev DX (a : Addr) (t : Tk) : HO := .ext fun h => h.DictRaw a t.1 t.2
def Cell (a : Addr) : MO → Prop
  | .lst ds => ∃ vs, H a = some (.lst vs) ∧ Reps K H ds vs
  | .rl ds => ∃ o vs, H a = some (.frz o (.lst vs)) ∧ Reps K H ds vs
  | .dict kvs t => H a = some (DX a t) ∧ (a == sysModules) = false ∧ kvs.length ≤ sizeLine ∧ (EntF P w K H kvs t.1 ∨ EntT P w K H kvs t.1)
  | .ins C fs => ∃ dx gs, H a = some (.ins C dx gs) ∧ RepF K H fs gs
def MRel (M : Mem) : Prop := ∀ a o, M a = some o → Cell P w K H a o
end

/-- what is tracked and not in the memory stays -/
def Keep (H : Hp) (M : Mem) (H' : Hp) (M' : Mem) : Prop := ∀ a o, H a = some o → M a = none → H' a = some o ∧ M' a = none
section
variable {P : Program} {w : World} {K : PySem.W.Frag} {H H' H1 : Hp} {M M' M1 : Mem} {a p : Addr}
theorem Keep.refl : Keep H M H M := fun _ _ h n => ⟨h, n⟩
theorem Keep.trans (k : Keep H M H1 M1) (l : Keep H1 M1 H' M') : Keep H M H' M' := fun a o h n => let ⟨x, y⟩ := k a o h n; l a o x y
theorem Cell.some {mo : MO} (c : Cell P w K H a mo) : ∃ o, H a = some o := by
  cases mo with
  | lst ds => obtain ⟨vs, e, _⟩ := c; exact ⟨_, e⟩
  | rl ds => obtain ⟨o, vs, e, _⟩ := c; exact ⟨_, e⟩
  | dict kvs t => obtain ⟨e, _⟩ := c; exact ⟨_, e⟩
  | ins C fs => obtain ⟨dx, gs, e, _⟩ := c; exact ⟨_, e⟩
theorem Cell.noTup {mo : MO} (c : Cell P w K H a mo) {vs : List V} : ¬ Rd H a (.tup vs) := by
  intro r
  cases mo with
  | lst ds => obtain ⟨vs, e, _⟩ := c; rcases r with r | ⟨o, r⟩ <;> rw [e] at r <;> cases r
  | rl ds => obtain ⟨o, vs, e, _⟩ := c; rcases r with r | ⟨o, r⟩ <;> rw [e] at r <;> cases r
  | dict kvs t => obtain ⟨e, _⟩ := c; rcases r with r | ⟨o, r⟩ <;> rw [e] at r <;> cases r
  | ins C fs => obtain ⟨dx, gs, e, _⟩ := c; rcases r with r | ⟨o, r⟩ <;> rw [e] at r <;> cases r
theorem Cell.keep {mo : MO} (k : TKeep K H H') (e : H' a = H a) (c : Cell P w K H a mo) : Cell P w K H' a mo := by
  cases mo with
  | lst ds => obtain ⟨vs, e1, r⟩ := c; exact ⟨vs, e.trans e1, Reps.keep k _ _ r⟩
  | rl ds => obtain ⟨o, vs, e1, r⟩ := c; exact ⟨o, vs, e.trans e1, Reps.keep k _ _ r⟩
  | dict kvs t =>
    obtain ⟨e1, h1, h2, h3⟩ := c
    refine ⟨e.trans e1, h1, h2, ?_⟩
    rcases h3 with ⟨vs, q, r⟩ | ⟨xs, q, r⟩
    · exact .inl ⟨vs, Paired.mapP q fun p q z => ⟨z.1, let ⟨v, z1, z2⟩ := z.2; ⟨v, Rep.keep k _ _ z1, z2⟩⟩, r⟩
    · exact .inr ⟨xs, Paired.mapP q fun p q z => ⟨⟨z.1.1, z.1.2.1, Rep.keep k _ _ z.1.2.2.1, z.1.2.2.2⟩, let ⟨v, z1, z2⟩ := z.2; ⟨v, Rep.keep k _ _ z1, z2⟩⟩, r⟩
  | ins C fs => obtain ⟨dx, gs, e1, r⟩ := c; exact ⟨dx, gs, e.trans e1, r.keep k⟩
theorem MRel.free (m : MRel P w K H M) (h : H p = none) : M p = none := by
  cases q : M p with
  | none => rfl
  | some mo => obtain ⟨o, e⟩ := (m p mo q).some; rw [h] at e; cases e
theorem Keep.tup (m : MRel P w K H M) (k : Keep H M H' M') : TKeep K H H' := fun a vs s => by
  rcases s with s | s
  · have n : M a = Option.none := by
      cases q : M a with
      | none => rfl
      | some mo => exact absurd s (m a mo q).noTup
    rcases s with s | ⟨o, s⟩
    · exact .inl (.inl (k a _ s n).1)
    · exact .inl (.inr ⟨o, (k a _ s n).1⟩)
  · exact .inr s
theorem tkeep_new {o : HO} (h : H p = none) : TKeep K H (upd H p o) := fun a vs s => by
  rcases s with (s | ⟨u, s⟩) | s
  · exact .inl (.inl (by rw [upd_ne (ne_of_none s h)]; exact s))
  · exact .inl (.inr ⟨u, by rw [upd_ne (ne_of_none s h)]; exact s⟩)
  · exact .inr s
/-- a new thing -/
theorem MRel.alloc {o : HO} {mo : MO} (m : MRel P w K H M) (h : H p = none) (c : TKeep K H (upd H p o) → Cell P w K (upd H p o) p mo) : MRel P w K (upd H p o) (mset M p mo) ∧ Keep H M (upd H p o) (mset M p mo) ∧ M p = none := by
  refine ⟨fun a u e => ?_, fun a u e n => ?_, m.free h⟩
  · by_cases q : a = p
    · subst q; rw [mset_same] at e; cases e; exact c (tkeep_new h)
    · rw [mset_ne q] at e; exact (m a u e).keep (tkeep_new h) (upd_ne q)
  · have ne : a ≠ p := ne_of_none e h
    rw [upd_ne ne, mset_ne ne]; exact ⟨e, n⟩
/-- a new tuple (or another thing that the memory does not have) -/
theorem MRel.allocT {o : HO} (m : MRel P w K H M) (h : H p = none) : MRel P w K (upd H p o) M ∧ Keep H M (upd H p o) M := by
  refine ⟨fun a u e => ?_, fun a u e n => ?_⟩
  · have q : a ≠ p := fun z => by subst z; rw [m.free h] at e; cases e
    exact (m a u e).keep (tkeep_new h) (upd_ne q)
  · have ne : a ≠ p := ne_of_none e h
    rw [upd_ne ne]; exact ⟨e, n⟩
theorem tkeep_write {o : HO} {mo : MO} (m : MRel P w K H M) (e : M a = some mo) : TKeep K H (upd H a o) := fun b vs s => by
  rcases s with s | s
  · have ne : b ≠ a := fun z => by subst z; exact (m b mo e).noTup s
    rcases s with s | ⟨u, s⟩
    · exact .inl (.inl (by rw [upd_ne ne]; exact s))
    · exact .inl (.inr ⟨u, by rw [upd_ne ne]; exact s⟩)
  · exact .inr s
/-- a thing of the memory is changed -/
theorem MRel.write {o : HO} {mo mo' : MO} (m : MRel P w K H M) (e : M a = some mo) (c : TKeep K H (upd H a o) → Cell P w K (upd H a o) a mo') : MRel P w K (upd H a o) (mset M a mo') ∧ Keep H M (upd H a o) (mset M a mo') := by
  refine ⟨fun b u q => ?_, fun b u q n => ?_⟩
  · by_cases z : b = a
    · subst z; rw [mset_same] at q; cases q; exact c (tkeep_write m e)
    · rw [mset_ne z] at q; exact (m b u q).keep (tkeep_write m e) (upd_ne z)
  · have ne : b ≠ a := fun z => by subst z; rw [e] at n; cases n
    rw [upd_ne ne, mset_ne ne]; exact ⟨q, n⟩
end

/-! ### the lifted judgements -/
abbrev Env := List (Option D)
abbrev DK := D → Mem → Prop
abbrev WE := Env → Mem → DK → Prop
abbrev WT := Env → Mem → (Bool → Mem → Prop) → Prop
abbrev WA := Env → Mem → (List D → Mem → Prop) → Prop
structure DEnds where
  nx : Env → Mem → Prop
  rt : DK
  bk : Env → Mem → Prop := fun _ _ => False
  ct : Env → Mem → Prop := fun _ _ => False
abbrev WS := DEnds → Env → Mem → Prop

structure Rl (X : Cx) (σ : St) (H : Hp) (ρ : Env) (M : Mem) : Prop where
  len : ρ.length = σ.length
  slot : ∀ (i : Nat) d, ρ[i]? = some (some d) → ∃ v, σ[i]? = some (some v) ∧ Rep X.K H d v
  mem : MRel X.prog X.w X.K H M
section
variable {X : Cx} {σ : St} {H H' : Hp} {ρ : Env} {M M' : Mem}
theorem Rl.next (R : Rl X σ H ρ M) (m : MRel X.prog X.w X.K H' M') (k : Keep H M H' M') : Rl X σ H' ρ M' :=
  ⟨R.len, fun i d e => let ⟨v, e1, r⟩ := R.slot i d e; ⟨v, e1, Rep.keep (k.tup R.mem) d v r⟩, m⟩
theorem Rl.set (R : Rl X σ H ρ M) (i : Nat) {d : D} {v : V} (r : Rep X.K H d v) : Rl X (σ.set i (some v)) H (ρ.set i (some d)) M := by
  refine ⟨by rw [List.length_set, List.length_set]; exact R.len, fun j e q => ?_, R.mem⟩
  by_cases h : i = j
  · subst h
    by_cases hi : i < ρ.length
    · rw [List.getElem?_set_self hi] at q
      cases q
      exact ⟨v, by rw [List.getElem?_set_self (by rw [← R.len]; exact hi)], r⟩
    · rw [List.getElem?_eq_none (by rw [List.length_set]; omega)] at q; cases q
  · rw [List.getElem?_set_ne h] at q ⊢
    exact R.slot j e q
end

def lE (X : Cx) (w : WE) : TE := fun σ H Q => ∃ ρ M Q', Rl X σ H ρ M ∧ w ρ M Q' ∧ ∀ v H' d M', Rep X.K H' d v → MRel X.prog X.w X.K H' M' → Keep H M H' M' → Q' d M' → Q v H'
def lT (X : Cx) (w : WT) : TT := fun σ H Q => ∃ ρ M Q', Rl X σ H ρ M ∧ w ρ M Q' ∧ ∀ b H' M', MRel X.prog X.w X.K H' M' → Keep H M H' M' → Q' b M' → Q b H'
def lA (X : Cx) (w : WA) : TA := fun σ H Q => ∃ ρ M Q', Rl X σ H ρ M ∧ w ρ M Q' ∧ ∀ vs H' ds M', Reps X.K H' ds vs → MRel X.prog X.w X.K H' M' → Keep H M H' M' → Q' ds M' → Q vs H'
/-- what is wanted behind, lifted -/
structure EndsLe (X : Cx) (H : Hp) (M : Mem) (D' : DEnds) (D : Ends) : Prop where
  nx : ∀ σ' H' ρ' M', Rl X σ' H' ρ' M' → Keep H M H' M' → D'.nx ρ' M' → D.nx σ' H'
  rt : ∀ v H' d M', Rep X.K H' d v → MRel X.prog X.w X.K H' M' → Keep H M H' M' → D'.rt d M' → D.rt v H'
  bk : ∀ σ' H' ρ' M', Rl X σ' H' ρ' M' → Keep H M H' M' → D'.bk ρ' M' → D.bk σ' H'
  ct : ∀ σ' H' ρ' M', Rl X σ' H' ρ' M' → Keep H M H' M' → D'.ct ρ' M' → D.ct σ' H'
theorem EndsLe.after {X : Cx} {H H1 : Hp} {M M1 : Mem} {D' : DEnds} {D : Ends} (e : EndsLe X H M D' D) (k : Keep H M H1 M1) : EndsLe X H1 M1 D' D :=
  ⟨fun _ _ _ _ r l q => e.nx _ _ _ _ r (k.trans l) q, fun _ _ _ _ r m l q => e.rt _ _ _ _ r m (k.trans l) q, fun _ _ _ _ r l q => e.bk _ _ _ _ r (k.trans l) q, fun _ _ _ _ r l q => e.ct _ _ _ _ r (k.trans l) q⟩
def lS (X : Cx) (w : WS) : TS := fun D σ H => ∃ ρ M D', Rl X σ H ρ M ∧ w D' ρ M ∧ EndsLe X H M D' D

abbrev DEx (X : Cx) (e : Expr) (w : WE) : Prop := PE X e (lE X w)
abbrev DTs (X : Cx) (e : Expr) (w : WT) : Prop := PT X e (lT X w)
abbrev DAr (X : Cx) (es : List Expr) (w : WA) : Prop := PA X es (lA X w)
abbrev DSt (X : Cx) (st : Stmt) (w : WS) : Prop := PS X st (lS X w)
abbrev DSs (X : Cx) (st : List Stmt) (w : WS) : Prop := PSs X st (lS X w)

section
variable {X : Cx} {e : Expr}
theorem pe_imp {t t' : TE} (h : PE X e t) (i : ∀ σ H Q, t' σ H Q → t σ H Q) : PE X e t' := ⟨fun pins s σ H Q I q => h.run pins s σ H Q I (i _ _ _ q)⟩
theorem pt_imp {t t' : TT} (h : PT X e t) (i : ∀ σ H Q, t' σ H Q → t σ H Q) : PT X e t' := ⟨fun pins s σ H Q I q => h.run pins s σ H Q I (i _ _ _ q)⟩
theorem pw_imp {t t' : TT} (h : PW X e t) (i : ∀ σ H Q, t' σ H Q → t σ H Q) : PW X e t' := ⟨fun wh pins s σ H Q I q => h.run wh pins s σ H Q I (i _ _ _ q)⟩
theorem pa_imp {es : List Expr} {t t' : TA} (h : PA X es t) (i : ∀ σ H Q, t' σ H Q → t σ H Q) : PA X es t' := ⟨fun pos pins s σ H Q I q => h.run pos pins s σ H Q I (i _ _ _ q)⟩
theorem ps_imp {st : Stmt} {t t' : TS} (h : PS X st t) (i : ∀ D σ H, t' D σ H → t D σ H) : PS X st t' := ⟨fun pins s σ H D I q => h.run pins s σ H D I (i _ _ _ q)⟩
theorem pss_imp {st : List Stmt} {t t' : TS} (h : PSs X st t) (i : ∀ D σ H, t' D σ H → t D σ H) : PSs X st t' := ⟨fun pins s σ H D I q => h.run pins s σ H D I (i _ _ _ q)⟩
/-- the reading of a part, used in the reading of the whole -/
theorem lE_use {w : WE} {σ : St} {H : Hp} {ρ : Env} {M : Mem} {Q' : DK} {Q : VK} (R : Rl X σ H ρ M) (h : w ρ M Q') (k : ∀ v H' d M', Rep X.K H' d v → MRel X.prog X.w X.K H' M' → Keep H M H' M' → Q' d M' → Q v H') : lE X w σ H Q := ⟨ρ, M, Q', R, h, k⟩

/-! ### names, constants -/
def wVar (i : Nat) : WE := fun ρ M Q => ∃ d, ρ[i]? = some (some d) ∧ Q d M
def wC (d : D) : WE := fun _ M Q => Q d M
theorem de_var {i : Nat} (h : PE X e (tVar i)) : DEx X e (wVar i) := pe_imp h fun σ H Q ⟨ρ, M, Q', R, ⟨d, e, q⟩, k⟩ => let ⟨v, e', r⟩ := R.slot i d e; ⟨v, e', k v H d M r R.mem .refl q⟩
theorem de_c {v : V} {d : D} (h : PE X e (tC v)) (r : ∀ H, Rep X.K H d v) : DEx X e (wC d) := pe_imp h fun σ H Q ⟨ρ, M, Q', R, q, k⟩ => k v H d M (r H) R.mem .refl q

/-! ### operators by values -/
abbrev W2 := D → D → Mem → DK → Prop
def Lift2 (X : Cx) (r : R2) (g : W2) : Prop := ∀ H M x y d e Q (Q' : DK), MRel X.prog X.w X.K H M → Rep X.K H d x → Rep X.K H e y → g d e M Q' → (∀ v H' d' M', Rep X.K H' d' v → MRel X.prog X.w X.K H' M' → Keep H M H' M' → Q' d' M' → Q v H') → r x y H Q
def wBin (g : W2) (wa wb : WE) : WE := fun ρ M Q => wa ρ M fun d M1 => wb ρ M1 fun e M2 => g d e M2 Q
theorem lift_bin {r : R2} {g : W2} {wa wb : WE} (l : Lift2 X r g) : ∀ σ H Q, lE X (wBin g wa wb) σ H Q → tOp r (lE X wa) (lE X wb) σ H Q := fun σ H Q ⟨ρ, M, Q', R, q, k⟩ =>
  ⟨ρ, M, _, R, q, fun x H1 d M1 r1 m1 k1 q1 => ⟨ρ, M1, _, R.next m1 k1, q1, fun y H2 e M2 r2 m2 k2 q2 =>
    l H2 M2 x y d e Q Q' m2 (Rep.keep (k2.tup m1) _ _ r1) r2 q2 fun v H3 d3 M3 r3 m3 k3 q3 => k v H3 d3 M3 r3 m3 (k1.trans (k2.trans k3)) q3⟩⟩
theorem de_op {a b : Expr} {op : Operator} {pos : Pos} {r : R2} {g : W2} {wa wb : WE} (ho : OpR X (binaryOp op) r) (l : Lift2 X r g) (ha : DEx X a wa) (hb : DEx X b wb) : DEx X (.BinOp a op b pos) (wBin g wa wb) := pe_imp (pe_op ho ha hb) (lift_bin l)
theorem de_cmp {a b : Expr} {op : CmpOp} {pos : Pos} {r : R2} {g : W2} {wa wb : WE} (ho : OpR X (compareOp op) r) (l : Lift2 X r g) (ha : DEx X a wa) (hb : DEx X b wb) (hm : behindInMarks op b = false) : DEx X (.Compare a [op] [b] pos) (wBin g wa wb) := pe_imp (pe_cmpR ho ha hb hm) (lift_bin l)
/-- a value as a test -/
def wB (w : WE) : WT := fun ρ M Q => w ρ M fun d M1 => ∃ b, d = .bl b ∧ Q b M1
theorem lift_tt {w : WE} {t : TE} (l : ∀ σ H Q, lE X w σ H Q → t σ H Q) : ∀ σ H Q, lT X (wB w) σ H Q → tTest t σ H Q := fun σ H Q ⟨ρ, M, Q', R, q, k⟩ =>
  l σ H _ ⟨ρ, M, _, R, q, fun x H1 d M1 r1 m1 k1 ⟨b, e, q1⟩ => by
    subst e
    cases (show x = .bl b from r1)
    exact ⟨b, rfl, k b H1 M1 m1 k1 q1⟩⟩
theorem dt_cmp {a b : Expr} {op : CmpOp} {pos : Pos} {r : R2} {g : W2} {wa wb : WE} (ho : OpR X (compareOp op) r) (l : Lift2 X r g) (ha : DEx X a wa) (hb : DEx X b wb) (hm : behindInMarks op b = false) : DTs X (.Compare a [op] [b] pos) (wB (wBin g wa wb)) := pt_imp (pt_cmpR ho ha hb hm) (lift_tt (lift_bin l))

/-! ### and, or, not -/
def wNotT (w : WT) : WT := fun ρ M Q => w ρ M fun b M1 => Q (!b) M1
def wAndT (a b : WT) : WT := fun ρ M Q => a ρ M fun c M1 => if c = true then b ρ M1 Q else Q false M1
def wOrT (a b : WT) : WT := fun ρ M Q => a ρ M fun c M1 => if c = true then Q true M1 else b ρ M1 Q
theorem dt_not {a : Expr} {pos : Pos} {w : WT} (h : DTs X a w) : DTs X (.UnaryOp .Not a pos) (wNotT w) := pt_imp (pt_not h) fun σ H Q ⟨ρ, M, Q', R, q, k⟩ => ⟨ρ, M, _, R, q, fun b H1 M1 m1 k1 q1 => k _ H1 M1 m1 k1 q1⟩
theorem lift_and {wa wb : WT} : ∀ σ H Q, lT X (wAndT wa wb) σ H Q → tAnd (lT X wa) (lT X wb) σ H Q := fun σ H Q ⟨ρ, M, Q', R, q, k⟩ => ⟨ρ, M, _, R, q, fun b H1 M1 m1 k1 q1 => by
  cases b with
  | true => rw [if_pos rfl] at q1 ⊢; exact ⟨ρ, M1, Q', R.next m1 k1, q1, fun b H2 M2 m2 k2 q2 => k b H2 M2 m2 (k1.trans k2) q2⟩
  | false => rw [if_neg Bool.false_ne_true] at q1 ⊢; exact k _ H1 M1 m1 k1 q1⟩
theorem lift_or {wa wb : WT} : ∀ σ H Q, lT X (wOrT wa wb) σ H Q → tOr (lT X wa) (lT X wb) σ H Q := fun σ H Q ⟨ρ, M, Q', R, q, k⟩ => ⟨ρ, M, _, R, q, fun b H1 M1 m1 k1 q1 => by
  cases b with
  | false => rw [if_neg Bool.false_ne_true] at q1 ⊢; exact ⟨ρ, M1, Q', R.next m1 k1, q1, fun b H2 M2 m2 k2 q2 => k b H2 M2 m2 (k1.trans k2) q2⟩
  | true => rw [if_pos rfl] at q1 ⊢; exact k _ H1 M1 m1 k1 q1⟩
abbrev DWs (X : Cx) (e : Expr) (w : WT) : Prop := PW X e (lT X w)
theorem dw_and1 {a : Expr} {pos : Pos} {w : WT} (h : DTs X a w) : DWs X (.BoolOp .And [a] pos) w := pw_and1 h
theorem dw_or1 {a : Expr} {pos : Pos} {w : WT} (h : DTs X a w) : DWs X (.BoolOp .Or [a] pos) w := pw_or1 h
theorem dw_and {a b : Expr} {rest : List Expr} {pos : Pos} {wa wb : WT} (h : DTs X a wa) (hr : DWs X (.BoolOp .And (b :: rest) pos) wb) : DWs X (.BoolOp .And (a :: b :: rest) pos) (wAndT wa wb) := pw_imp (pw_and h hr) lift_and
theorem dw_or {a b : Expr} {rest : List Expr} {pos : Pos} {wa wb : WT} (h : DTs X a wa) (hr : DWs X (.BoolOp .Or (b :: rest) pos) wb) : DWs X (.BoolOp .Or (a :: b :: rest) pos) (wOrT wa wb) := pw_imp (pw_or h hr) lift_or
def wIfE (c : WT) (a b : WE) : WE := fun ρ M Q => c ρ M fun k M1 => if k = true then a ρ M1 Q else b ρ M1 Q
theorem de_if {c a b : Expr} {pos : Pos} {wc : WT} {wa wb : WE} (hc : DTs X c wc) (ha : DEx X a wa) (hb : DEx X b wb) : DEx X (.IfExp c a b pos) (wIfE wc wa wb) := pe_imp (pe_ifExp hc ha hb) fun σ H Q ⟨ρ, M, Q', R, q, k⟩ => ⟨ρ, M, _, R, q, fun c H1 M1 m1 k1 q1 => by
  cases c with
  | true => rw [if_pos rfl] at q1 ⊢; exact ⟨ρ, M1, Q', R.next m1 k1, q1, fun v H2 d M2 r2 m2 k2 q2 => k v H2 d M2 r2 m2 (k1.trans k2) q2⟩
  | false => rw [if_neg Bool.false_ne_true] at q1 ⊢; exact ⟨ρ, M1, Q', R.next m1 k1, q1, fun v H2 d M2 r2 m2 k2 q2 => k v H2 d M2 r2 m2 (k1.trans k2) q2⟩⟩

/-! ### truth -/
def truD (d : D) (M : Mem) : Option Bool :=
  match d with
  | .non => some false
  | .bl b => some b
  | .int i => some (decide (i ≠ 0))
  | .str s => if s.length ≤ sizeLine then some (decide (s.length ≠ 0)) else none
  | .tup ds => some (!ds.isEmpty)
  | .ref a => match M a with
    | some (.lst ds) => some (!ds.isEmpty)
    | some (.rl ds) => some (!ds.isEmpty)
    | _ => none
end
end Fw

set_option Elab.async false
set_option linter.all false
set_option maxRecDepth 100000
set_option maxHeartbeats 4000000
/-! FwOps: operators, comparisons, subscripts, slices over data -/
namespace Fw
open PySem PySem.Spec PyProof.Rows L2

/-! ### tuple * int, once and none -/
theorem tuple_mulSame (l : Addr) (items : Array Value) (n : Nat) (dd : Option Addr) (sl : Array (Option Value)) (x : Int) (u : Tok) (c0 : (decide (x < -(2 ^ 63)) || decide (x ≥ 2 ^ 63)) = false) (c1 : (items.isEmpty || x == 1) = true) :
    Meets (Builtin.«tuple.__mul__» ⟨[.ref l, .int x u], []⟩) (fun _ R s => s.heap.get? l = some { cls := .type "tuple", dict := dd, data := .seq items n, slots := sl } ∧ R (.ok (.ret (Value.ref l))) { s with heap := s.heap, toks := s.toks }) :=
  .of_wp fun prog w A R s h => by
    obtain ⟨hp, g, d, tk, os⟩ := s
    obtain ⟨hl, h⟩ := h
    have f1 := AutoSeq1.idx_int
    wp_walk using wpAny_loadPart' hl
    repeat (first
      | (refine wpAny_ite_false (decide_eq_false (by rw [c0]; exact Bool.false_ne_true)) ?_; wp_walk using wpAny_loadPart' hl)
      | (refine wpAny_ite_true (decide_eq_true c1) ?_; wp_walk using wpAny_loadPart' hl))
    exact ⟨_, rfl, h⟩
theorem tuple_mulNone (l : Addr) (items : Array Value) (n : Nat) (dd : Option Addr) (sl : Array (Option Value)) (x : Int) (u : Tok) (c0 : (decide (x < -(2 ^ 63)) || decide (x ≥ 2 ^ 63)) = false) (c1 : (items.isEmpty || x == 1) = false) (c2 : (decide (x ≤ 0) || items.isEmpty) = true) :
    Meets (Builtin.«tuple.__mul__» ⟨[.ref l, .int x u], []⟩) (fun _ R s => s.heap.get? l = some { cls := .type "tuple", dict := dd, data := .seq items n, slots := sl } ∧
      R (.ok (.ret (Value.ref s.heap.objs.size))) { s with heap := s.heap.push { cls := Value.type "tuple", data := Data.seq #[] }, toks := s.toks }) :=
  .of_wp fun prog w A R s h => by
    obtain ⟨hp, g, d, tk, os⟩ := s
    obtain ⟨hl, h⟩ := h
    have f1 := AutoSeq1.idx_int
    wp_walk using wpAny_loadPart' hl
    repeat (first
      | (refine wpAny_ite_false (decide_eq_false (by rw [c0]; exact Bool.false_ne_true)) ?_; wp_walk using wpAny_loadPart' hl)
      | (refine wpAny_ite_false (decide_eq_false (by rw [c1]; exact Bool.false_ne_true)) ?_; wp_walk using wpAny_loadPart' hl)
      | (refine wpAny_ite_true (decide_eq_true c2) ?_; wp_walk using wpAny_loadPart' hl))
    exact ⟨_, rfl, h⟩
/-- t * k, once, none or many times -/
def rRepA (K : PySem.W.Frag) : R2 := fun x y H Q => ∃ l k xs, x = .ref l ∧ y = .int k ∧ SqT K H l xs ∧ k ≤ 1000 ∧ -1000 ≤ k ∧ xs.length ≤ 1000 ∧
  (xs = [] ∨ k = 1 → Q (.ref l) H) ∧ (xs ≠ [] → k ≤ 0 → ∀ p, H p = none → Q (.ref p) (upd H p (.tup []))) ∧ (xs ≠ [] → 2 ≤ k → ∀ p, H p = none → Q (.ref p) (upd H p (.tup (List.replicate k.toNat xs).flatten)))
theorem op_repA {X : Cx} : OpR X (binaryOp .Mult) (rRepA X.K) := by
  intro pins s σ H x y v u Q I rx ry h
  obtain ⟨l, k, xs, rfl, rfl, hT, h1, h0, hz, q0, q1, q2⟩ := h
  by_cases c : xs = [] ∨ k = 1
  · cases rx
    obtain ⟨t, rfl⟩ := ry
    obtain ⟨its, r, ⟨⟨cls, dd, data, sl⟩, ho, hc, n, hd⟩, hs⟩ := I.tuple hT
    simp only at hc hd
    subst hc hd
    have c0 : (decide (k < -(2 ^ 63)) || decide (k ≥ 2 ^ 63)) = false := by
      rw [decide_eq_false (by omega), decide_eq_false (by omega)] <;> rfl
    have c1 : (its.toArray.isEmpty || k == 1) = true := by
      rcases c with c | c
      · subst c; cases r; rfl
      · rw [c]; simp
    exact wpAny_binaryOp_repeat_ref (T := "tuple") (U := "int") (by decide) ⟨_, ho, rfl⟩ (fun s' => typeIs_int s' k t) noFill_tuple_mul F.fills_int_mul F.slot_int_rmul repeat_tuple F.slot_int_index.lookup
      (call_meets F.slot_int_rmul (typeIs_int s k t) F.entry_int_rmul (F.args_int_rmul_2 _ _) (int_rmul_tuple k t l its.toArray n dd sl)
        ⟨ho, rfl, ⟨_, ho, rfl⟩, call_meets F.slot_tuple_mul ⟨_, ho, rfl⟩ F.entry_tuple_mul (F.args_tuple_mul_2 _ _) (tuple_mulSame l its.toArray n dd sl k t c0 c1) ⟨ho, ⟨.ref l, H, I, rfl, q0 c⟩⟩⟩)
  · by_cases c2 : 2 ≤ k
    · exact op_repT pins s σ H _ _ v u Q I rx ry ⟨l, k, xs, rfl, rfl, hT, fun e => c (.inl e), c2, h1, hz, q2 (fun e => c (.inl e)) c2⟩
    · cases rx
      obtain ⟨t, rfl⟩ := ry
      obtain ⟨its, r, ⟨⟨cls, dd, data, sl⟩, ho, hc, n, hd⟩, hs⟩ := I.tuple hT
      simp only at hc hd
      subst hc hd
      have hk : k ≤ 0 := by
        have : k ≠ 1 := fun e => c (.inr e)
        omega
      have c0 : (decide (k < -(2 ^ 63)) || decide (k ≥ 2 ^ 63)) = false := by
        rw [decide_eq_false (by omega), decide_eq_false (by omega)] <;> rfl
      have hi : its.toArray.isEmpty = false := by
        cases its with
        | nil => cases r; exact absurd (.inl rfl) c
        | cons a b => rfl
      have c1 : (its.toArray.isEmpty || k == 1) = false := by
        rw [hi, Bool.false_or]
        exact beq_eq_false_iff_ne.mpr (by omega)
      have c3 : (decide (k ≤ 0) || its.toArray.isEmpty) = true := by
        rw [decide_eq_true hk]; rfl
      refine wpAny_binaryOp_repeat_ref (T := "tuple") (U := "int") (by decide) ⟨_, ho, rfl⟩ (fun s' => typeIs_int s' k t) noFill_tuple_mul F.fills_int_mul F.slot_int_rmul repeat_tuple F.slot_int_index.lookup
        (call_meets F.slot_int_rmul (typeIs_int s k t) F.entry_int_rmul (F.args_int_rmul_2 _ _) (int_rmul_tuple k t l its.toArray n dd sl)
          ⟨ho, rfl, ⟨_, ho, rfl⟩, call_meets F.slot_tuple_mul ⟨_, ho, rfl⟩ F.entry_tuple_mul (F.args_tuple_mul_2 _ _) (tuple_mulNone l its.toArray n dd sl k t c0 c1 c3) ⟨ho, ?_⟩⟩)
      refine ⟨.ref s.heap.objs.size, _, I.laid (t' := s.toks) (o := .tup []) (fun b ob q => Heap.get?_push_of_some _ q) (Nat.le_refl _) ?_, rfl, q1 (fun e => c (.inl e)) hk _ (I.hok.fresh (Nat.le_refl _))⟩
      exact ⟨Nat.zero_le _, [], .nil, IsTup.new _ _⟩

/-! ### data for == -/
mutual
def D.py : D → Option PyData
  | .non => some .none
  | .bl b => some (.bool b)
  | .int i => some (.int i)
  | .str s => some (.str s)
  | .ref _ => none
  | .tup ds => (D.pys ds).map PyData.tuple
def D.pys : List D → Option (List PyData)
  | [] => some []
  | d :: ds => match D.py d, D.pys ds with
    | some k, some ks => some (k :: ks)
    | _, _ => none
end
section
variable {K : PySem.W.Frag} {H : Hp}
mutual
theorem Rep.dp : ∀ (d : D) (p : PyData) (v : V), d.py = some p → Rep K H d v → Dp K H v p
  | .non, p, v, e, r => by simp [D.py] at e; subst e; cases (show v = .non from r); exact .non
  | .bl b, p, v, e, r => by simp [D.py] at e; subst e; cases (show v = .bl b from r); exact .bl b
  | .int b, p, v, e, r => by simp [D.py] at e; subst e; cases (show v = .int b from r); exact .int b
  | .str b, p, v, e, r => by simp [D.py] at e; subst e; cases (show v = .str b from r); exact .str b
  | .ref _, p, v, e, r => by simp [D.py] at e
  | .tup ds, p, v, e, r => by
    simp only [D.py, Option.map_eq_some_iff] at e
    obtain ⟨ps, e, rfl⟩ := e
    obtain ⟨a, vs, rfl, s, rs⟩ := r
    exact .tup s (Reps.dp ds ps vs e rs)
theorem Reps.dp : ∀ (ds : List D) (ps : List PyData) (vs : List V), D.pys ds = some ps → Reps K H ds vs → DpAll K H vs ps
  | [], ps, vs, e, r => by simp [D.pys] at e; subst e; rw [show vs = [] from r]; exact .nil
  | d :: ds, ps, vs, e, r => by
    obtain ⟨v, r', rfl, h1, h2⟩ := r
    rw [D.pys] at e
    split at e
    · rename_i k ks e1 e2
      simp at e; subst e
      exact .cons (Rep.dp d k v e1 h1) (Reps.dp ds ks r' e2 h2)
    · simp at e
end
end
/-- == of data, told whole: what both are as data -/
def EqIs (x y : D) (b : Bool) : Prop := ∃ p q, x.py = some p ∧ y.py = some q ∧ SeqAt.shaped p = true ∧ SeqAt.shaped q = true ∧ PyData.eqv p q = b
/-- scalars of one kind -/
def scEq : D → D → Option Bool
  | .int i, .int j => some (decide (i = j))
  | .str i, .str j => some (decide (i = j))
  | .bl i, .bl j => some (decide (i = j))
  | _, _ => none
def dEq (f : Bool → Bool) : W2 := fun x y M Q => match scEq x y with
  | some b => Q (.bl (f b)) M
  | none => ∃ b, EqIs x y b ∧ Q (.bl (f b)) M

section
variable {X : Cx}
/-! ### arithmetic and + -/
def rAddR (K : PySem.W.Frag) : R2 := fun x y H Q => rI0 (fun i j => .int (i + j)) x y H Q ∨ ((∃ i j, x = .str i ∧ y = .str j ∧ i.length + j.length ≤ sizeLine ∧ Q (.str (i ++ j)) H) ∨ (rCatA K x y H Q ∨ rCat x y H Q))
theorem op_addR : OpR X (binaryOp .Add) (rAddR X.K) := op_add.or (op_add_str.or (op_catA.or op_cat))
def dAdd : W2 := fun x y M Q => match x with
  | .int i => match y with
    | .int j => Q (.int (i + j)) M
    | _ => False
  | .str i => match y with
    | .str j => i.length + j.length ≤ sizeLine ∧ Q (.str (i ++ j)) M
    | _ => False
  | .tup i => match y with
    | .tup j => i.length + j.length ≤ sizeLine ∧ Q (.tup (i ++ j)) M
    | _ => False
  | .ref a => match y with
    | .ref b => ∃ xs ys, M a = some (.lst xs) ∧ M b = some (.lst ys) ∧ xs.length + ys.length ≤ sizeLine ∧ ∀ p, M p = none → Q (.ref p) (mset M p (.lst (xs ++ ys)))
    | _ => False
  | _ => False
theorem MRel.lst {P : Program} {w : World} {K : PySem.W.Frag} {H : Hp} {M : Mem} {a : Addr} {ds : List D} (m : MRel P w K H M) (e : M a = some (.lst ds)) : ∃ vs, H a = some (.lst vs) ∧ Reps K H ds vs := m a _ e
theorem lift_add : Lift2 X (rAddR X.K) dAdd := by
  intro H M x y d e Q Q' m rx ry h k
  cases d with
  | int i =>
    cases e with
    | int j => cases (show x = .int i from rx); cases (show y = .int j from ry); exact .inl ⟨i, j, rfl, rfl, k _ H (.int (i + j)) M rfl m .refl h⟩
    | _ => exact h.elim
  | str i =>
    cases e with
    | str j => cases (show x = .str i from rx); cases (show y = .str j from ry); exact .inr (.inl ⟨i, j, rfl, rfl, h.1, k _ H (.str (i ++ j)) M rfl m .refl h.2⟩)
    | _ => exact h.elim
  | tup i =>
    cases e with
    | tup j =>
      obtain ⟨a, vs, rfl, s, rs⟩ := rx
      obtain ⟨b, ws, rfl, s', rs'⟩ := ry
      have l1 := rs.length
      have l2 := rs'.length
      obtain ⟨hz, q⟩ := h
      refine .inr (.inr (.inl ⟨a, b, vs, ws, rfl, rfl, s, s', by omega, fun e => ?_, fun _ e => ?_, fun _ _ p np => ?_⟩))
      · subst e
        have e' : i = [] := List.eq_nil_of_length_eq_zero l1
        subst e'
        exact k _ H (.tup j) M ⟨b, ws, rfl, s', rs'⟩ m .refl q
      · subst e
        have e' : j = [] := List.eq_nil_of_length_eq_zero l2
        subst e'
        rw [List.append_nil] at q
        exact k _ H (.tup i) M ⟨a, vs, rfl, s, rs⟩ m .refl q
      · obtain ⟨m', k'⟩ := m.allocT (o := .tup (vs ++ ws)) np
        exact k _ _ (.tup (i ++ j)) M ⟨p, vs ++ ws, rfl, .of upd_same, (Reps.keep (tkeep_new np) _ _ rs).append (Reps.keep (tkeep_new np) _ _ rs')⟩ m' k' q
    | _ => exact h.elim
  | ref a =>
    cases e with
    | ref b =>
      cases (show x = .ref a from rx); cases (show y = .ref b from ry)
      obtain ⟨xs, ys, e1, e2, hz, q⟩ := h
      obtain ⟨vs, h1, r1⟩ := m.lst e1
      obtain ⟨ws, h2, r2⟩ := m.lst e2
      have l1 := r1.length
      have l2 := r2.length
      refine .inr (.inr (.inr ⟨a, b, vs, ws, rfl, rfl, h1, h2, by omega, fun p np => ?_⟩))
      obtain ⟨m', k', n⟩ := m.alloc (o := .lst (vs ++ ws)) (mo := .lst (xs ++ ys)) np fun t => ⟨_, upd_same, (Reps.keep t _ _ r1).append (Reps.keep t _ _ r2)⟩
      exact k _ _ (.ref p) _ rfl m' k' (q p n)
    | _ => exact h.elim
  | non => exact h.elim
  | bl b => exact h.elim
/-- ints alone -/
def dInt (C : Int → Int → Prop) (f : Int → Int → D) : W2 := fun x y M Q => match x with
  | .int i => match y with
    | .int j => C i j ∧ Q (f i j) M
    | _ => False
  | _ => False
def dInt0 (f : Int → Int → D) : W2 := fun x y M Q => match x with
  | .int i => match y with
    | .int j => Q (f i j) M
    | _ => False
  | _ => False
theorem lift_int {C : Int → Int → Prop} {g : Int → Int → V} {f : Int → Int → D} (hf : ∀ i j H, Rep X.K H (f i j) (g i j)) : Lift2 X (rI C g) (dInt C f) := by
  intro H M x y d e Q Q' m rx ry h k
  cases d with
  | int i =>
    cases e with
    | int j => cases (show x = .int i from rx); cases (show y = .int j from ry); exact ⟨i, j, rfl, rfl, h.1, k _ H _ M (hf i j H) m .refl h.2⟩
    | _ => exact h.elim
  | _ => exact h.elim
theorem lift_int0 {g : Int → Int → V} {f : Int → Int → D} (hf : ∀ i j H, Rep X.K H (f i j) (g i j)) : Lift2 X (rI0 g) (dInt0 f) := by
  intro H M x y d e Q Q' m rx ry h k
  cases d with
  | int i =>
    cases e with
    | int j => cases (show x = .int i from rx); cases (show y = .int j from ry); exact ⟨i, j, rfl, rfl, k _ H _ M (hf i j H) m .refl h⟩
    | _ => exact h.elim
  | _ => exact h.elim
/-- * -/
def rMulR (K : PySem.W.Frag) : R2 := fun x y H Q => rI CMul (fun i j => .int (i * j)) x y H Q ∨ (rRepA K x y H Q ∨ rRep x y H Q)
theorem op_mulR : OpR X (binaryOp .Mult) (rMulR X.K) := op_mul.or (op_repA.or op_rep)
def dMul : W2 := fun x y M Q => match x with
  | .int i => match y with
    | .int j => CMul i j ∧ Q (.int (i * j)) M
    | _ => False
  | .tup ds => match y with
    | .int k => ds.length ≤ 1000 ∧ -1000 ≤ k ∧ k ≤ 1000 ∧ Q (.tup (List.replicate k.toNat ds).flatten) M
    | _ => False
  | .ref a => match y with
    | .int k => ∃ xs, M a = some (.lst xs) ∧ -1000 ≤ k ∧ k ≤ 1000 ∧ xs.length * k.toNat ≤ sizeLine ∧ ∀ p, M p = none → Q (.ref p) (mset M p (.lst (List.replicate k.toNat xs).flatten))
    | _ => False
  | _ => False
theorem lift_mul : Lift2 X (rMulR X.K) dMul := by
  intro H M x y d e Q Q' m rx ry h k
  cases d with
  | int i =>
    cases e with
    | int j => cases (show x = .int i from rx); cases (show y = .int j from ry); exact .inl ⟨i, j, rfl, rfl, h.1, k _ H (.int (i * j)) M rfl m .refl h.2⟩
    | _ => exact h.elim
  | tup ds =>
    cases e with
    | int j =>
      obtain ⟨a, vs, rfl, s, rs⟩ := rx
      cases (show y = .int j from ry)
      obtain ⟨h1, h2, h3, q⟩ := h
      have l := rs.length
      refine .inr (.inl ⟨a, j, vs, rfl, rfl, s, h3, h2, by omega, fun c => ?_, fun ne c p np => ?_, fun ne c p np => ?_⟩)
      · have e : (List.replicate j.toNat ds).flatten = ds := by
          rcases c with c | c
          · subst c
            have e' : ds = [] := List.eq_nil_of_length_eq_zero l
            rw [e']; simp
          · subst c; simp
        rw [e] at q
        exact k _ H (.tup ds) M ⟨a, vs, rfl, s, rs⟩ m .refl q
      · have e : j.toNat = 0 := by omega
        rw [e] at q
        obtain ⟨m', k'⟩ := m.allocT (o := .tup []) np
        exact k _ _ (.tup []) M ⟨p, [], rfl, .of upd_same, rfl⟩ m' k' q
      · obtain ⟨m', k'⟩ := m.allocT (o := .tup (List.replicate j.toNat vs).flatten) np
        exact k _ _ (.tup (List.replicate j.toNat ds).flatten) M ⟨p, _, rfl, .of upd_same, (Reps.keep (tkeep_new np) _ _ rs).flat _⟩ m' k' q
    | _ => exact h.elim
  | ref a =>
    cases e with
    | int j =>
      cases (show x = .ref a from rx); cases (show y = .int j from ry)
      obtain ⟨xs, e1, h1, h2, hz, q⟩ := h
      obtain ⟨vs, hh, r1⟩ := m.lst e1
      have l := r1.length
      refine .inr (.inr ⟨a, j, vs, rfl, rfl, hh, by omega, by omega, by rw [← l]; exact hz, fun p np => ?_⟩)
      obtain ⟨m', k', n⟩ := m.alloc (o := .lst (List.replicate j.toNat vs).flatten) (mo := .lst (List.replicate j.toNat xs).flatten) np fun t => ⟨_, upd_same, (Reps.keep t _ _ r1).flat _⟩
      exact k _ _ (.ref p) _ rfl m' k' (q p n)
    | _ => exact h.elim
  | non => exact h.elim
  | bl b => exact h.elim
  | str b => exact h.elim

/-! ### comparisons -/
def rEqR (K : PySem.W.Frag) : R2 := fun x y H Q => rEq x y H Q ∨ rEqD K x y H Q
def rNeR (K : PySem.W.Frag) : R2 := fun x y H Q => rNe x y H Q ∨ rNeD K x y H Q
theorem op_eqR (hu : X.A.units + 64 < cLine) : OpR X (compareOp .Eq) (rEqR X.K) := op_eq.or (op_eqD hu)
theorem op_neR (hu : X.A.units + 64 < cLine) : OpR X (compareOp .NotEq) (rNeR X.K) := op_ne.or (op_neD hu)
theorem scEq_v {d e : D} {x y : V} {H : Hp} {b : Bool} (rx : Rep X.K H d x) (ry : Rep X.K H e y) (h : scEq d e = some b) : scal x y = true ∧ decide (x = y) = b := by
  cases d <;> cases e <;> simp [scEq] at h
  · cases (show x = _ from rx); cases (show y = _ from ry); exact ⟨rfl, by rw [← h, Bool.eq_iff_iff]; simp⟩
  · cases (show x = _ from rx); cases (show y = _ from ry); exact ⟨rfl, by rw [← h, Bool.eq_iff_iff]; simp⟩
  · cases (show x = _ from rx); cases (show y = _ from ry); exact ⟨rfl, by rw [← h, Bool.eq_iff_iff]; simp⟩
theorem lift_eq : Lift2 X (rEqR X.K) (dEq id) := by
  intro H M x y d e Q Q' m rx ry h k
  unfold dEq at h
  cases c : scEq d e with
  | some b =>
    rw [c] at h
    obtain ⟨h1, h2⟩ := scEq_v rx ry c
    exact .inl ⟨h1, k _ H (.bl b) M (by rw [h2]; rfl) m .refl h⟩
  | none =>
    rw [c] at h
    obtain ⟨b, ⟨p, q, e1, e2, s1, s2, e3⟩, h⟩ := h
    exact .inr ⟨p, q, Rep.dp _ _ _ e1 rx, Rep.dp _ _ _ e2 ry, s1, s2, k _ H (.bl b) M (by rw [e3]; rfl) m .refl h⟩
theorem lift_ne : Lift2 X (rNeR X.K) (dEq not) := by
  intro H M x y d e Q Q' m rx ry h k
  unfold dEq at h
  cases c : scEq d e with
  | some b =>
    rw [c] at h
    obtain ⟨h1, h2⟩ := scEq_v rx ry c
    exact .inl ⟨h1, k _ H (.bl (!b)) M (by rw [h2]; rfl) m .refl h⟩
  | none =>
    rw [c] at h
    obtain ⟨b, ⟨p, q, e1, e2, s1, s2, e3⟩, h⟩ := h
    exact .inr ⟨p, q, Rep.dp _ _ _ e1 rx, Rep.dp _ _ _ e2 ry, s1, s2, k _ H (.bl (!b)) M (by rw [e3]; rfl) m .refl h⟩
/-- is None, is of bools -/
def rIsR : R2 := fun x y H Q => (y = .non ∧ Q (.bl (decide (x = .non))) H) ∨ rIsB x y H Q
def rNotR : R2 := fun x y H Q => (y = .non ∧ Q (.bl (!decide (x = .non))) H) ∨ rNotB x y H Q
theorem op_isR : OpR X (compareOp .Is) rIsR := op_isN.or op_isBl
theorem op_notR : OpR X (compareOp .IsNot) rNotR := op_notN.or op_notBl
def isN : D → Bool
  | .non => true
  | _ => false
def dIs (f : Bool → Bool) : W2 := fun x y M Q => match y with
  | .non => Q (.bl (f (isN x))) M
  | .bl b => match x with
    | .bl a => Q (.bl (f (decide (a = b)))) M
    | _ => False
  | _ => False
theorem isN_v {d : D} {x : V} {H : Hp} (r : Rep X.K H d x) : decide (x = .non) = isN d := by
  cases d with
  | tup ds => obtain ⟨a, vs, rfl, _⟩ := r; rfl
  | _ => rw [show x = _ from r]; rfl
theorem lift_is : Lift2 X rIsR (dIs id) := by
  intro H M x y d e Q Q' m rx ry h k
  cases e with
  | non => cases (show y = _ from ry); exact .inl ⟨rfl, k _ H (.bl (isN d)) M (by rw [isN_v rx]; rfl) m .refl h⟩
  | bl b =>
    cases d with
    | bl a => cases (show x = _ from rx); cases (show y = _ from ry); exact .inr ⟨a, b, rfl, rfl, k _ H (.bl (decide (a = b))) M rfl m .refl h⟩
    | _ => exact h.elim
  | _ => exact h.elim
theorem lift_not : Lift2 X rNotR (dIs not) := by
  intro H M x y d e Q Q' m rx ry h k
  cases e with
  | non => cases (show y = _ from ry); exact .inl ⟨rfl, k _ H (.bl (!isN d)) M (by rw [isN_v rx]; rfl) m .refl h⟩
  | bl b =>
    cases d with
    | bl a => cases (show x = _ from rx); cases (show y = _ from ry); exact .inr ⟨a, b, rfl, rfl, k _ H (.bl (!decide (a = b))) M rfl m .refl h⟩
    | _ => exact h.elim
  | _ => exact h.elim
/-- < of ints and texts; <= .. of ints -/
def rLtR : R2 := fun x y H Q => rI0 (fun i j => .bl (decide (i < j))) x y H Q ∨ (∃ i j, x = .str i ∧ y = .str j ∧ Q (.bl (decide (i.cps.toList < j.cps.toList))) H)
theorem op_ltR : OpR X (compareOp .Lt) rLtR := op_lt.or op_lt_str
def dLt : W2 := fun x y M Q => match x with
  | .int i => match y with
    | .int j => Q (.bl (decide (i < j))) M
    | _ => False
  | .str i => match y with
    | .str j => Q (.bl (decide (i.cps.toList < j.cps.toList))) M
    | _ => False
  | _ => False
theorem lift_lt : Lift2 X rLtR dLt := by
  intro H M x y d e Q Q' m rx ry h k
  cases d with
  | int i =>
    cases e with
    | int j => cases (show x = .int i from rx); cases (show y = .int j from ry); exact .inl ⟨i, j, rfl, rfl, k _ H (.bl _) M rfl m .refl h⟩
    | _ => exact h.elim
  | str i =>
    cases e with
    | str j => cases (show x = .str i from rx); cases (show y = .str j from ry); exact .inr ⟨i, j, rfl, rfl, k _ H (.bl _) M rfl m .refl h⟩
    | _ => exact h.elim
  | _ => exact h.elim

/-! ### subscripts -/
def lIx (X : Cx) (r : R2) (g : W2) : Prop := Lift2 X r g
theorem de_ix {a b : Expr} {pos : Pos} {r : R2} {g : W2} {wa wb : WE} (hr : IxR X r) (l : Lift2 X r g) (ha : DEx X a wa) (hb : DEx X b wb) (hs : PlainIx b) : DEx X (.Subscript a b pos) (wBin g wa wb) := pe_imp (pe_ix hr ha hb hs) (lift_bin l)
theorem Reps.atI {K : PySem.W.Frag} {H : Hp} {ds : List D} {vs : List V} {i : Int} {d : D} (r : Reps K H ds vs) (h : L2.atI ds i = some d) : ∃ v, L2.atI vs i = some v ∧ Rep K H d v := by
  unfold L2.atI at h ⊢
  rw [r.length] at h
  obtain ⟨j, e1, e2⟩ := Option.bind_eq_some_iff.mp h
  obtain ⟨v, h1, h2⟩ := r.get e2
  exact ⟨v, by rw [e1]; exact h1, h2⟩
/-- t[i], xs[i], s[i], in bounds -/
def dIx : W2 := fun x y M Q => match y with
  | .int i => match x with
    | .tup ds => ∃ d, L2.atI ds i = some d ∧ Q d M
    | .str z => z.length ≤ sizeLine ∧ ∃ c, L2.atI z.cps.toList i = some c ∧ Q (.str ⟨#[c]⟩) M
    | .ref a => match M a with
      | some (.lst ds) => ∃ d, L2.atI ds i = some d ∧ Q d M
      | some (.rl ds) => ∃ d, L2.atI ds i = some d ∧ Q d M
      | _ => False
    | _ => False
  | _ => False
theorem lift_ix : Lift2 X (rIx X.K) dIx := by
  intro H M x y d e Q Q' m rx ry h k
  cases e with
  | int i =>
    cases (show y = .int i from ry)
    cases d with
    | tup ds =>
      obtain ⟨a, vs, rfl, s, rs⟩ := rx
      obtain ⟨d, e, q⟩ := h
      obtain ⟨v, e', r⟩ := rs.atI e
      exact .inr (.inl ⟨a, vs, i, v, rfl, rfl, s, e', k v H d M r m .refl q⟩)
    | str z =>
      cases (show x = .str z from rx)
      obtain ⟨hz, c, e, q⟩ := h
      exact .inr (.inr ⟨z, i, c, rfl, rfl, hz, e, k _ H (.str ⟨#[c]⟩) M rfl m .refl q⟩)
    | ref a =>
      cases (show x = .ref a from rx)
      unfold dIx at h
      simp only at h
      cases c : M a with
      | none => rw [c] at h; exact h.elim
      | some mo =>
        rw [c] at h
        cases mo with
        | lst ds =>
          obtain ⟨d, e, q⟩ := h
          obtain ⟨vs, hh, rs⟩ := m a _ c
          obtain ⟨v, e', r⟩ := rs.atI e
          exact .inl ⟨a, vs, i, v, rfl, rfl, .of hh, e', k v H d M r m .refl q⟩
        | rl ds =>
          obtain ⟨d, e, q⟩ := h
          obtain ⟨o, vs, hh, rs⟩ := m a _ c
          obtain ⟨v, e', r⟩ := rs.atI e
          exact .inl ⟨a, vs, i, v, rfl, rfl, .inl (.inr ⟨o, hh⟩), e', k v H d M r m .refl q⟩
        | dict _ _ => exact h.elim
        | ins _ _ => exact h.elim
    | non => exact h.elim
    | bl b => exact h.elim
    | int b => exact h.elim
  | _ => exact h.elim

/-! ### slices -/
def cutD (xs : List D) (lo hi : Option Int) : List D := (xs.drop (HT.sIx xs.length 0 lo)).take (HT.sIx xs.length xs.length hi - HT.sIx xs.length 0 lo)
theorem Reps.cut {K : PySem.W.Frag} {H : Hp} {ds : List D} {vs : List V} (r : Reps K H ds vs) (lo hi : Option Int) : Reps K H (cutD ds lo hi) (cutV vs lo hi) := by
  unfold cutD cutV
  rw [r.length]
  exact (r.drop _).take _
abbrev WO := Env → Mem → (Option Int → Mem → Prop) → Prop
def wNoPart : WO := fun _ M Q => Q none M
def wPart (w : WE) : WO := fun ρ M Q => w ρ M fun d M1 => ∃ i, d = .int i ∧ Q (some i) M1
def lO (X : Cx) (w : WO) : TO := fun σ H Q => ∃ ρ M Q', Rl X σ H ρ M ∧ w ρ M Q' ∧ ∀ o H' M', MRel X.prog X.w X.K H' M' → Keep H M H' M' → Q' o M' → Q o H'
abbrev DO (X : Cx) (e : Option Expr) (w : WO) : Prop := PO X e (lO X w)
theorem po_imp {e : Option Expr} {t t' : TO} (h : PO X e t) (i : ∀ σ H Q, t' σ H Q → t σ H Q) : PO X e t' := ⟨fun pins s σ H Q I q => h.run pins s σ H Q I (i _ _ _ q)⟩
theorem do_none : DO X none wNoPart := po_imp po_none fun σ H Q ⟨ρ, M, Q', R, q, k⟩ => k none H M R.mem .refl q
theorem do_some {e : Expr} {w : WE} (h : DEx X e w) : DO X (some e) (wPart w) := po_imp (po_some h) fun σ H Q ⟨ρ, M, Q', R, q, k⟩ => ⟨ρ, M, _, R, q, fun v H1 d M1 r1 m1 k1 ⟨i, e, q1⟩ => by
  subst e
  exact ⟨i, r1, k (some i) H1 M1 m1 k1 q1⟩⟩
def dSl (x : D) (lo hi : Option Int) (M : Mem) (Q : DK) : Prop := match x with
  | .tup ds => Q (.tup (cutD ds lo hi)) M
  | .str z => z.length ≤ sizeLine ∧ Q (.str (cutS z lo hi)) M
  | .ref a => match M a with
    | some (.lst ds) => ∀ p, M p = none → Q (.ref p) (mset M p (.lst (cutD ds lo hi)))
    | some (.rl ds) => ∀ p, M p = none → Q (.ref p) (mset M p (.lst (cutD ds lo hi)))
    | _ => False
  | _ => False
def wSl (we : WE) (wl wh : WO) : WE := fun ρ M Q => we ρ M fun d M1 => wl ρ M1 fun l M2 => wh ρ M2 fun u M3 => dSl d l u M3 Q
def rSlR (K : PySem.W.Frag) : V → Option Int → Option Int → Hp → VK → Prop := fun x lo hi H Q => rSlA K x lo hi H Q ∨ (rSlL K x lo hi H Q ∨ ∃ z, x = .str z ∧ z.length ≤ sizeLine ∧ Q (.str (cutS z lo hi)) H)
theorem sl_allR : SlR X (rSlR X.K) := sl_tupA.or (sl_list.or sl_str)
theorem cutD_whole {ds : List D} {lo hi : Option Int} (h : HT.sIx ds.length 0 lo = 0 ∧ HT.sIx ds.length ds.length hi = ds.length) : cutD ds lo hi = ds := by
  unfold cutD
  rw [h.1, h.2, List.drop_zero, Nat.sub_zero, List.take_length]
theorem lift_sl {H : Hp} {M : Mem} {x : V} {d : D} {lo hi : Option Int} {Q : VK} {Q' : DK} (m : MRel X.prog X.w X.K H M) (rx : Rep X.K H d x) (h : dSl d lo hi M Q') (k : ∀ v H' d' M', Rep X.K H' d' v → MRel X.prog X.w X.K H' M' → Keep H M H' M' → Q' d' M' → Q v H') : rSlR X.K x lo hi H Q := by
  cases d with
  | tup ds =>
    obtain ⟨a, vs, rfl, s, rs⟩ := rx
    have l := rs.length
    refine .inl ⟨a, vs, rfl, s, fun c => ?_, fun c p np => ?_⟩
    · rw [← l] at c
      have q : Q' (.tup ds) M := by
        have q : Q' (.tup (cutD ds lo hi)) M := h
        rw [cutD_whole c] at q
        exact q
      exact k _ H (.tup ds) M ⟨a, vs, rfl, s, rs⟩ m .refl q
    · obtain ⟨m', k'⟩ := m.allocT (o := .tup (cutV vs lo hi)) np
      exact k _ _ (.tup (cutD ds lo hi)) M ⟨p, _, rfl, .of upd_same, (Reps.keep (tkeep_new np) _ _ rs).cut lo hi⟩ m' k' h
  | str z => cases (show x = .str z from rx); exact .inr (.inr ⟨z, rfl, h.1, k _ H (.str (cutS z lo hi)) M rfl m .refl h.2⟩)
  | ref a =>
    cases (show x = .ref a from rx)
    unfold dSl at h
    simp only at h
    cases c : M a with
    | none => rw [c] at h; exact h.elim
    | some mo =>
      rw [c] at h
      cases mo with
      | lst ds =>
        obtain ⟨vs, hh, rs⟩ := m a _ c
        refine .inr (.inl ⟨a, vs, rfl, .of hh, fun p np => ?_⟩)
        obtain ⟨m', k', n⟩ := m.alloc (o := .lst (cutV vs lo hi)) (mo := .lst (cutD ds lo hi)) np fun t => ⟨_, upd_same, (Reps.keep t _ _ rs).cut lo hi⟩
        exact k _ _ (.ref p) _ rfl m' k' (h p n)
      | rl ds =>
        obtain ⟨o, vs, hh, rs⟩ := m a _ c
        refine .inr (.inl ⟨a, vs, rfl, .inl (.inr ⟨o, hh⟩), fun p np => ?_⟩)
        obtain ⟨m', k', n⟩ := m.alloc (o := .lst (cutV vs lo hi)) (mo := .lst (cutD ds lo hi)) np fun t => ⟨_, upd_same, (Reps.keep t _ _ rs).cut lo hi⟩
        exact k _ _ (.ref p) _ rfl m' k' (h p n)
      | dict _ _ => exact h.elim
      | ins _ _ => exact h.elim
  | non => exact h.elim
  | bl b => exact h.elim
  | int b => exact h.elim
theorem de_slice {e : Expr} {lo hi : Option Expr} {p2 pos : Pos} {we : WE} {wl wh : WO} (he : DEx X e we) (hl : DO X lo wl) (hh : DO X hi wh) : DEx X (.Subscript e (.Slice lo hi none p2) pos) (wSl we wl wh) :=
  pe_imp (pe_slice sl_allR he hl hh) fun σ H Q ⟨ρ, M, Q', R, q, k⟩ =>
    ⟨ρ, M, _, R, q, fun x H1 d M1 r1 m1 k1 q1 => ⟨ρ, M1, _, R.next m1 k1, q1, fun lo H2 M2 m2 k2 q2 => ⟨ρ, M2, _, (R.next m1 k1).next m2 k2, q2, fun hi H3 M3 m3 k3 q3 =>
      lift_sl m3 (Rep.keep ((k2.trans k3).tup m1) _ _ r1) q3 fun v H4 d4 M4 r4 m4 k4 q4 => k v H4 d4 M4 r4 m4 (k1.trans (k2.trans (k3.trans k4))) q4⟩⟩⟩

/-! ### arguments, displays -/
def wNil : WA := fun _ M Q => Q [] M
def wCons (we : WE) (wr : WA) : WA := fun ρ M Q => we ρ M fun d M1 => wr ρ M1 fun ds M2 => Q (d :: ds) M2
theorem da_nil : DAr X [] wNil := pa_imp pa_nil fun σ H Q ⟨ρ, M, Q', R, q, k⟩ => k [] H [] M rfl R.mem .refl q
theorem da_cons {e : Expr} {es : List Expr} {we : WE} {wr : WA} (he : DEx X e we) (hr : DAr X es wr) (hs : starEach (e :: es) X.env = (false, eval e X.env) :: starEach es X.env) : DAr X (e :: es) (wCons we wr) :=
  pa_imp (pa_cons he hr hs) fun σ H Q ⟨ρ, M, Q', R, q, k⟩ => ⟨ρ, M, _, R, q, fun v H1 d M1 r1 m1 k1 q1 => ⟨ρ, M1, _, R.next m1 k1, q1, fun vs H2 ds M2 r2 m2 k2 q2 => k (v :: vs) H2 (d :: ds) M2 (.cons (Rep.keep (k2.tup m1) _ _ r1) r2) m2 (k1.trans k2) q2⟩⟩
def wTup (w : WA) : WE := fun ρ M Q => w ρ M fun ds M1 => ds.length ≤ sizeLine ∧ Q (.tup ds) M1
def wLst (w : WA) : WE := fun ρ M Q => w ρ M fun ds M1 => ds.length ≤ sizeLine ∧ ∀ p, M1 p = none → Q (.ref p) (mset M1 p (.lst ds))
theorem de_tup {es : List Expr} {x1 : Nat} {pos : Pos} {w : WA} (h : DAr X es w) : DEx X (.Tuple es x1 pos) (wTup w) := pe_imp (pe_tup h) fun σ H Q ⟨ρ, M, Q', R, q, k⟩ => ⟨ρ, M, _, R, q, fun vs H1 ds M1 r1 m1 k1 ⟨hz, q1⟩ => ⟨by rw [← r1.length]; exact hz, fun p np => by
  obtain ⟨m', k'⟩ := m1.allocT (o := .tup vs) np
  exact k _ _ (.tup ds) M1 ⟨p, vs, rfl, .of upd_same, Reps.keep (tkeep_new np) _ _ r1⟩ m' (k1.trans k') q1⟩⟩
theorem de_lst {es : List Expr} {pos : Pos} {w : WA} (h : DAr X es w) : DEx X (.List es pos) (wLst w) := pe_imp (pe_lst h) fun σ H Q ⟨ρ, M, Q', R, q, k⟩ => ⟨ρ, M, _, R, q, fun vs H1 ds M1 r1 m1 k1 ⟨hz, q1⟩ => ⟨by rw [← r1.length]; exact hz, fun p np => by
  obtain ⟨m', k', n⟩ := m1.alloc (o := .lst vs) (mo := .lst ds) np fun t => ⟨_, upd_same, Reps.keep t _ _ r1⟩
  exact k _ _ (.ref p) _ rfl m' (k1.trans k') (q1 p n)⟩⟩

/-! ### built-in functions, built-in methods by values -/
abbrev WL := List D → Mem → DK → Prop
def LiftL (X : Cx) (r : List V → Hp → VK → Prop) (g : WL) : Prop := ∀ H M xs ds Q (Q' : DK), MRel X.prog X.w X.K H M → Reps X.K H ds xs → g ds M Q' → (∀ v H' d' M', Rep X.K H' d' v → MRel X.prog X.w X.K H' M' → Keep H M H' M' → Q' d' M' → Q v H') → r xs H Q
def wCall (g : WL) (w : WA) : WE := fun ρ M Q => w ρ M fun ds M1 => g ds M1 Q
theorem lift_cb {r : List V → Hp → VK → Prop} {g : WL} {w : WA} (l : LiftL X r g) : ∀ σ H Q, lE X (wCall g w) σ H Q → tCB r (lA X w) σ H Q := fun σ H Q ⟨ρ, M, Q', R, q, k⟩ =>
  ⟨ρ, M, _, R, q, fun vs H1 ds M1 r1 m1 k1 q1 => l H1 M1 vs ds Q Q' m1 r1 q1 fun v H2 d2 M2 r2 m2 k2 q2 => k v H2 d2 M2 r2 m2 (k1.trans k2) q2⟩
abbrev WM := D → List D → Mem → DK → Prop
def LiftM (X : Cx) (r : V → List V → Hp → VK → Prop) (g : WM) : Prop := ∀ H M x xs d ds Q (Q' : DK), MRel X.prog X.w X.K H M → Rep X.K H d x → Reps X.K H ds xs → g d ds M Q' → (∀ v H' d' M', Rep X.K H' d' v → MRel X.prog X.w X.K H' M' → Keep H M H' M' → Q' d' M' → Q v H') → r x xs H Q

/-! ### truth -/
theorem lift_tru {K : PySem.W.Frag} {P : Program} {w : World} {H : Hp} {M : Mem} {x : V} {d : D} {b : Bool} (m : MRel P w K H M) (r : Rep K H d x) (h : truD d M = some b) : TruV K x H b := by
  have eb : ∀ {ds : List D} {vs : List V}, Reps K H ds vs → (!ds.isEmpty) = (!vs.isEmpty) := fun {ds vs} r => by
    have l := r.length
    cases ds <;> cases vs <;> first | rfl | cases l
  cases d with
  | non => cases (show x = _ from r); cases h; rfl
  | bl b => cases (show x = _ from r); cases h; rfl
  | int i => cases (show x = _ from r); cases h; show decide (i ≠ 0) = (i != 0); rw [Bool.eq_iff_iff]; simp
  | str z =>
    cases (show x = _ from r)
    unfold truD at h
    simp only at h
    by_cases c : z.length ≤ sizeLine
    · rw [if_pos c] at h
      cases h
      refine ⟨c, ?_⟩
      rw [Bool.eq_iff_iff]; simp
    · rw [if_neg c] at h; cases h
  | tup ds =>
    obtain ⟨a, vs, rfl, s, rs⟩ := r
    cases h
    exact .inr (.inl ⟨vs, s, eb rs⟩)
  | ref a =>
    cases (show x = _ from r)
    unfold truD at h
    simp only at h
    cases c : M a with
    | none => rw [c] at h; cases h
    | some mo =>
      rw [c] at h
      cases mo with
      | lst ds => obtain ⟨vs, hh, rs⟩ := m a _ c; cases h; exact .inl ⟨vs, .of hh, eb rs⟩
      | rl ds => obtain ⟨o, vs, hh, rs⟩ := m a _ c; cases h; exact .inl ⟨vs, .inl (.inr ⟨o, hh⟩), eb rs⟩
      | dict _ _ => cases h
      | ins _ _ => cases h
/-- a value as a test, by its truth -/
def wTru (w : WE) : WT := fun ρ M Q => w ρ M fun d M1 => ∃ b, truD d M1 = some b ∧ Q b M1
theorem dt_tru {a : Expr} {w : WE} (h : DEx X a w) (he : ∀ whole, isTrue a X.env whole = (do let v ← whole; standAt a.pos; holding [v] (truthy v))) : DTs X a (wTru w) :=
  pt_imp (pt_truth h he) fun σ H Q ⟨ρ, M, Q', R, q, k⟩ => ⟨ρ, M, _, R, q, fun x H1 d M1 r1 m1 k1 ⟨b, e, q1⟩ => ⟨b, lift_tru m1 r1 e, k b H1 M1 m1 k1 q1⟩⟩
/-- not, and, or as values -/
def wNotV (w : WE) : WE := fun ρ M Q => w ρ M fun d M1 => ∃ b, truD d M1 = some b ∧ Q (.bl (!b)) M1
def wAndV (a b : WE) : WE := fun ρ M Q => a ρ M fun d M1 => ∃ c, truD d M1 = some c ∧ if c = true then b ρ M1 Q else Q d M1
def wOrV (a b : WE) : WE := fun ρ M Q => a ρ M fun d M1 => ∃ c, truD d M1 = some c ∧ if c = true then Q d M1 else b ρ M1 Q
theorem de_not {a : Expr} {pos : Pos} {w : WE} (h : DEx X a w) : DEx X (.UnaryOp .Not a pos) (wNotV w) := pe_imp (pe_notT h) fun σ H Q ⟨ρ, M, Q', R, q, k⟩ => ⟨ρ, M, _, R, q, fun x H1 d M1 r1 m1 k1 ⟨b, e, q1⟩ => ⟨b, lift_tru m1 r1 e, k _ H1 (.bl (!b)) M1 rfl m1 k1 q1⟩⟩
theorem de_one {op : BoolOp} {a : Expr} {pos : Pos} {w : WE} (h : DEx X a w) : DEx X (.BoolOp op [a] pos) w := pe_one h
theorem de_and {a b : Expr} {rest : List Expr} {pos : Pos} {wa wb : WE} (h : DEx X a wa) (hr : DEx X (.BoolOp .And (b :: rest) pos) wb) : DEx X (.BoolOp .And (a :: b :: rest) pos) (wAndV wa wb) :=
  pe_imp (pe_andT h hr) fun σ H Q ⟨ρ, M, Q', R, q, k⟩ => ⟨ρ, M, _, R, q, fun x H1 d M1 r1 m1 k1 ⟨b, e, q1⟩ => ⟨b, lift_tru m1 r1 e, by
    cases b with
    | true => rw [if_pos rfl] at q1 ⊢; exact ⟨ρ, M1, Q', R.next m1 k1, q1, fun v H2 d M2 r2 m2 k2 q2 => k v H2 d M2 r2 m2 (k1.trans k2) q2⟩
    | false => rw [if_neg Bool.false_ne_true] at q1 ⊢; exact k x H1 d M1 r1 m1 k1 q1⟩⟩
theorem de_or {a b : Expr} {rest : List Expr} {pos : Pos} {wa wb : WE} (h : DEx X a wa) (hr : DEx X (.BoolOp .Or (b :: rest) pos) wb) : DEx X (.BoolOp .Or (a :: b :: rest) pos) (wOrV wa wb) :=
  pe_imp (pe_orT h hr) fun σ H Q ⟨ρ, M, Q', R, q, k⟩ => ⟨ρ, M, _, R, q, fun x H1 d M1 r1 m1 k1 ⟨b, e, q1⟩ => ⟨b, lift_tru m1 r1 e, by
    cases b with
    | false => rw [if_neg Bool.false_ne_true] at q1 ⊢; exact ⟨ρ, M1, Q', R.next m1 k1, q1, fun v H2 d M2 r2 m2 k2 q2 => k v H2 d M2 r2 m2 (k1.trans k2) q2⟩
    | true => rw [if_pos rfl] at q1 ⊢; exact k x H1 d M1 r1 m1 k1 q1⟩⟩
/-- chains of two comparisons -/
def wChain (g g' : W2) (wa wb wc : WE) : WE := fun ρ M Q => wa ρ M fun d M1 => wb ρ M1 fun e M2 => g d e M2 fun z M3 => ∃ b, z = .bl b ∧ (if b = true then wc ρ M3 fun f M4 => g' e f M4 Q else Q (.bl false) M3)
theorem lift_chain {r r' : R2} {g g' : W2} {wa wb wc : WE} (l : Lift2 X r g) (l' : Lift2 X r' g') : ∀ σ H Q, lE X (wChain g g' wa wb wc) σ H Q → tChain r r' (lE X wa) (lE X wb) (lE X wc) σ H Q := fun σ H Q ⟨ρ, M, Q', R, q, k⟩ =>
  ⟨ρ, M, _, R, q, fun x H1 d M1 r1 m1 k1 q1 => ⟨ρ, M1, _, R.next m1 k1, q1, fun y H2 e M2 r2 m2 k2 q2 =>
    l H2 M2 x y d e _ _ m2 (Rep.keep (k2.tup m1) _ _ r1) r2 q2 fun v H3 d3 M3 r3 m3 k3 ⟨b, e3, q3⟩ => by
      subst e3
      cases (show v = .bl b from r3)
      refine ⟨b, rfl, ?_⟩
      cases b with
      | false => rw [if_neg Bool.false_ne_true] at q3 ⊢; exact k _ H3 (.bl false) M3 rfl m3 (k1.trans (k2.trans k3)) q3
      | true =>
        rw [if_pos rfl] at q3 ⊢
        exact ⟨ρ, M3, _, ((R.next m1 k1).next m2 k2).next m3 k3, q3, fun z H4 f M4 r4 m4 k4 q4 =>
          l' H4 M4 y z e f Q Q' m4 (Rep.keep ((k3.trans k4).tup m2) _ _ r2) r4 q4 fun v5 H5 d5 M5 r5 m5 k5 q5 => k v5 H5 d5 M5 r5 m5 (k1.trans (k2.trans (k3.trans (k4.trans k5)))) q5⟩⟩⟩
theorem de_chain {a b c : Expr} {op op' : CmpOp} {pos : Pos} {r r' : R2} {g g' : W2} {wa wb wc : WE} (ho : OpR X (compareOp op) r) (ho' : OpR X (compareOp op') r') (l : Lift2 X r g) (l' : Lift2 X r' g') (ha : DEx X a wa) (hb : DEx X b wb) (hc : DEx X c wc) (hm : lastMarks [op, op'] [b, c] = false) :
    DEx X (.Compare a [op, op'] [b, c] pos) (wChain g g' wa wb wc) := pe_imp (pe_chain ho ho' ha hb hc hm) (lift_chain l l')
theorem dt_chain {a b c : Expr} {op op' : CmpOp} {pos : Pos} {r r' : R2} {g g' : W2} {wa wb wc : WE} (ho : OpR X (compareOp op) r) (ho' : OpR X (compareOp op') r') (l : Lift2 X r g) (l' : Lift2 X r' g') (ha : DEx X a wa) (hb : DEx X b wb) (hc : DEx X c wc) (hm : lastMarks [op, op'] [b, c] = false) :
    DTs X (.Compare a [op, op'] [b, c] pos) (wB (wChain g g' wa wb wc)) := pt_imp (pt_chain ho ho' ha hb hc hm) (lift_tt (lift_chain l l'))
/-- - -/
def wNeg (w : WE) : WE := fun ρ M Q => w ρ M fun d M1 => ∃ i, d = .int i ∧ Q (.int (-i)) M1
theorem de_neg {a : Expr} {pos : Pos} {w : WE} (h : DEx X a w) : DEx X (.UnaryOp .USub a pos) (wNeg w) := pe_imp (pe_un un_neg h) fun σ H Q ⟨ρ, M, Q', R, q, k⟩ => ⟨ρ, M, _, R, q, fun x H1 d M1 r1 m1 k1 ⟨i, e, q1⟩ => by
  subst e
  exact ⟨i, r1, k _ H1 (.int (-i)) M1 rfl m1 k1 q1⟩⟩
end
end Fw

set_option Elab.async false
set_option linter.all false
set_option maxRecDepth 100000
set_option maxHeartbeats 4000000
/-! FwDict: dicts over data -/
namespace Fw
open PySem PySem.Spec PyProof.Rows L2

/-! ### keyed tables -/
section
variable {κ : Type} [DecidableEq κ] {kd : D → Option κ} {R : D → Value → Prop}
theorem val_rel (inj : ∀ a b k, kd a = some k → kd b = some k → a = b) {d : D} {k : κ} (hk : kd d = some k) : ∀ {kvs : List (D × D)} {vs : List (κ × Value)}, Paired (fun (p : D × D) (q : κ × Value) => kd p.1 = some q.1 ∧ R p.2 q.2) kvs vs →
    (valD kvs d = none ∧ valueAt vs k = none) ∨ ∃ e u, valD kvs d = some e ∧ valueAt vs k = some u ∧ R e u := by
  intro kvs vs r
  induction r with
  | nil => exact .inl ⟨rfl, rfl⟩
  | @cons p q ps qs h t ih =>
    obtain ⟨h1, h2⟩ := h
    by_cases e : q.1 = k
    · have e' : p.1 = d := inj _ _ k (by rw [h1, e]) hk
      exact .inr ⟨p.2, q.2, by simp [valD, List.find?_cons, e'], by simp [valueAt, List.find?_cons, e], h2⟩
    · have e' : ¬ p.1 = d := fun z => e (by rw [z, hk] at h1; exact (Option.some.inj h1).symm)
      have a1 : valD (p :: ps) d = valD ps d := by simp [valD, List.find?_cons, e']
      have a2 : valueAt (q :: qs) k = valueAt qs k := by simp [valueAt, List.find?_cons, e]
      rw [a1, a2]; exact ih
theorem any_rel (inj : ∀ a b k, kd a = some k → kd b = some k → a = b) {d : D} {k : κ} (hk : kd d = some k) : ∀ {kvs : List (D × D)} {vs : List (κ × Value)}, Paired (fun (p : D × D) (q : κ × Value) => kd p.1 = some q.1 ∧ R p.2 q.2) kvs vs →
    (kvs.any fun kv => decide (kv.1 = d)) = (vs.any fun kv => decide (kv.1 = k)) := by
  intro kvs vs r
  induction r with
  | nil => rfl
  | @cons p q ps qs h t ih =>
    obtain ⟨h1, h2⟩ := h
    rw [List.any_cons, List.any_cons, ih]
    congr 1
    rw [Bool.eq_iff_iff, decide_eq_true_iff, decide_eq_true_iff]
    exact ⟨fun z => by rw [z, hk] at h1; exact (Option.some.inj h1).symm, fun z => inj _ _ k (by rw [h1, z]) hk⟩
theorem put_rel (inj : ∀ a b k, kd a = some k → kd b = some k → a = b) {d e : D} {k : κ} {u : Value} (hk : kd d = some k) (he : R e u) {kvs : List (D × D)} {vs : List (κ × Value)} (r : Paired (fun (p : D × D) (q : κ × Value) => kd p.1 = some q.1 ∧ R p.2 q.2) kvs vs) :
    Paired (fun (p : D × D) (q : κ × Value) => kd p.1 = some q.1 ∧ R p.2 q.2) (putD kvs d e) (stored vs k u) := by
  unfold putD stored
  rw [any_rel inj hk r]
  by_cases c : (vs.any fun kv => decide (kv.1 = k)) = true
  · rw [if_pos c, if_pos c]
    clear c
    induction r with
    | nil => exact .nil
    | @cons p q ps qs h t ih =>
      obtain ⟨h1, h2⟩ := h
      rw [List.map_cons, List.map_cons]
      refine .cons ?_ ih
      by_cases z : q.1 = k
      · have z' : p.1 = d := inj _ _ k (by rw [h1, z]) hk
        rw [if_pos z, if_pos z']; exact ⟨h1, he⟩
      · have z' : ¬ p.1 = d := fun y => z (by rw [y, hk] at h1; exact (Option.some.inj h1).symm)
        rw [if_neg z, if_neg z']; exact ⟨h1, h2⟩
  · rw [if_neg c, if_neg c]; exact Paired.snoc r ⟨hk, he⟩
theorem drop_rel (inj : ∀ a b k, kd a = some k → kd b = some k → a = b) {d : D} {k : κ} (hk : kd d = some k) {kvs : List (D × D)} {vs : List (κ × Value)} (r : Paired (fun (p : D × D) (q : κ × Value) => kd p.1 = some q.1 ∧ R p.2 q.2) kvs vs) :
    Paired (fun (p : D × D) (q : κ × Value) => kd p.1 = some q.1 ∧ R p.2 q.2) (dropD kvs d) (without vs k) := by
  unfold dropD without
  induction r with
  | nil => exact .nil
  | @cons p q ps qs h t ih =>
    obtain ⟨h1, h2⟩ := h
    rw [List.filter_cons, List.filter_cons]
    by_cases z : q.1 = k
    · have z' : p.1 = d := inj _ _ k (by rw [h1, z]) hk
      have a : ¬ decide (p.1 ≠ d) = true := by simp [z']
      have b : ¬ decide (q.1 ≠ k) = true := by simp [z]
      rw [if_neg a, if_neg b]; exact ih
    · have z' : ¬ p.1 = d := fun y => z (by rw [y, hk] at h1; exact (Option.some.inj h1).symm)
      have a : decide (p.1 ≠ d) = true := by simp [z']
      have b : decide (q.1 ≠ k) = true := by simp [z]
      rw [if_pos a, if_pos b]; exact .cons ⟨h1, h2⟩ ih
end
theorem length_putD (kvs : List (D × D)) (k v : D) : (putD kvs k v).length ≤ kvs.length + 1 := by
  unfold putD
  split
  · rw [List.length_map]; omega
  · rw [List.length_append, List.length_cons, List.length_nil]; omega
theorem length_dropD (kvs : List (D × D)) (k : D) : (dropD kvs k).length ≤ kvs.length := List.length_filter_le _ _

/-- keys by value; keys that are tuples -/
def fkey (d : D) : Bool := d.flat?.isSome
def tkey : D → Bool
  | .tup ds => match D.nks ds with
    | some ks => decide ((NestedKey.tup ks).depth ≤ 8)
    | none => false
  | _ => false
/-- k may be asked of a dict with these entries -/
def keyOk (kvs : List (D × D)) (k : D) : Prop := (fkey k = true ∧ ∀ p ∈ kvs, fkey p.1 = true) ∨ (tkey k = true ∧ ∀ p ∈ kvs, tkey p.1 = true)
theorem tkey_some {d : D} (h : tkey d = true) : ∃ ds k, d = .tup ds ∧ d.nk = some k ∧ k.depth ≤ 8 := by
  cases d with
  | tup ds =>
    unfold tkey at h
    simp only at h
    cases c : D.nks ds with
    | none => rw [c] at h; cases h
    | some ks => rw [c] at h; exact ⟨ds, .tup ks, rfl, by rw [D.nk, c]; rfl, of_decide_eq_true h⟩
  | _ => cases h
theorem fkey_tkey {d : D} (h : fkey d = true) (h' : tkey d = true) : False := by
  obtain ⟨ds, k, rfl, _⟩ := tkey_some h'
  cases h

/-- the key as it stands in the heap -/
theorem rel_key {d : D} {k : Key} {v : V} {u : Value} {K : PySem.W.Frag} {H : Hp} (h : d.flat? = some k) (r : Rep K H d v) (rv : RelV v u) : v = kV k := by
  cases d <;> simp [D.flat?] at h
  · subst h; exact r
  · subst h; exact r

section
variable {X : Cx} {pins : List (Addr × Obj)} {σ : L2.St} {H : Hp} {s : Shared} {M : Mem}
mutual
theorem nis (I : Inv X pins σ H s) : ∀ (d : D) (k : NestedKey) (v : V) (u : Value), d.nk = some k → Rep X.K H d v → RelV v u → NestedIs s.heap k u
  | .non, k, v, u, e, r, rv => by
    simp [D.nk] at e; subst e
    cases (show v = .non from r); cases (show u = Value.none from rv); exact .none
  | .int i, k, v, u, e, r, rv => by
    simp [D.nk] at e; subst e
    cases (show v = .int i from r); obtain ⟨t, rfl⟩ := rv; exact .int i t
  | .str i, k, v, u, e, r, rv => by
    simp [D.nk] at e; subst e
    cases (show v = .str i from r); obtain ⟨t, rfl⟩ := rv; exact .text i t
  | .bl _, k, v, u, e, r, rv => by simp [D.nk] at e
  | .ref _, k, v, u, e, r, rv => by simp [D.nk] at e
  | .tup ds, k, v, u, e, r, rv => by
    simp only [D.nk, Option.map_eq_some_iff] at e
    obtain ⟨ks, e, rfl⟩ := e
    obtain ⟨a, vs, rfl, sq, rs⟩ := r
    cases (show u = Value.ref a from rv)
    obtain ⟨its, rv, ⟨o, ho, hc, n, hd⟩, _⟩ := I.tuple sq
    exact .tup ho hc hd (by simpa using niss I ds ks vs its e rs rv)
theorem niss (I : Inv X pins σ H s) : ∀ (ds : List D) (ks : List NestedKey) (vs : List V) (us : List Value), D.nks ds = some ks → Reps X.K H ds vs → Vals vs us → NestedAll s.heap ks us
  | [], ks, vs, us, e, r, rv => by
    simp [D.nks] at e; subst e
    rw [show vs = [] from r] at rv; cases rv; exact .nil
  | d :: ds, ks, vs, us, e, r, rv => by
    obtain ⟨v, r', rfl, h1, h2⟩ := r
    rw [D.nks] at e
    split at e
    · rename_i k ks' e1 e2
      simp at e; subst e
      cases rv with
      | cons q1 q2 => exact .cons (nis I d k v _ e1 h1 q1) (niss I ds ks' r' _ e2 h2 q2)
    · simp at e
end

abbrev RVal (X : Cx) (H : Hp) : D → Value → Prop := fun d u => ∃ v, Rep X.K H d v ∧ RelV v u
/-- the dict as the library tells it -/
theorem dict_f (I : Inv X pins σ H s) {a : Addr} {kvs : List (D × D)} {t : Tk} (c : Cell X.prog X.w X.K H a (.dict kvs t)) (e : EntF X.prog X.w X.K H kvs t.1) :
    ∃ vs : List (Key × Value), Paired (fun (p : D × D) (q : Key × Value) => p.1.flat? = some q.1 ∧ RVal X H p.2 q.2) kvs vs ∧ s.heap.DictOf (mixKind X.prog X.w) a vs ∧ vs.length ≤ sizeLine := by
  obtain ⟨h1, h2, h3, _⟩ := c
  obtain ⟨vs, q, k1, k2, k3⟩ := e
  obtain ⟨⟨o, ho, hx, hd⟩, _, _⟩ := I.hok a _ h1
  exact ⟨vs, q, ⟨o, t.1, t.2, ho, hx, hd, k1, k2, k3⟩, by rw [← Paired.length q]; exact h3⟩
theorem dict_t (I : Inv X pins σ H s) {a : Addr} {kvs : List (D × D)} {t : Tk} (c : Cell X.prog X.w X.K H a (.dict kvs t)) (e : EntT X.prog X.w X.K H kvs t.1) :
    ∃ xs : List (NestedKey × Addr × Value), Paired (fun (p : D × D) (q : NestedKey × Addr × Value) => (p.1.nk = some q.1 ∧ q.1.depth ≤ 8 ∧ Rep X.K H p.1 (.ref q.2.1) ∧ ∃ ds, p.1 = .tup ds) ∧ ∃ v, Rep X.K H p.2 v ∧ RelV v q.2.2) kvs xs ∧ s.heap.DictOfH (nestedKind X.prog X.w) a xs ∧ xs.length ≤ sizeLine := by
  obtain ⟨h1, h2, h3, _⟩ := c
  obtain ⟨xs, q, k1, k2⟩ := e
  obtain ⟨⟨o, ho, hx, hd⟩, _, _⟩ := I.hok a _ h1
  refine ⟨xs, q, ⟨o, t.1, t.2, ho, hx, hd, k1, ?_, k2⟩, by rw [← Paired.length q]; exact h3⟩
  have all : ∀ {l : List (D × D)} {m : List (NestedKey × Addr × Value)}, Paired (fun (p : D × D) (q : NestedKey × Addr × Value) => (p.1.nk = some q.1 ∧ q.1.depth ≤ 8 ∧ Rep X.K H p.1 (.ref q.2.1) ∧ ∃ ds, p.1 = .tup ds) ∧ ∃ v, Rep X.K H p.2 v ∧ RelV v q.2.2) l m → ∀ x ∈ m, (nestedKind X.prog X.w).is s.heap x.1 x.2.1 := by
    intro l m q
    induction q with
    | nil => intro x hx; exact nomatch hx
    | @cons p q ps qs hq t ih =>
      intro x hx
      rcases List.mem_cons.mp hx with e | hx
      · subst e
        exact ⟨nis I p.1 _ _ _ hq.1.1 hq.1.2.2.1 rfl, hq.1.2.1⟩
      · exact ih x hx
  exact all q
theorem pairs_t {kvs : List (D × D)} {xs : List (NestedKey × Addr × Value)} (q : Paired (fun (p : D × D) (q : NestedKey × Addr × Value) => (p.1.nk = some q.1 ∧ q.1.depth ≤ 8 ∧ Rep X.K H p.1 (.ref q.2.1) ∧ ∃ ds, p.1 = .tup ds) ∧ ∃ v, Rep X.K H p.2 v ∧ RelV v q.2.2) kvs xs) :
    Paired (fun (p : D × D) (q : NestedKey × Value) => p.1.nk = some q.1 ∧ RVal X H p.2 q.2) kvs (pairsH xs) := by
  induction q with
  | nil => exact .nil
  | cons h t ih => exact .cons ⟨h.1.1, h.2⟩ ih
/-- which way -/
theorem way {a : Addr} {kvs : List (D × D)} {t : Tk} {k : D} (c : Cell X.prog X.w X.K H a (.dict kvs t)) (ok : keyOk kvs k) :
    (∃ y, k.flat? = some y ∧ EntF X.prog X.w X.K H kvs t.1) ∨ (∃ ds y, k = .tup ds ∧ k.nk = some y ∧ y.depth ≤ 8 ∧ EntT X.prog X.w X.K H kvs t.1) := by
  obtain ⟨_, _, _, e⟩ := c
  rcases ok with ⟨f, all⟩ | ⟨f, all⟩
  · refine .inl ?_
    obtain ⟨y, hy⟩ := Option.isSome_iff_exists.mp f
    refine ⟨y, hy, ?_⟩
    rcases e with e | ⟨xs, q, k1, k2⟩
    · exact e
    · cases q with
      | nil =>
        have h0 : t.1 = #[] := by
          have : t.1.toList = [] := k1
          exact Array.toList_eq_nil_iff.mp this
        exact ⟨[], .nil, by rw [h0]; intro i hi; simp at hi, by rw [h0]; exact .nil, List.nodup_nil⟩
      | @cons p q ps qs h t' =>
        obtain ⟨ds, e⟩ := h.1.2.2.2
        have := all p List.mem_cons_self
        rw [e] at this
        cases this
  · refine .inr ?_
    obtain ⟨ds, y, rfl, hy, hd⟩ := tkey_some f
    refine ⟨ds, y, rfl, hy, hd, ?_⟩
    rcases e with ⟨vs, q, k1, k2, k3⟩ | e
    · cases q with
      | nil =>
        have h0 : t.1 = #[] := by
          cases c : t.1.toList with
          | nil => exact Array.toList_eq_nil_iff.mp c
          | cons x xs => rw [c] at k2; cases k2
        exact ⟨[], .nil, by rw [h0]; rfl, List.nodup_nil⟩
      | @cons p q ps qs h t' =>
        exact (fkey_tkey (d := p.1) (by unfold fkey; rw [h.1]; rfl) (all p List.mem_cons_self)).elim
    · exact e
end

/-! ### operations -/
def rOf2 (X : Cx) (g : W2) : R2 := fun x y H Q => ∃ (M : Mem) (d e : D) (Q' : DK), MRel X.prog X.w X.K H M ∧ Rep X.K H d x ∧ Rep X.K H e y ∧ g d e M Q' ∧ ∀ v H' d' M', Rep X.K H' d' v → MRel X.prog X.w X.K H' M' → Keep H M H' M' → Q' d' M' → Q v H'
theorem lift_of2 {X : Cx} {g : W2} : Lift2 X (rOf2 X g) g := fun H M x y d e Q Q' m rx ry h k => ⟨M, d, e, Q', m, rx, ry, h, k⟩
def rOfL (X : Cx) (g : WL) : List V → Hp → VK → Prop := fun xs H Q => ∃ (M : Mem) (ds : List D) (Q' : DK), MRel X.prog X.w X.K H M ∧ Reps X.K H ds xs ∧ g ds M Q' ∧ ∀ v H' d' M', Rep X.K H' d' v → MRel X.prog X.w X.K H' M' → Keep H M H' M' → Q' d' M' → Q v H'
theorem lift_ofL {X : Cx} {g : WL} : LiftL X (rOfL X g) g := fun H M xs ds Q Q' m r h k => ⟨M, ds, Q', m, r, h, k⟩
def rOfM (X : Cx) (g : WM) : V → List V → Hp → VK → Prop := fun x xs H Q => ∃ (M : Mem) (d : D) (ds : List D) (Q' : DK), MRel X.prog X.w X.K H M ∧ Rep X.K H d x ∧ Reps X.K H ds xs ∧ g d ds M Q' ∧ ∀ v H' d' M', Rep X.K H' d' v → MRel X.prog X.w X.K H' M' → Keep H M H' M' → Q' d' M' → Q v H'
theorem lift_ofM {X : Cx} {g : WM} : LiftM X (rOfM X g) g := fun H M x xs d ds Q Q' m rx r h k => ⟨M, d, ds, Q', m, rx, r, h, k⟩

section
variable {X : Cx} {pins : List (Addr × Obj)} {σ : L2.St} {H : Hp} {s : Shared} {M : Mem} {a : Addr} {kvs : List (D × D)} {t : Tk} {k : D} {v : V} {u : Value} {E : Value → Shared → Prop} {A : Around}
theorem room8 (hu : A.units + 64 < cLine) : (nestedKind X.prog X.w).room A.in1 := by
  show A.units + 1 + 8 < cLine
  omega
theorem dict_neq {a : Addr} {kvs : List (D × D)} {t : Tk} (c : Cell X.prog X.w X.K H a (.dict kvs t)) : (a == sysModules) = false := c.2.1
theorem dict_type (I : Inv X pins σ H s) (c : Cell X.prog X.w X.K H a (.dict kvs t)) : s.TypeIs (.ref a) "dict" := by
  obtain ⟨⟨o, ho, hx, hd⟩, _, _⟩ := I.hok a _ c.1
  exact ⟨o, ho, hx.1⟩
theorem dict_nodict (I : Inv X pins σ H s) (c : Cell X.prog X.w X.K H a (.dict kvs t)) : ∀ b, Value.ref a = .ref b → ∃ ob, s.heap.get? b = some ob ∧ ob.dict = none := fun b q => by
  cases q
  obtain ⟨⟨o, ho, hx, hd⟩, _, _⟩ := I.hok a _ c.1
  exact ⟨o, ho, hx.2.1⟩
theorem atKey_pairs (xs : List (NestedKey × Addr × Value)) (k : NestedKey) : (atKey xs k).map (·.2) = valueAt (pairsH xs) k := (valueAt_pairsH xs k).symm
theorem isSome_rel {R : D → Value → Prop} {o : Option D} {p : Option Value} (h : (o = none ∧ p = none) ∨ ∃ e u, o = some e ∧ p = some u ∧ R e u) : p.isSome = o.isSome := by
  rcases h with ⟨rfl, rfl⟩ | ⟨e, u, rfl, rfl, _⟩ <;> rfl
/-- in -/
theorem w_in {Q : Value → Shared → Prop} (hu : A.units + 64 < cLine) (I : Inv X pins σ H s) (c : Cell X.prog X.w X.K H a (.dict kvs t)) (ok : keyOk kvs k) (r : Rep X.K H k v) (rv : RelV v u) (h : ∀ s', Inv X pins σ H s' → Q (.bool (valD kvs k).isSome) s') :
    wpAny (model X.prog X.w) A (compareOp .In u (.ref a)) Q E s := by
  rcases way c ok with ⟨y, hy, e⟩ | ⟨ds, y, rfl, hy, hd, e⟩
  · obtain ⟨vs, q, dd, hz⟩ := dict_f I c e
    have ev := rel_key hy r rv
    subst ev
    refine wpAny_in_of (kV_is rv) (dict_neq c) dd.mapOf ?_
    rw [isSome_rel (val_rel (κ := Key) (kd := D.flat?) (R := RVal X H) (fun a b k h1 h2 => D.flat_inj h1 h2) hy q)]
    exact h _ (I.tok _)
  · obtain ⟨xs, q, dd, hz⟩ := dict_t I c e
    obtain ⟨b, vs, rfl, _⟩ := id r
    cases (show u = Value.ref b from rv)
    refine wpAny_in_heap (knd := nestedKind X.prog X.w) (k := y) (room8 hu) ⟨nis I _ _ _ _ hy r rv, hd⟩ (dict_neq c) dd ?_
    have e1 := isSome_rel (val_rel (κ := NestedKey) (kd := D.nk) (R := RVal X H) D.nk_inj hy (pairs_t q))
    rw [← atKey_pairs, Option.isSome_map] at e1
    rw [e1]
    exact h _ (I.tok _)
theorem w_notIn {Q : Value → Shared → Prop} (hu : A.units + 64 < cLine) (I : Inv X pins σ H s) (c : Cell X.prog X.w X.K H a (.dict kvs t)) (ok : keyOk kvs k) (r : Rep X.K H k v) (rv : RelV v u) (h : ∀ s', Inv X pins σ H s' → Q (.bool (!(valD kvs k).isSome)) s') :
    wpAny (model X.prog X.w) A (compareOp .NotIn u (.ref a)) Q E s := by
  rcases way c ok with ⟨y, hy, e⟩ | ⟨ds, y, rfl, hy, hd, e⟩
  · obtain ⟨vs, q, dd, hz⟩ := dict_f I c e
    have ev := rel_key hy r rv
    subst ev
    refine wpAny_notIn_of (kV_is rv) (dict_neq c) dd.mapOf ?_
    rw [isSome_rel (val_rel (κ := Key) (kd := D.flat?) (R := RVal X H) (fun a b k h1 h2 => D.flat_inj h1 h2) hy q)]
    exact h _ (I.tok _)
  · obtain ⟨xs, q, dd, hz⟩ := dict_t I c e
    obtain ⟨b, vs, rfl, _⟩ := id r
    cases (show u = Value.ref b from rv)
    refine wpAny_notIn_heap (knd := nestedKind X.prog X.w) (k := y) (room8 hu) ⟨nis I _ _ _ _ hy r rv, hd⟩ (dict_neq c) dd ?_
    have e1 := isSome_rel (val_rel (κ := NestedKey) (kd := D.nk) (R := RVal X H) D.nk_inj hy (pairs_t q))
    rw [← atKey_pairs, Option.isSome_map] at e1
    rw [e1]
    exact h _ (I.tok _)
/-- d[k], there -/
theorem w_get {e : D} {Q : Value → Shared → Prop} (hu : A.units + 64 < cLine) (I : Inv X pins σ H s) (c : Cell X.prog X.w X.K H a (.dict kvs t)) (ok : keyOk kvs k) (r : Rep X.K H k v) (rv : RelV v u) (hv : valD kvs k = some e) (h : ∀ x w' s', Inv X pins σ H s' → Rep X.K H e x → RelV x w' → Q w' s') :
    wpAny (model X.prog X.w) A (getItem (.ref a) u) Q E s := by
  rcases way c ok with ⟨y, hy, en⟩ | ⟨ds, y, rfl, hy, hd, en⟩
  · obtain ⟨vs, q, dd, hz⟩ := dict_f I c en
    have ev := rel_key hy r rv
    subst ev
    rcases val_rel (κ := Key) (kd := D.flat?) (R := RVal X H) (fun a b k h1 h2 => D.flat_inj h1 h2) hy q with ⟨z, _⟩ | ⟨e', w', z, z2, x, rx, rxv⟩
    · rw [hv] at z; cases z
    · rw [hv] at z; cases z
      exact wpAny_getItem_of (kV_is rv) dd.mapOf z2 (h x w' _ (I.tok _) rx rxv)
  · obtain ⟨xs, q, dd, hz⟩ := dict_t I c en
    obtain ⟨b, vs, rfl, _⟩ := id r
    cases (show u = Value.ref b from rv)
    rcases val_rel (κ := NestedKey) (kd := D.nk) (R := RVal X H) D.nk_inj hy (pairs_t q) with ⟨z, _⟩ | ⟨e', w', z, z2, x, rx, rxv⟩
    · rw [hv] at z; cases z
    · rw [hv] at z; cases z
      rw [← atKey_pairs] at z2
      obtain ⟨p, hp, hp2⟩ := Option.map_eq_some_iff.mp z2
      refine wpAny_getItem_heap (knd := nestedKind X.prog X.w) (k := y) (room8 hu) ⟨nis I _ _ _ _ hy r rv, hd⟩ dd hp ?_
      rw [hp2]
      exact h x w' _ (I.tok _) rx rxv
/-- d.get(k) -/
theorem w_get1 {Q : Value → Shared → Prop} (hu : A.units + 64 < cLine) (I : Inv X pins σ H s) (c : Cell X.prog X.w X.K H a (.dict kvs t)) (ok : keyOk kvs k) (r : Rep X.K H k v) (rv : RelV v u) (h : ∀ x w' s', Inv X pins σ H s' → Rep X.K H ((valD kvs k).getD .non) x → RelV x w' → Q w' s') :
    wpAny (model X.prog X.w) A (call (.builtin "dict.get") [.ref a, u]) Q E s := by
  have fin : ∀ {o : Option D} {p : Option Value} {tk : Nat}, ((o = none ∧ p = none) ∨ ∃ e u, o = some e ∧ p = some u ∧ RVal X H e u) → o = valD kvs k → Q (p.getD .none) { s with toks := tk } := by
    intro o p tk hr eo
    rw [← eo] at h
    rcases hr with ⟨rfl, rfl⟩ | ⟨e, w', rfl, rfl, x, rx, rxv⟩
    · exact h .non _ _ (I.tok _) rfl rfl
    · exact h x _ _ (I.tok _) rx rxv
  rcases way c ok with ⟨y, hy, en⟩ | ⟨ds, y, rfl, hy, hd, en⟩
  · obtain ⟨vs, q, dd, hz⟩ := dict_f I c en
    have ev := rel_key hy r rv
    subst ev
    exact call_meetsIn PySem.F.slot_dict_get dd.typeIs PySem.F.entry_dict_get (PySem.F.args_dict_get_2 _ _) (meets_dict_get (mixKind X.prog X.w) a (kV_is rv) (dict_neq c)) ⟨_, dd.mapOf, fin (val_rel (κ := Key) (kd := D.flat?) (R := RVal X H) (fun a b k h1 h2 => D.flat_inj h1 h2) hy q) rfl⟩
  · obtain ⟨xs, q, dd, hz⟩ := dict_t I c en
    obtain ⟨b, vs, rfl, _⟩ := id r
    cases (show u = Value.ref b from rv)
    refine call_meetsIn PySem.F.slot_dict_get dd.typeIs PySem.F.entry_dict_get (PySem.F.args_dict_get_2 _ _) (meetsH_dict_get (nestedKind X.prog X.w) a b (dict_neq c)) ⟨room8 hu, y, xs, ⟨nis I _ _ _ _ hy r rv, hd⟩, dd, ?_⟩
    rw [atKey_pairs]
    exact fin (val_rel (κ := NestedKey) (kd := D.nk) (R := RVal X H) D.nk_inj hy (pairs_t q)) rfl
/-- the dict's object behind a store -/
theorem cell_f {h' : Heap} {vs : List (Key × Value)} (dd : h'.DictOf (mixKind X.prog X.w) a vs) : ∃ t : Tk, h'.DictRaw a t.1 t.2 ∧ KeysOf (mixKind X.prog X.w) t.1 ∧ Pairs (mixKind X.prog X.w) t.1.toList vs ∧ (vs.map (·.1)).Nodup := by
  obtain ⟨o, es, ep, h1, h2, h3, h4, h5, h6⟩ := dd
  exact ⟨(es, ep), ⟨o, h1, h2, h3⟩, h4, h5, h6⟩
theorem cell_t {h' : Heap} {xs : List (NestedKey × Addr × Value)} (dd : h'.DictOfH (nestedKind X.prog X.w) a xs) : ∃ t : Tk, h'.DictRaw a t.1 t.2 ∧ t.1.toList = xs.map (entryOfKey (nestedKind X.prog X.w)) ∧ (xs.map (·.1)).Nodup := by
  obtain ⟨o, es, ep, h1, h2, h3, h4, h5, h6⟩ := dd
  exact ⟨(es, ep), ⟨o, h1, h2, h3⟩, h4, h6⟩
theorem dx_ok {P : Program} {w : World} {H : Hp} {h : Heap} {t : Tk} (d : h.DictRaw a t.1 t.2) : ObjOk P w H h a (DX a t) := by
  obtain ⟨o, h1, h2, h3⟩ := d
  exact ⟨⟨o, h1, h2, h3⟩, ⟨o, h1⟩, fun h1 h2 q k => q.at k⟩
theorem t_put {kvs : List (D × D)} {xs : List (NestedKey × Addr × Value)} {k e : D} {y : NestedKey} {b : Addr} {u : Value} (q : Paired (fun (p : D × D) (q : NestedKey × Addr × Value) => (p.1.nk = some q.1 ∧ q.1.depth ≤ 8 ∧ Rep X.K H p.1 (.ref q.2.1) ∧ ∃ ds, p.1 = .tup ds) ∧ ∃ v, Rep X.K H p.2 v ∧ RelV v q.2.2) kvs xs)
    (hk : k.nk = some y ∧ y.depth ≤ 8 ∧ Rep X.K H k (.ref b) ∧ ∃ ds, k = .tup ds) (he : RVal X H e u) :
    Paired (fun (p : D × D) (q : NestedKey × Addr × Value) => (p.1.nk = some q.1 ∧ q.1.depth ≤ 8 ∧ Rep X.K H p.1 (.ref q.2.1) ∧ ∃ ds, p.1 = .tup ds) ∧ ∃ v, Rep X.K H p.2 v ∧ RelV v q.2.2) (putD kvs k e) (storedH xs y b u) := by
  have e1 : (kvs.any fun kv => decide (kv.1 = k)) = (atKey xs y).isSome := by
    rw [any_rel (κ := NestedKey) (kd := D.nk) (R := RVal X H) D.nk_inj hk.1 (pairs_t q), any_pairsH]
  unfold putD storedH
  rw [e1]
  by_cases c : (atKey xs y).isSome = true
  · rw [if_pos c, if_pos c]
    clear c e1
    induction q with
    | nil => exact .nil
    | @cons p q ps qs h t ih =>
      rw [List.map_cons, List.map_cons]
      refine .cons ?_ ih
      unfold putAt
      by_cases z : q.1 = y
      · have z' : p.1 = k := D.nk_inj _ _ y (by rw [h.1.1, z]) hk.1
        rw [if_pos z, if_pos z']; exact ⟨h.1, he⟩
      · have z' : ¬ p.1 = k := fun w => z (by have := h.1.1; rw [w, hk.1] at this; exact (Option.some.inj this).symm)
        rw [if_neg z, if_neg z']; exact h
  · rw [if_neg c, if_neg c]; exact Paired.snoc q ⟨hk, he⟩
/-- d[k] = e -/
theorem w_put {e : D} {x : V} {xu : Value} {Q : Unit → Shared → Prop} (hu : A.units + 64 < cLine) (I : Inv X pins σ H s) (m : MRel X.prog X.w X.K H M) (hM : M a = some (.dict kvs t)) (ok : keyOk kvs k) (r : Rep X.K H k v) (rv : RelV v u) (re : Rep X.K H e x) (rxv : RelV x xu)
    (hz : kvs.length < sizeLine) (h : ∀ t' s', Inv X pins σ (upd H a (DX a t')) s' → MRel X.prog X.w X.K (upd H a (DX a t')) (mset M a (.dict (putD kvs k e) t')) → Keep H M (upd H a (DX a t')) (mset M a (.dict (putD kvs k e) t')) → Q () s') :
    wpAny (model X.prog X.w) A (setItem (.ref a) u xu) Q E s := by
  have c := m a _ hM
  have hl := length_putD kvs k e
  rcases way c ok with ⟨y, hy, en⟩ | ⟨ds, y, rfl, hy, hd, en⟩
  · obtain ⟨vs, q, dd, hz'⟩ := dict_f I c en
    have ev := rel_key hy r rv
    subst ev
    refine wpAny_setItem_pairs (hsz := hz') (kV_is rv) dd fun h' dd' hs => ?_
    obtain ⟨t', d', k1, k2, k3⟩ := cell_f dd'
    obtain ⟨m', k'⟩ := m.write (o := DX a t') (mo' := .dict (putD kvs k e) t') hM fun tk => ⟨upd_same, dict_neq c, by omega, .inl ⟨_, Paired.mapP (put_rel (κ := Key) (kd := D.flat?) (R := RVal X H) (fun a b k h1 h2 => D.flat_inj h1 h2) hy ⟨x, re, rxv⟩ q) fun p q z => ⟨z.1, let ⟨v, z1, z2⟩ := z.2; ⟨v, Rep.keep tk _ _ z1, z2⟩⟩, k1, k2, k3⟩⟩
    exact h t' _ (d_write I (by rw [c.1]; exact True.intro) hs (let ⟨o, ho, _⟩ := d'; ⟨o, ho⟩) (dx_ok d')) m' k'
  · obtain ⟨xs, q, dd, hz'⟩ := dict_t I c en
    obtain ⟨b, vs, rfl, _⟩ := id r
    cases (show u = Value.ref b from rv)
    refine wpAny_setItem_heap (knd := nestedKind X.prog X.w) (k := y) (hsz := hz') (room8 hu) ⟨nis I _ _ _ _ hy r rv, hd⟩ dd fun h' dd' hs => ?_
    obtain ⟨t', d', k1, k2⟩ := cell_t dd'
    obtain ⟨m', k'⟩ := m.write (o := DX a t') (mo' := .dict (putD kvs (.tup ds) e) t') hM fun tk => ⟨upd_same, dict_neq c, by omega, .inr ⟨_, Paired.mapP (t_put q ⟨hy, hd, r, _, rfl⟩ ⟨x, re, rxv⟩) fun p q z => ⟨⟨z.1.1, z.1.2.1, Rep.keep tk _ _ z.1.2.2.1, z.1.2.2.2⟩, let ⟨v, z1, z2⟩ := z.2; ⟨v, Rep.keep tk _ _ z1, z2⟩⟩, k1, k2⟩⟩
    exact h t' _ (d_write I (by rw [c.1]; exact True.intro) hs (let ⟨o, ho, _⟩ := d'; ⟨o, ho⟩) (dx_ok d')) m' k'
/-- len(d) -/
theorem w_len {Q : Value → Shared → Prop} (I : Inv X pins σ H s) (c : Cell X.prog X.w X.K H a (.dict kvs t)) (h : ∀ tk s', Inv X pins σ H s' → Q (.int kvs.length tk) s') : wpAny (model X.prog X.w) A (call (.builtin "len") [.ref a]) Q E s := by
  have sz := c.2.2.1
  rw [sizeLine_eq] at sz
  rcases c.2.2.2 with e | e
  · obtain ⟨vs, q, dd, hz⟩ := dict_f I c e
    have l : kvs.length = vs.length := Paired.length q
    refine call_len_dict (dict_neq c) dd (by rw [← l]; omega) ?_
    rw [← l]; exact h _ _ (I.tok _)
  · obtain ⟨xs, q, dd, hz⟩ := dict_t I c e
    have l : kvs.length = xs.length := Paired.length q
    refine call_len_dictH (dict_neq c) dd (by rw [← l]; omega) ?_
    rw [← l]; exact h _ _ (I.tok _)
end
end Fw

set_option Elab.async false
set_option linter.all false
set_option maxRecDepth 100000
set_option maxHeartbeats 4000000
/-! FwCall: in, subscripts, stores, built-in functions and methods over data -/
namespace Fw
open PySem PySem.Spec PyProof.Rows L2

section
variable {X : Cx}
/-! ### in -/
def dInD (f : Bool → Bool) : W2 := fun x y M Q => match y with
  | .ref a => ∃ kvs t, M a = some (.dict kvs t) ∧ keyOk kvs x ∧ Q (.bl (f (valD kvs x).isSome)) M
  | _ => False
theorem op_inD1 (hu : X.A.units + 64 < cLine) : OpR X (compareOp .In) (rOf2 X (dInD id)) := by
  intro pins s σ H x y v u Q I rx ry h
  obtain ⟨M, d, e, Q', m, r1, r2, q, k⟩ := h
  cases e with
  | ref a =>
    obtain ⟨kvs, t, hM, ok, q⟩ := q
    cases (show y = .ref a from r2)
    cases (show u = Value.ref a from ry)
    exact w_in hu I (m a _ hM) ok r1 rx fun s' I' => ⟨.bl _, H, I', rfl, k _ H (.bl (valD kvs d).isSome) M rfl m .refl q⟩
  | _ => exact q.elim
theorem op_notInD1 (hu : X.A.units + 64 < cLine) : OpR X (compareOp .NotIn) (rOf2 X (dInD not)) := by
  intro pins s σ H x y v u Q I rx ry h
  obtain ⟨M, d, e, Q', m, r1, r2, q, k⟩ := h
  cases e with
  | ref a =>
    obtain ⟨kvs, t, hM, ok, q⟩ := q
    cases (show y = .ref a from r2)
    cases (show u = Value.ref a from ry)
    exact w_notIn hu I (m a _ hM) ok r1 rx fun s' I' => ⟨.bl _, H, I', rfl, k _ H (.bl (!(valD kvs d).isSome)) M rfl m .refl q⟩
  | _ => exact q.elim
/-- flat things without truth values -/
def flatD : D → Bool
  | .non => true
  | .int _ => true
  | .str _ => true
  | _ => false
theorem flatD_v {d : D} {v : V} {K : PySem.W.Frag} {H : Hp} (f : flatD d = true) (r : Rep K H d v) : flatV v = true := by
  cases d with
  | non => cases (show v = _ from r); rfl
  | int i => cases (show v = _ from r); rfl
  | str i => cases (show v = _ from r); rfl
  | bl _ => exact Bool.noConfusion f
  | tup _ => exact Bool.noConfusion f
  | ref _ => exact Bool.noConfusion f
theorem flatD_eq {d e : D} {v w : V} {K : PySem.W.Frag} {H : Hp} (f : flatD d = true) (g : flatD e = true) (r : Rep K H d v) (q : Rep K H e w) : eqV v w = decide (d = e) := by
  cases d with
  | non =>
    cases (show v = _ from r)
    cases e with
    | non => cases (show w = _ from q); rfl
    | int j => cases (show w = _ from q); exact (decide_eq_false (fun z => nomatch z)).symm
    | str j => cases (show w = _ from q); exact (decide_eq_false (fun z => nomatch z)).symm
    | bl _ => exact Bool.noConfusion g
    | tup _ => exact Bool.noConfusion g
    | ref _ => exact Bool.noConfusion g
  | int i =>
    cases (show v = _ from r)
    cases e with
    | non => cases (show w = _ from q); exact (decide_eq_false (fun z => nomatch z)).symm
    | int j => cases (show w = _ from q); rw [Bool.eq_iff_iff, decide_eq_true_iff]; exact ⟨fun z => by rw [eq_of_beq (show (i == j) = true from z)], fun z => by cases z; exact beq_self_eq_true i⟩
    | str j => cases (show w = _ from q); exact (decide_eq_false (fun z => nomatch z)).symm
    | bl _ => exact Bool.noConfusion g
    | tup _ => exact Bool.noConfusion g
    | ref _ => exact Bool.noConfusion g
  | str i =>
    cases (show v = _ from r)
    cases e with
    | non => cases (show w = _ from q); exact (decide_eq_false (fun z => nomatch z)).symm
    | int j => cases (show w = _ from q); exact (decide_eq_false (fun z => nomatch z)).symm
    | str j => cases (show w = _ from q); rw [Bool.eq_iff_iff, decide_eq_true_iff]; exact ⟨fun z => by rw [eq_of_beq (show (i == j) = true from z)], fun z => by cases z; exact beq_self_eq_true i⟩
    | bl _ => exact Bool.noConfusion g
    | tup _ => exact Bool.noConfusion g
    | ref _ => exact Bool.noConfusion g
  | bl _ => exact Bool.noConfusion f
  | tup _ => exact Bool.noConfusion f
  | ref _ => exact Bool.noConfusion f
theorem flatD_all {K : PySem.W.Frag} {H : Hp} : ∀ {ds : List D} {vs : List V}, ds.all flatD = true → Reps K H ds vs → vs.all flatV = true
  | [], _, _, r => by rw [show _ = _ from r]; rfl
  | d :: ds, _, f, r => by
    obtain ⟨v, r', rfl, h1, h2⟩ := r
    rw [List.all_cons, Bool.and_eq_true] at f
    rw [List.all_cons, flatD_v f.1 h1, flatD_all f.2 h2]; rfl
theorem flatD_any {K : PySem.W.Frag} {H : Hp} {x : D} {w : V} (g : flatD x = true) (q : Rep K H x w) : ∀ {ds : List D} {vs : List V}, ds.all flatD = true → Reps K H ds vs → inV w vs = decide (x ∈ ds)
  | [], _, _, r => by rw [show _ = _ from r]; rfl
  | d :: ds, _, f, r => by
    obtain ⟨v, r', rfl, h1, h2⟩ := r
    rw [List.all_cons, Bool.and_eq_true] at f
    have ih := flatD_any g q f.2 h2
    unfold inV at ih ⊢
    rw [List.any_cons, ih, flatD_eq f.1 g h1 q, Bool.eq_iff_iff, Bool.or_eq_true, decide_eq_true_iff, decide_eq_true_iff, decide_eq_true_iff, List.mem_cons]
    exact ⟨fun z => z.imp Eq.symm id, fun z => z.imp Eq.symm id⟩
/-- in a list: its items are data -/
def InL (f : Bool → Bool) (x : D) (ds : List D) (M : Mem) (Q : DK) : Prop :=
  ∃ p ps, x.py = some p ∧ D.pys ds = some ps ∧ SeqAt.shaped p = true ∧ SeqAt.shaped (.list ps) = true ∧ Q (.bl (f (ps.any fun z => PyData.eqv z p))) M
def dIn (f : Bool → Bool) : W2 := fun x y M Q => match y with
  | .tup ds => flatD x = true ∧ ds.all flatD = true ∧ Q (.bl (f (decide (x ∈ ds)))) M
  | .str z => ∃ c, x = .str ⟨#[c]⟩ ∧ Q (.bl (f (decide (c ∈ z.cps.toList)))) M
  | .ref a => match M a with
    | some (.lst ds) => InL f x ds M Q
    | some (.rl ds) => InL f x ds M Q
    | some (.dict kvs _) => keyOk kvs x ∧ Q (.bl (f (valD kvs x).isSome)) M
    | _ => False
  | _ => False
def rInR (X : Cx) : R2 := fun x y H Q => rOf2 X (dInD id) x y H Q ∨ (rIn X.K false x y H Q ∨ (rInD X.K x y H Q ∨ (∃ (c : Nat) (z : Str), x = .str ⟨#[c]⟩ ∧ y = .str z ∧ Q (.bl (decide (c ∈ z.cps.toList))) H)))
def rNotInR (X : Cx) : R2 := fun x y H Q => rOf2 X (dInD not) x y H Q ∨ (rIn X.K true x y H Q ∨ (rNotInD X.K x y H Q ∨ (∃ (c : Nat) (z : Str), x = .str ⟨#[c]⟩ ∧ y = .str z ∧ Q (.bl (!decide (c ∈ z.cps.toList))) H)))
theorem op_inR (hu : X.A.units + 65 < cLine) : OpR X (compareOp .In) (rInR X) := (op_inD1 (by omega)).or (op_in_seq.or ((op_inD hu).or op_in_sign))
theorem op_notInR (hu : X.A.units + 65 < cLine) : OpR X (compareOp .NotIn) (rNotInR X) := (op_notInD1 (by omega)).or (op_notIn_seq.or ((op_notInD hu).or op_notIn_sign))
theorem lift_in : Lift2 X (rInR X) (dIn id) := by
  intro H M x y d e Q Q' m rx ry h k
  cases e with
  | tup ds =>
    obtain ⟨a, vs, rfl, s, rs⟩ := ry
    obtain ⟨f1, f2, q⟩ := h
    exact .inr (.inl ⟨a, vs, rfl, .inr s, flatD_v f1 rx, flatD_all f2 rs, by rw [if_neg Bool.false_ne_true, flatD_any f1 rx f2 rs]; exact k _ H (.bl _) M rfl m .refl q⟩)
  | str z =>
    cases (show y = _ from ry)
    obtain ⟨c, rfl, q⟩ := h
    cases (show x = _ from rx)
    exact .inr (.inr (.inr ⟨c, z, rfl, rfl, k _ H (.bl _) M rfl m .refl q⟩))
  | ref a =>
    cases (show y = _ from ry)
    unfold dIn at h
    simp only at h
    cases c : M a with
    | none => rw [c] at h; exact h.elim
    | some mo =>
      rw [c] at h
      cases mo with
      | lst ds =>
        obtain ⟨p, ps, e1, e2, s1, s2, q⟩ := h
        obtain ⟨vs, hh, rs⟩ := m a _ c
        exact .inr (.inr (.inl ⟨p, ps, Rep.dp _ _ _ e1 rx, .lst (.of hh) (Reps.dp _ _ _ e2 rs), s1, s2, k _ H (.bl _) M rfl m .refl q⟩))
      | rl ds =>
        obtain ⟨p, ps, e1, e2, s1, s2, q⟩ := h
        obtain ⟨o, vs, hh, rs⟩ := m a _ c
        exact .inr (.inr (.inl ⟨p, ps, Rep.dp _ _ _ e1 rx, .lst (.inl (.inr ⟨o, hh⟩)) (Reps.dp _ _ _ e2 rs), s1, s2, k _ H (.bl _) M rfl m .refl q⟩))
      | dict kvs t => exact .inl ⟨M, d, .ref a, Q', m, rx, rfl, ⟨kvs, t, c, h.1, h.2⟩, k⟩
      | ins _ _ => exact h.elim
  | non => exact h.elim
  | bl b => exact h.elim
  | int b => exact h.elim
theorem lift_notIn : Lift2 X (rNotInR X) (dIn not) := by
  intro H M x y d e Q Q' m rx ry h k
  cases e with
  | tup ds =>
    obtain ⟨a, vs, rfl, s, rs⟩ := ry
    obtain ⟨f1, f2, q⟩ := h
    exact .inr (.inl ⟨a, vs, rfl, .inr s, flatD_v f1 rx, flatD_all f2 rs, by rw [if_pos rfl, flatD_any f1 rx f2 rs]; exact k _ H (.bl _) M rfl m .refl q⟩)
  | str z =>
    cases (show y = _ from ry)
    obtain ⟨c, rfl, q⟩ := h
    cases (show x = _ from rx)
    exact .inr (.inr (.inr ⟨c, z, rfl, rfl, k _ H (.bl _) M rfl m .refl q⟩))
  | ref a =>
    cases (show y = _ from ry)
    unfold dIn at h
    simp only at h
    cases c : M a with
    | none => rw [c] at h; exact h.elim
    | some mo =>
      rw [c] at h
      cases mo with
      | lst ds =>
        obtain ⟨p, ps, e1, e2, s1, s2, q⟩ := h
        obtain ⟨vs, hh, rs⟩ := m a _ c
        exact .inr (.inr (.inl ⟨p, ps, Rep.dp _ _ _ e1 rx, .lst (.of hh) (Reps.dp _ _ _ e2 rs), s1, s2, k _ H (.bl _) M rfl m .refl q⟩))
      | rl ds =>
        obtain ⟨p, ps, e1, e2, s1, s2, q⟩ := h
        obtain ⟨o, vs, hh, rs⟩ := m a _ c
        exact .inr (.inr (.inl ⟨p, ps, Rep.dp _ _ _ e1 rx, .lst (.inl (.inr ⟨o, hh⟩)) (Reps.dp _ _ _ e2 rs), s1, s2, k _ H (.bl _) M rfl m .refl q⟩))
      | dict kvs t => exact .inl ⟨M, d, .ref a, Q', m, rx, rfl, ⟨kvs, t, c, h.1, h.2⟩, k⟩
      | ins _ _ => exact h.elim
  | non => exact h.elim
  | bl b => exact h.elim
  | int b => exact h.elim

/-! ### d[k] -/
def dIxD : W2 := fun x y M Q => match x with
  | .ref a => ∃ kvs t d, M a = some (.dict kvs t) ∧ keyOk kvs y ∧ valD kvs y = some d ∧ Q d M
  | _ => False
theorem sub_tail {prog : Program} {w : World} {A : Around} {E : Value → Shared → Prop} {s : Shared} {value slice : Expr} {T id : String} {o i : Value} {Q : Value → Shared → Prop}
    (hl : typeLookup (.type T) "__getitem__" = pure (some (.builtin id))) (hs : subscripted slice false o i = operate [o, i] (getItem o i)) (hT : s.TypeIs o T)
    (h : wpAny (model prog w) A (getItem o i) Q E s) : wpAny (model prog w) A (subscriptTail value slice o i) Q E s := by
  unfold subscriptTail
  refine wpAny_bind ?_
  rw [getitemInPython_of_ne hT.not_modules]
  refine wpAny_bind (wpAny_specialOf hT hl ?_)
  have fin : wpAny (model prog w) A (subscripted slice false o i) (fun r s₃ => wpAny (model prog w) A (letTemporaryGo value o r >>= fun _ => pure r) Q E s₃) E s := by
    rw [hs]
    exact wpAny_operating (wpAny_mono h (fun r s₃ h₃ => wpAny_bind (wpAny_letTemporaryGo (wpAny_pure h₃))) fun _ _ x => x)
  exact wpAny_pure (wpAny_bind fin)
theorem ix_dict (hu : X.A.units + 64 < cLine) : IxR X (rOf2 X dIxD) := by
  intro value slice pins s σ H x y v u Q I rx ry h hs
  obtain ⟨M, d, e, Q', m, r1, r2, q, k⟩ := h
  cases d with
  | ref a =>
    obtain ⟨kvs, t, d, hM, ok, hv, q⟩ := q
    cases (show x = .ref a from r1)
    cases (show v = Value.ref a from rx)
    refine sub_tail PySem.F.slot_dict_getitem.lookup hs (dict_type I (m a _ hM)) ?_
    exact w_get hu I (m a _ hM) ok r2 ry hv fun x' w' s' I' rr rv => ⟨x', H, I', rv, k x' H d M rr m .refl q⟩
  | _ => exact q.elim
/-- o[i]: of tuples, lists, texts; of dicts -/
def dIxA : W2 := fun x y M Q => match x with
  | .ref a => match M a with
    | some (.dict kvs _) => keyOk kvs y ∧ ∃ d, valD kvs y = some d ∧ Q d M
    | _ => dIx x y M Q
  | _ => dIx x y M Q
def rIxA (X : Cx) : R2 := fun x y H Q => rOf2 X dIxD x y H Q ∨ rIx X.K x y H Q
theorem ix_all (hu : X.A.units + 64 < cLine) : IxR X (rIxA X) := (ix_dict hu).or ix_seq
theorem lift_ixA : Lift2 X (rIxA X) dIxA := by
  intro H M x y d e Q Q' m rx ry h k
  cases d with
  | ref a =>
    unfold dIxA at h
    simp only at h
    cases c : M a with
    | none => rw [c] at h; exact .inr (lift_ix H M x y _ e Q Q' m rx ry h k)
    | some mo =>
      rw [c] at h
      cases mo with
      | dict kvs t => obtain ⟨ok, d, hv, q⟩ := h; exact .inl ⟨M, .ref a, e, Q', m, rx, ry, ⟨kvs, t, d, c, ok, hv, q⟩, k⟩
      | _ => exact .inr (lift_ix H M x y _ e Q Q' m rx ry h k)
  | _ => exact .inr (lift_ix H M x y _ e Q Q' m rx ry h k)

/-! ### o[i] = v -/
abbrev WSet := D → D → D → Mem → (Mem → Prop) → Prop
def rOfS (X : Cx) (g : WSet) : V → V → V → Hp → (Hp → Prop) → Prop := fun o i v H Q => ∃ (M : Mem) (d e f : D) (Q' : Mem → Prop), MRel X.prog X.w X.K H M ∧ Rep X.K H d o ∧ Rep X.K H e i ∧ Rep X.K H f v ∧ g d e f M Q' ∧ ∀ H' M', MRel X.prog X.w X.K H' M' → Keep H M H' M' → Q' M' → Q H'
def dSetA : WSet := fun o i v M Q => match o with
  | .ref a => match M a with
    | some (.dict kvs _) => keyOk kvs i ∧ kvs.length < sizeLine ∧ ∀ t, Q (mset M a (.dict (putD kvs i v) t))
    | some (.lst ds) => ∃ k j, i = .int k ∧ ixN ds.length k = some j ∧ Q (mset M a (.lst (ds.set j v)))
    | _ => False
  | _ => False
theorem set_all (hu : X.A.units + 64 < cLine) : PSet X (rOfS X dSetA) := by
  intro pins s σ H o i v ov iv u Q I ro ri rv h
  obtain ⟨M, d, e, f, Q', m, r1, r2, r3, q, k⟩ := h
  cases d with
  | ref a =>
    cases (show o = .ref a from r1)
    cases (show ov = Value.ref a from ro)
    unfold dSetA at q
    simp only at q
    cases c : M a with
    | none => rw [c] at q; exact q.elim
    | some mo =>
      rw [c] at q
      cases mo with
      | dict kvs t =>
        obtain ⟨ok, hz, q⟩ := q
        exact w_put hu I m c ok r2 ri r3 rv hz fun t' s' I' m' k' => ⟨_, I', k _ _ m' k' (q t')⟩
      | lst ds =>
        obtain ⟨kk, j, rfl, hj, q⟩ := q
        obtain ⟨vs, hh, rs⟩ := m a _ c
        cases (show i = .int kk from r2)
        refine set_list pins s σ H _ _ v _ iv u Q I ro ri rv ⟨a, vs, kk, j, rfl, rfl, hh, by rw [← rs.length]; exact hj, ?_⟩
        obtain ⟨m', k'⟩ := m.write (o := .lst (vs.set j v)) (mo' := .lst (ds.set j f)) c fun t => ⟨_, upd_same, (Reps.keep t _ _ rs).set j (Rep.keep t _ _ r3)⟩
        exact k _ _ m' k' q
      | rl _ => exact q.elim
      | ins _ _ => exact q.elim
  | _ => exact q.elim

/-! ### {} -/
def wDnew : WE := fun _ M Q => ∀ p t, M p = none → Q (.ref p) (mset M p (.dict [] t))
theorem de_dnew {pos : Pos} : DEx X (.Dict [] [] pos) wDnew := ⟨fun pins s σ H Q I ⟨ρ, M, Q', R, q, k⟩ => by
  have np := I.hok.fresh (Nat.le_refl s.heap.objs.size)
  have dr : (s.heap.push { cls := .type "dict", data := .dict #[] }).DictRaw s.heap.objs.size #[] 0 := ⟨_, Heap.get?_push_size _ rfl, ⟨rfl, rfl, rfl⟩, rfl⟩
  obtain ⟨m', k', n⟩ := R.mem.alloc (o := DX s.heap.objs.size (#[], 0)) (mo := .dict [] (#[], 0)) np fun t => ⟨upd_same, beq_eq_false_iff_ne.mpr (Ne.symm (Nat.ne_of_lt I.big)), Nat.zero_le _, .inr ⟨[], .nil, rfl, List.nodup_nil⟩⟩
  refine wpAny_Dict_empty ⟨.ref s.heap.objs.size, _, I.laid (a := s.heap.objs.size) (o := DX s.heap.objs.size (#[], 0)) (t' := s.toks) (fun _ _ q => Heap.get?_push_of_some _ q) (Nat.le_refl _) ?_, rfl, k _ _ (.ref s.heap.objs.size) _ rfl m' k' (q _ _ n)⟩
  exact dx_ok (t := (#[], 0)) dr⟩

/-! ### built-in functions -/
def dLen : WL := fun ds M Q => match ds with
  | [.tup xs] => Q (.int xs.length) M
  | [.str z] => z.length ≤ sizeLine ∧ Q (.int z.length) M
  | [.ref a] => match M a with
    | some (.lst xs) => Q (.int xs.length) M
    | some (.rl xs) => Q (.int xs.length) M
    | some (.dict kvs _) => Q (.int kvs.length) M
    | _ => False
  | _ => False
def dLenD : WL := fun ds M Q => match ds with
  | [.ref a] => ∃ kvs t, M a = some (.dict kvs t) ∧ Q (.int kvs.length) M
  | _ => False
theorem dLenD_inv {ds : List D} {M : Mem} {Q : DK} (h : dLenD ds M Q) : ∃ a kvs t, ds = [.ref a] ∧ M a = some (.dict kvs t) ∧ Q (.int kvs.length) M := by
  unfold dLenD at h
  split at h
  · rename_i a; obtain ⟨kvs, t, e, q⟩ := h; exact ⟨a, kvs, t, rfl, e, q⟩
  · exact h.elim
theorem reps1 {K : PySem.W.Frag} {H : Hp} {d : D} {xs : List V} (r : Reps K H [d] xs) : ∃ v, xs = [v] ∧ Rep K H d v := by
  obtain ⟨v, r', rfl, h1, h2⟩ := r
  rw [show r' = [] from h2]; exact ⟨v, rfl, h1⟩
theorem reps2 {K : PySem.W.Frag} {H : Hp} {d e : D} {xs : List V} (r : Reps K H [d, e] xs) : ∃ v w, xs = [v, w] ∧ Rep K H d v ∧ Rep K H e w := by
  obtain ⟨v, r', rfl, h1, h2⟩ := r
  obtain ⟨w, rfl, h3⟩ := reps1 h2
  exact ⟨v, w, rfl, h1, h3⟩
theorem call_lenD1 : CallR X (.builtin "len") (rOfL X dLenD) := by
  intro pins s σ H xs us Q I r h
  obtain ⟨M, ds, Q', m, rs, q, k⟩ := h
  obtain ⟨a, kvs, t, rfl, hM, q⟩ := dLenD_inv q
  obtain ⟨v, rfl, h1⟩ := reps1 rs
  cases (show v = .ref a from h1)
  obtain ⟨u, rfl, ru⟩ := vals1 r
  cases (show u = Value.ref a from ru)
  exact w_len I (m a _ hM) fun tk s' I' => ⟨.int kvs.length, H, I', ⟨_, rfl⟩, k _ H (.int kvs.length) M rfl m .refl q⟩
def rLenR (X : Cx) : List V → Hp → VK → Prop := fun xs H Q => rOfL X dLenD xs H Q ∨ ∃ x n, xs = [x] ∧ LenV X.K x H n ∧ Q (.int n) H
theorem call_lenR : CallR X (.builtin "len") (rLenR X) := call_lenD1.or call_len
theorem lift_len : LiftL X (rLenR X) dLen := by
  intro H M xs ds Q Q' m rs q k
  unfold dLen at q
  split at q
  · rename_i ys
    obtain ⟨v, rfl, a, vs, rfl, s, r⟩ := reps1 rs
    exact .inr ⟨_, ys.length, rfl, .inr ⟨vs, s, r.length⟩, k _ H (.int ys.length) M rfl m .refl q⟩
  · rename_i z
    obtain ⟨v, rfl, r⟩ := reps1 rs
    cases (show v = .str z from r)
    exact .inr ⟨_, z.length, rfl, ⟨q.1, rfl⟩, k _ H (.int z.length) M rfl m .refl q.2⟩
  · rename_i a
    obtain ⟨v, rfl, r⟩ := reps1 rs
    cases (show v = .ref a from r)
    cases c : M a with
    | none => rw [c] at q; exact q.elim
    | some mo =>
      rw [c] at q
      cases mo with
      | lst ys =>
        obtain ⟨vs, hh, r⟩ := m a _ c
        exact .inr ⟨_, ys.length, rfl, .inl ⟨vs, .of hh, r.length⟩, k _ H (.int ys.length) M rfl m .refl q⟩
      | rl ys =>
        obtain ⟨o, vs, hh, r⟩ := m a _ c
        exact .inr ⟨_, ys.length, rfl, .inl ⟨vs, .inl (.inr ⟨o, hh⟩), r.length⟩, k _ H (.int ys.length) M rfl m .refl q⟩
      | dict kvs t => exact .inl ⟨M, [.ref a], Q', m, rs, by show dLenD [.ref a] M Q'; exact ⟨kvs, t, c, q⟩, k⟩
      | ins _ _ => exact q.elim
  · exact q.elim
end
end Fw

set_option Elab.async false
set_option linter.all false
set_option maxRecDepth 100000
set_option maxHeartbeats 4000000
/-! FwCall2: more built-in functions over data -/
namespace Fw
open PySem PySem.Spec PyProof.Rows L2

section
variable {X : Cx}
/-! ### what a dict's raw entries are -/
theorem cell_entry {P : Program} {w : World} {K : PySem.W.Frag} {H : Hp} {a : Addr} {kvs : List (D × D)} {t : Tk} (c : Cell P w K H a (.dict kvs t)) :
    t.1.size = kvs.length ∧ ∀ (i : Nat) (k v : D), kvs[i]? = some (k, v) → ∃ en : DictEntry, t.1[i]? = some en ∧ (∃ x, Rep K H k x ∧ RelV x en.key) ∧ (∃ y, Rep K H v y ∧ RelV y en.val) := by
  obtain ⟨_, _, _, e⟩ := c
  rcases e with ⟨vs, q, k1, k2, k3⟩ | ⟨xs, q, k1, k2⟩
  · have l1 : t.1.size = vs.length := by rw [← k2.length, Array.length_toList]
    have l2 : kvs.length = vs.length := Paired.length q
    refine ⟨by omega, fun i k v hi => ?_⟩
    obtain ⟨p, hp, h1, x, h2, h3⟩ := paired_get q hi
    have hlt : i < t.1.size := by
      have := (List.getElem?_eq_some_iff.mp hi).1
      omega
    have he : t.1.toList[i]? = some t.1[i] := by simp [hlt]
    obtain ⟨g1, g2⟩ := k2.get? (e := t.1[i]) he hp
    refine ⟨t.1[i], by simp [hlt], ⟨kV p.1, ?_, relV_key (show keyIs p.1 t.1[i].key = true from g1)⟩, x, h2, by rw [g2]; exact h3⟩
    cases k <;> simp [D.flat?] at h1
    · rw [← h1]; rfl
    · rw [← h1]; rfl
  · have l1 : t.1.size = xs.length := size_of_entries k1
    have l2 : kvs.length = xs.length := Paired.length q
    refine ⟨by omega, fun i k v hi => ?_⟩
    obtain ⟨p, hp, ⟨h1, h2, h3, h4⟩, x, h5, h6⟩ := paired_get q hi
    have qe := entry_at k1 i
    rw [hp] at qe
    exact ⟨_, qe, ⟨_, h3, rfl⟩, x, h5, h6⟩
theorem vals_of_nth : ∀ {n : Nat} {us : List Value} (f : Nat → V), us.length = n → (∀ j u, us[j]? = some u → RelV (f j) u) → Vals ((List.range n).map f) us := fun {n us} f l h => by
  subst l
  exact vals_of_get us f h
theorem reps_of_nth {K : PySem.W.Frag} {H : Hp} : ∀ {ds : List D} {vs : List V}, ds.length = vs.length → (∀ (j : Nat) d, ds[j]? = some d → ∃ v, vs[j]? = some v ∧ Rep K H d v) → Reps K H ds vs
  | [], [], _, _ => rfl
  | [], v :: vs, l, _ => by simp at l
  | d :: ds, [], l, _ => by simp at l
  | d :: ds, v :: vs, l, h => by
    refine .cons ?_ (reps_of_nth (by simpa using l) fun j e q => ?_)
    · obtain ⟨v', e, r⟩ := h 0 d rfl
      simp at e; subst e; exact r
    · obtain ⟨v', e', r⟩ := h (j + 1) e (by simpa using q)
      exact ⟨v', by simpa using e', r⟩
/-- values that bear data, as abstract values -/
theorem rv_vals {K : PySem.W.Frag} {H : Hp} : ∀ {ds : List D} {us : List Value}, ds.length = us.length → (∀ (j : Nat) d u, ds[j]? = some d → us[j]? = some u → ∃ v, Rep K H d v ∧ RelV v u) → ∃ vs, Reps K H ds vs ∧ Vals vs us
  | [], [], _, _ => ⟨[], rfl, .nil⟩
  | [], v :: vs, l, _ => by simp at l
  | d :: ds, [], l, _ => by simp at l
  | d :: ds, u :: us, l, h => by
    obtain ⟨v, r, rv⟩ := h 0 d u rfl rfl
    obtain ⟨vs, h1, h2⟩ := rv_vals (ds := ds) (us := us) (by simpa using l) fun j e u' q q' => h (j + 1) e u' (by simpa using q) (by simpa using q')
    exact ⟨v :: vs, .cons r h1, .cons rv h2⟩
theorem dict_raw {pins : List (Addr × Obj)} {σ : L2.St} {H : Hp} {s : Shared} {a : Addr} {kvs : List (D × D)} {t : Tk} (I : Inv X pins σ H s) (c : Cell X.prog X.w X.K H a (.dict kvs t)) : ∃ o, s.heap.get? a = some o ∧ o.ExactDict ∧ o.data = .dict t.1 t.2 := (I.hok a _ c.1).1
/-- list(d) -/
theorem w_list_dict {pins : List (Addr × Obj)} {σ : L2.St} {H : Hp} {s : Shared} {M : Mem} {a : Addr} {kvs : List (D × D)} {t : Tk} {Q : Value → Shared → Prop} {E : Value → Shared → Prop} (hc : X.calm = true) (I : Inv X pins σ H s) (m : MRel X.prog X.w X.K H M) (hM : M a = some (.dict kvs t))
    (h : ∀ p vs s', H p = none → Inv X pins σ (upd H p (.lst vs)) s' → Reps X.K H (kvs.map (·.1)) vs → Q (.ref p) s') : wpAny (model X.prog X.w) X.A (call (.type "list") [.ref a]) Q E s := by
  have c := m a _ hM
  obtain ⟨o, ho, hx, hd⟩ := dict_raw I c
  obtain ⟨sz, en⟩ := cell_entry c
  have hz := c.2.2.1
  refine PySem.W.kdl_call (kdl_raw (dict_neq c) hx hd) (I.ok.hd hc) ho (by omega) fun h' tk acc' c' kp e it => ?_
  obtain ⟨vs, r1, r2⟩ := rv_vals (K := X.K) (H := H) (ds := kvs.map (·.1)) (us := acc'.toList) (by have l1 := it.1; have l2 : acc'.toList.length = acc'.size := Array.length_toList; have l3 : (kvs.map (·.1)).length = kvs.length := List.length_map _; omega) fun j d u hj hu => by
    rw [List.getElem?_map] at hj
    obtain ⟨p, hp, rfl⟩ := Option.map_eq_some_iff.mp hj
    obtain ⟨e1, g1, ⟨x, g2, g3⟩, _⟩ := en j p.1 p.2 hp
    obtain ⟨e2, g4, g5⟩ := it.2 j u (by rw [← Array.getElem?_toList]; exact hu)
    rw [g1] at g4; cases g4
    exact ⟨x, g2, by rw [g5]; exact g3⟩
  have l := r1.length
  rw [List.length_map] at l
  refine h _ vs _ (I.hok.fresh (Nat.le_refl _)) (I.laid (t' := tk) (o := .lst vs) kp (Nat.le_refl _) ?_) r1
  exact ⟨by omega, acc'.toList, c', r2, by rw [Array.toArray_toList]; exact e⟩

/-! ### int, abs, str -/
def dInt1 : WL := fun ds M Q => match ds with
  | [.int i] => Q (.int i) M
  | [.bl b] => Q (.int (if b = true then 1 else 0)) M
  | _ => False
theorem lift_int1 : LiftL X (fun xs H Q => (∃ i, xs = [.int i] ∧ Q (.int i) H) ∨ ∃ k, xs = [.bl k] ∧ Q (.int (if k then 1 else 0)) H) dInt1 := by
  intro H M xs ds Q Q' m rs q k
  unfold dInt1 at q
  split at q
  · rename_i i; obtain ⟨v, rfl, r⟩ := reps1 rs; cases (show v = _ from r); exact .inl ⟨i, rfl, k _ H (.int i) M rfl m .refl q⟩
  · rename_i b; obtain ⟨v, rfl, r⟩ := reps1 rs; cases (show v = _ from r); exact .inr ⟨b, rfl, k _ H (.int _) M rfl m .refl q⟩
  · exact q.elim
def dAbs : WL := fun ds M Q => match ds with
  | [.int i] => Q (.int (if i < 0 then -i else i)) M
  | _ => False
theorem lift_abs : LiftL X (fun xs H Q => ∃ i, xs = [.int i] ∧ Q (.int (if i < 0 then -i else i)) H) dAbs := by
  intro H M xs ds Q Q' m rs q k
  unfold dAbs at q
  split at q
  · rename_i i; obtain ⟨v, rfl, r⟩ := reps1 rs; cases (show v = _ from r); exact ⟨i, rfl, k _ H (.int _) M rfl m .refl q⟩
  · exact q.elim
def dStr1 : WL := fun ds M Q => match ds with
  | [.int i] => i.natAbs.log2 < 1920 ∧ Q (.str (toString i)) M
  | _ => False
theorem lift_str1 : LiftL X (fun xs H Q => ∃ i, xs = [.int i] ∧ i.natAbs.log2 < 1920 ∧ Q (.str (toString i)) H) dStr1 := by
  intro H M xs ds Q Q' m rs q k
  unfold dStr1 at q
  split at q
  · rename_i i; obtain ⟨v, rfl, r⟩ := reps1 rs; cases (show v = _ from r); exact ⟨i, rfl, q.1, k _ H (.str _) M rfl m .refl q.2⟩
  · exact q.elim
/-! ### tuple, list -/
def dTuple : WL := fun ds M Q => match ds with
  | [.tup xs] => Q (.tup xs) M
  | [.ref a] => match M a with
    | some (.lst xs) => Q (.tup xs) M
    | some (.rl xs) => Q (.tup xs) M
    | _ => False
  | _ => False
theorem lift_tuple : LiftL X (fun xs H Q => ∃ p ys, xs = [.ref p] ∧ ((SqL X.K H p ys ∧ ∀ l, H l = none → Q (.ref l) (upd H l (.tup ys))) ∨ (SqT X.K H p ys ∧ Q (.ref p) H))) dTuple := by
  intro H M xs ds Q Q' m rs q k
  unfold dTuple at q
  split at q
  · rename_i ys
    obtain ⟨v, rfl, a, vs, rfl, s, r⟩ := reps1 rs
    exact ⟨a, vs, rfl, .inr ⟨s, k _ H (.tup ys) M ⟨a, vs, rfl, s, r⟩ m .refl q⟩⟩
  · rename_i a
    obtain ⟨v, rfl, r⟩ := reps1 rs
    cases (show v = .ref a from r)
    split at q
    · rename_i ys c
      obtain ⟨vs, hh, r⟩ := m a _ c
      refine ⟨a, vs, rfl, .inl ⟨.of hh, fun p np => ?_⟩⟩
      obtain ⟨m', k'⟩ := m.allocT (o := .tup vs) np
      exact k _ _ (.tup ys) M ⟨p, vs, rfl, .of upd_same, Reps.keep (tkeep_new np) _ _ r⟩ m' k' q
    · rename_i ys c
      obtain ⟨o, vs, hh, r⟩ := m a _ c
      refine ⟨a, vs, rfl, .inl ⟨.inl (.inr ⟨o, hh⟩), fun p np => ?_⟩⟩
      obtain ⟨m', k'⟩ := m.allocT (o := .tup vs) np
      exact k _ _ (.tup ys) M ⟨p, vs, rfl, .of upd_same, Reps.keep (tkeep_new np) _ _ r⟩ m' k' q
    · exact q.elim
  · exact q.elim
def dListD : WL := fun ds M Q => match ds with
  | [.ref a] => ∃ kvs t, M a = some (.dict kvs t) ∧ ∀ p, M p = none → Q (.ref p) (mset M p (.lst (kvs.map (·.1))))
  | _ => False
theorem call_listD (hc : X.calm = true) : CallR X (.type "list") (rOfL X dListD) := by
  intro pins s σ H xs us Q I r h
  obtain ⟨M, ds, Q', m, rs, q, k⟩ := h
  unfold dListD at q
  split at q
  · rename_i a
    obtain ⟨kvs, t, hM, q⟩ := q
    obtain ⟨v, rfl, h1⟩ := reps1 rs
    cases (show v = .ref a from h1)
    obtain ⟨u, rfl, ru⟩ := vals1 r
    cases (show u = Value.ref a from ru)
    refine w_list_dict hc I m hM fun p vs s' np I' r1 => ?_
    obtain ⟨m', k', n⟩ := m.alloc (o := .lst vs) (mo := .lst (kvs.map (·.1))) np fun t => ⟨_, upd_same, Reps.keep t _ _ r1⟩
    exact ⟨.ref p, _, I', rfl, k _ _ (.ref p) _ rfl m' k' (q p n)⟩
  · exact q.elim
def dList : WL := fun ds M Q => match ds with
  | [.tup xs] => ∀ p, M p = none → Q (.ref p) (mset M p (.lst xs))
  | [.ref a] => match M a with
    | some (.lst xs) => ∀ p, M p = none → Q (.ref p) (mset M p (.lst xs))
    | some (.rl xs) => ∀ p, M p = none → Q (.ref p) (mset M p (.lst xs))
    | some (.dict kvs _) => ∀ p, M p = none → Q (.ref p) (mset M p (.lst (kvs.map (·.1))))
    | _ => False
  | _ => False
def rListR (X : Cx) : List V → Hp → VK → Prop := fun xs H Q => rOfL X dListD xs H Q ∨ (∃ p ys, xs = [.ref p] ∧ (SqL X.K H p ys ∨ SqT X.K H p ys) ∧ ∀ l, H l = none → Q (.ref l) (upd H l (.lst ys)))
theorem call_listR (hc : X.calm = true) : CallR X (.type "list") (rListR X) := (call_listD hc).or call_list_of
theorem lift_list : LiftL X (rListR X) dList := by
  intro H M xs ds Q Q' m rs q k
  have fin : ∀ {ys : List D} {vs : List V}, Reps X.K H ys vs → (∀ p, M p = none → Q' (.ref p) (mset M p (.lst ys))) → ∀ p, H p = none → Q (.ref p) (upd H p (.lst vs)) := fun {ys vs} r q p np => by
    obtain ⟨m', k', n⟩ := m.alloc (o := .lst vs) (mo := .lst ys) np fun t => ⟨_, upd_same, Reps.keep t _ _ r⟩
    exact k _ _ (.ref p) _ rfl m' k' (q p n)
  unfold dList at q
  split at q
  · rename_i ys
    obtain ⟨v, rfl, a, vs, rfl, s, r⟩ := reps1 rs
    exact .inr ⟨a, vs, rfl, .inr s, fin r q⟩
  · rename_i a
    obtain ⟨v, rfl, r⟩ := reps1 rs
    cases (show v = .ref a from r)
    split at q
    · rename_i ys c
      obtain ⟨vs, hh, r⟩ := m a _ c
      exact .inr ⟨a, vs, rfl, .inl (.of hh), fin r q⟩
    · rename_i ys c
      obtain ⟨o, vs, hh, r⟩ := m a _ c
      exact .inr ⟨a, vs, rfl, .inl (.inl (.inr ⟨o, hh⟩)), fin r q⟩
    · rename_i kvs t c
      exact .inl ⟨M, [.ref a], Q', m, rs, by show dListD [.ref a] M Q'; exact ⟨kvs, t, c, q⟩, k⟩
    · exact q.elim
  · exact q.elim
/-! ### all, any, sum -/
def dAll (f : List Bool → Bool) : WL := fun ds M Q => match ds with
  | [.ref a] => match M a with
    | some (.lst xs) => ∃ bs, xs = List.map D.bl bs ∧ Q (.bl (f bs)) M
    | _ => False
  | _ => False
theorem lift_all : LiftL X (rAll X.K) (dAll fun bs => bs.all id) := by
  intro H M xs ds Q Q' m rs q k
  unfold dAll at q
  split at q
  · rename_i a
    obtain ⟨v, rfl, r⟩ := reps1 rs
    cases (show v = .ref a from r)
    split at q
    · rename_i ys c
      obtain ⟨bs, rfl, q⟩ := q
      obtain ⟨vs, hh, r⟩ := m a _ c
      exact ⟨a, bs, rfl, by rw [← Reps.bls_eq r]; exact .of hh, k _ H (.bl _) M rfl m .refl q⟩
    · exact q.elim
  · exact q.elim
theorem lift_any : LiftL X (rAny X.K) (dAll fun bs => bs.any id) := by
  intro H M xs ds Q Q' m rs q k
  unfold dAll at q
  split at q
  · rename_i a
    obtain ⟨v, rfl, r⟩ := reps1 rs
    cases (show v = .ref a from r)
    split at q
    · rename_i ys c
      obtain ⟨bs, rfl, q⟩ := q
      obtain ⟨vs, hh, r⟩ := m a _ c
      exact ⟨a, bs, rfl, by rw [← Reps.bls_eq r]; exact .of hh, k _ H (.bl _) M rfl m .refl q⟩
    · exact q.elim
  · exact q.elim
def dSum : WL := fun ds M Q => match ds with
  | [.ref a] => match M a with
    | some (.lst xs) => ∃ ns, xs = List.map D.int ns ∧ Q (.int ns.sum) M
    | _ => False
  | _ => False
theorem lift_sum : LiftL X (rSum X.K) dSum := by
  intro H M xs ds Q Q' m rs q k
  unfold dSum at q
  split at q
  · rename_i a
    obtain ⟨v, rfl, r⟩ := reps1 rs
    cases (show v = .ref a from r)
    split at q
    · rename_i ys c
      obtain ⟨ns, rfl, q⟩ := q
      obtain ⟨vs, hh, r⟩ := m a _ c
      exact ⟨a, ns, rfl, by rw [← Reps.ints_eq r]; exact .of hh, k _ H (.int _) M rfl m .refl q⟩
    · exact q.elim
  · exact q.elim
end
end Fw

set_option Elab.async false
set_option linter.all false
set_option maxRecDepth 100000
set_option maxHeartbeats 4000000
/-! FwSort: sorted over data -/
namespace Fw
open PySem PySem.Spec PyProof.Rows L2

/-- the data as the library tells it -/
def D.pyd (d : D) : PyData := d.py.getD .none
theorem pys_map : ∀ {ds : List D} {ps : List PyData}, D.pys ds = some ps → ds.map D.pyd = ps
  | [], ps, h => by simp [D.pys] at h; subst h; rfl
  | d :: ds, ps, h => by
    rw [D.pys] at h
    split at h
    · rename_i k ks e1 e2
      simp at h; subst h
      rw [List.map_cons, pys_map e2, D.pyd, e1]; rfl
    · simp at h
section
variable {X : Cx} {pins : List (Addr × Obj)} {σ : L2.St} {H : Hp} {s : Shared}
mutual
theorem reads0 (I : Inv X pins σ H s) : ∀ (d : D) (p : PyData) (v : V) (u : Value), d.py = some p → Rep X.K H d v → RelV v u → Reads s.heap u p []
  | .non, p, v, u, e, r, rv => by simp [D.py] at e; subst e; cases (show v = _ from r); cases (show u = _ from rv); exact .none
  | .bl b, p, v, u, e, r, rv => by simp [D.py] at e; subst e; cases (show v = _ from r); cases (show u = _ from rv); exact .bool b
  | .int i, p, v, u, e, r, rv => by simp [D.py] at e; subst e; cases (show v = _ from r); obtain ⟨t, rfl⟩ := rv; exact .int i t
  | .str i, p, v, u, e, r, rv => by simp [D.py] at e; subst e; cases (show v = _ from r); obtain ⟨t, rfl⟩ := rv; exact .str i t
  | .ref _, p, v, u, e, r, rv => by simp [D.py] at e
  | .tup ds, p, v, u, e, r, rv => by
    simp only [D.py, Option.map_eq_some_iff] at e
    obtain ⟨ps, e, rfl⟩ := e
    obtain ⟨a, vs, rfl, sq, rs⟩ := r
    cases (show u = Value.ref a from rv)
    obtain ⟨its, rv, ⟨o, ho, hc, n, hd⟩, _⟩ := I.tuple sq
    exact .tuple ho hc hd (by simpa using readss0 I ds ps vs its e rs rv)
theorem readss0 (I : Inv X pins σ H s) : ∀ (ds : List D) (ps : List PyData) (vs : List V) (us : List Value), D.pys ds = some ps → Reps X.K H ds vs → Vals vs us → ReadsAll s.heap us ps []
  | [], ps, vs, us, e, r, rv => by
    simp [D.pys] at e; subst e
    rw [show vs = [] from r] at rv; cases rv; exact .nil
  | d :: ds, ps, vs, us, e, r, rv => by
    obtain ⟨v, r', rfl, h1, h2⟩ := r
    rw [D.pys] at e
    split at e
    · rename_i k ks' e1 e2
      simp at e; subst e
      cases rv with
      | cons q1 q2 =>
        have := ReadsAll.cons (reads0 I d k v _ e1 h1 q1) (readss0 I ds ks' r' _ e2 h2 q2)
        exact this
    · simp at e
end
abbrev RD (X : Cx) (H : Hp) (u : Value) (d : D) : Prop := ∃ v, Rep X.K H d v ∧ RelV v u
theorem each_of : ∀ {ds : List D} {vs : List V} {us : List Value}, Reps X.K H ds vs → Vals vs us → PySem.W.EachIs (RD X H) us ds
  | [], _, _, r, rv => by rw [show _ = _ from r] at rv; cases rv; exact .nil
  | d :: ds, _, _, r, rv => by
    obtain ⟨v, r', rfl, h1, h2⟩ := r
    cases rv with
    | cons q1 q2 => exact .cons ⟨v, h1, q1⟩ (each_of h2 q2)
theorem of_each : ∀ {ds : List D} {us : List Value}, PySem.W.EachIs (RD X H) us ds → ∃ vs, Reps X.K H ds vs ∧ Vals vs us
  | [], _, .nil => ⟨[], rfl, .nil⟩
  | d :: ds, _, .cons ⟨v, h1, q1⟩ t => by
    obtain ⟨vs, h2, q2⟩ := of_each t
    exact ⟨v :: vs, .cons h1 h2, .cons q1 q2⟩
theorem each_reads (I : Inv X pins σ H s) : ∀ {ds : List D} {ps : List PyData} {us : List Value}, D.pys ds = some ps → PySem.W.EachIs (RD X H) us ds → PySem.W.EachIs (fun u d => Reads s.heap u d.pyd []) us ds
  | [], _, _, _, .nil => .nil
  | d :: ds, ps, _, e, .cons ⟨v, h1, q1⟩ t => by
    rw [D.pys] at e
    split at e
    · rename_i k ks' e1 e2
      refine .cons ?_ (each_reads I e2 t)
      have := reads0 I d k v _ e1 h1 q1
      rw [D.pyd, e1]; exact this
    · simp at e
end

/-- what sorted can sort -/
def SortOk (ds : List D) : Prop := ∃ ps, D.pys ds = some ps ∧ PySem.W.AllAlike ps ∧ PySem.W.Sortable ps ∧ ∀ p ∈ ps, p.depth ≤ 32
def sortD (ds : List D) : List D := ds.mergeSort (PySem.W.dataLe false D.pyd)

section
variable {prog : Program} {w : World} {A : Around} {E : Value → Shared → Prop} {s : Shared}
/-- sorted of anything that is collected: then the new list's own sort -/
theorem sorted_gen {r : Value} {vs : List Value} {kw : List (Str × Value)} {Q : Value → Shared → Prop} (ha1 : argsOk "sorted" ⟨[r], kw⟩) (hL : vs.length ≤ sizeLine)
    (hcol : ∀ (R : List Value → Shared → Prop) (E' : Value → Shared → Prop), (∀ (h' : Heap) (tk : Nat), (∀ b o, s.heap.get? b = some o → h'.get? b = some o) → R vs { s with heap := h', toks := tk }) → wpAny (model prog w) A.in1 (collect r) R E' s)
    (hsort : ∀ (E' : Value → Shared → Prop) (h' : Heap) (tk : Nat), (∀ b o, s.heap.get? b = some o → h'.get? b = some o) → wpAny (model prog w) A.in1 (call (.builtin "list.sort") [.ref h'.objs.size] kw) (fun _ s' => Q (.ref h'.objs.size) s') E' { s with heap := h'.push { cls := .type "list", data := .seq vs.toArray }, toks := tk }) :
    wpAny (model prog w) A (call (.builtin "sorted") [r] kw) Q E s := by
  refine call_function_entry_kw kind_sorted plain_sorted entry_sorted ha1 ?_
  unfold Builtin.«sorted»
  refine wpAny_bind (m := checkCount "sorted" 1 1 _) (wpAny_pure ?_)
  refine wpAny_bind (hcol _ _ fun h' tk hk => ?_)
  refine wpAny_bind (wpAny_newList ?_ hL)
  refine wpAny_bind (wpAny_holding (wpAny_mono (hsort _ h' tk hk) (fun _ s' x => ?_) fun _ _ e => e))
  exact wpAny_pure ⟨_, rfl, x⟩
theorem collect_kept_list {l : Addr} {vs : List Value} {R : List Value → Shared → Prop} (hl : s.heap.IsList l vs.toArray) (hz : vs.length ≤ sizeLine)
    (h : ∀ (h' : Heap) (tk : Nat), (∀ b o, s.heap.get? b = some o → h'.get? b = some o) → R vs { s with heap := h', toks := tk }) : wpAny (model prog w) A (collect (.ref l)) R E s :=
  collect_list hl (h _ s.toks fun b o q => by
    have hlt : b < s.heap.objs.size := Heap.lt_size q
    rw [Heap.get?_update_ne _ _ _ _ (Nat.ne_of_lt hlt), Heap.get?_push_ne _ _ _ (Nat.ne_of_lt hlt)]; exact q) hz
theorem collect_kept_dict {d : Addr} {o : Obj} {es : Array DictEntry} {ep : Nat} {R : List Value → Shared → Prop} (hh : A.handled = none) (lo : (d == sysModules) = false) (ho : s.heap.get? d = some o) (hx : o.ExactDict) (hd : o.data = .dict es ep) (hz : es.size ≤ sizeLine)
    (h : ∀ (h' : Heap) (tk : Nat), (∀ b o, s.heap.get? b = some o → h'.get? b = some o) → R (es.toList.map (·.key)) { s with heap := h', toks := tk }) : wpAny (model prog w) A (collect (.ref d)) R E s :=
  PySem.W.kdu_collect (kdl_raw lo hx hd) hh ho hz fun h' tk acc hk hacc => by
    have e : acc.toList = es.toList.map (·.key) := by
      apply List.ext_getElem?
      intro j
      have l := hacc.1
      cases hj : acc.toList[j]? with
      | none =>
        have h1 := List.getElem?_eq_none_iff.mp hj
        rw [Array.length_toList] at h1
        rw [List.getElem?_eq_none (by rw [List.length_map, Array.length_toList]; omega)]
      | some v =>
        obtain ⟨en, h1, h2⟩ := hacc.2 j v (by rw [← Array.getElem?_toList]; exact hj)
        rw [List.getElem?_map, Array.getElem?_toList, h1, h2]; rfl
    rw [e]
    exact h h' tk hk
end
section
variable {X : Cx}
/-- a new thing at a place where nothing stands -/
theorem laid_at {pins : List (Addr × Obj)} {σ : L2.St} {H : Hp} {s : Shared} {h' : Heap} {a : Addr} {o : HO} {t' : Nat} (I : Inv X pins σ H s) (k : ∀ b u, s.heap.get? b = some u → h'.get? b = some u) (hg : s.heap.get? a = none) (hn : H a = none) (new : ObjOk X.prog X.w (upd H a o) h' a o) :
    Inv X pins σ (upd H a o) { s with heap := h', toks := t' } := by
  have ne : ∀ b u, s.heap.get? b = some u → b ≠ a := fun b u q z => by subst z; rw [hg] at q; cases q
  have ok : HOk X.prog X.w (upd H a o) h' := fun b u e => by
    by_cases hb : b = a
    · subst hb; rw [upd_same] at e; cases e; exact new
    · rw [upd_ne hb] at e
      exact (I.hok b u e).stay (fun c v _ q => k c v q) (fun c q => by rw [upd_ne (ne_of_none q hn)]; exact q) fun c xs q => by rw [upd_ne (ne_of_none q hn)]; exact q
  exact I.un (t' := t') ⟨fun b u q _ _ _ => k b u q, fun b u q _ _ _ => ⟨u.slots, k b u q⟩, fun b u q n _ => by rw [upd_ne (ne b u q)]; exact n, fun b u q _ => ⟨u, k b u q⟩,
    fun b xs q => by rw [upd_ne (ne_of_none q hn)]; exact q, fun b u xs q => by rw [upd_ne (ne_of_none q hn)]; exact q, fun b ps q => ⟨#[], by rw [upd_ne (ne_of_none q hn), q]; simp⟩⟩ ok
theorem ok_some {P : Program} {w : World} {H : Hp} {h : Heap} {a : Addr} {o : HO} (x : ObjOk P w H h a o) : ∃ u, h.get? a = some u := by
  cases o with
  | lst xs => obtain ⟨_, _, _, _, e⟩ := x; exact ⟨_, e⟩
  | tup xs => obtain ⟨_, _, _, o, e, _⟩ := x; exact ⟨_, e⟩
  | dK kvs => obtain ⟨_, _, _, _, o, _, _, e, _⟩ := x; exact ⟨_, e⟩
  | dT kvs => obtain ⟨_, _, _, _, o, _, _, e, _⟩ := x; exact ⟨_, e⟩
  | set S n => obtain ⟨o, _, _, _, e, _⟩ := x; exact ⟨_, e⟩
  | ins C dx fs => obtain ⟨_, _, _, e, _⟩ := x; exact ⟨_, e⟩
  | own y => exact x
  | xd fs => obtain ⟨_, ⟨_, _, _, e, _⟩, _⟩ := x; exact ⟨_, e⟩
  | rng lo hi => obtain ⟨_, _, _, e⟩ := x; exact ⟨_, e⟩
  | frz ob u => obtain ⟨e, _⟩ := x; exact ⟨_, e⟩
  | tbl ps => exact ⟨_, x⟩
  | met f y => exact ⟨_, x⟩
  | ext φ => exact x.2.1
theorem none_there {H : Hp} {s : Shared} {h' : Heap} {a : Addr} {P : Program} {w : World} (ok : HOk P w H s.heap) (k : ∀ b u, s.heap.get? b = some u → h'.get? b = some u) (hz : h'.objs.size ≤ a) : s.heap.get? a = none ∧ H a = none := by
  have e := Heap.get?_none_of_le hz
  have g : s.heap.get? a = none := by
    cases q : s.heap.get? a with
    | none => rfl
    | some u => rw [k a u q] at e; cases e
  refine ⟨g, ?_⟩
  cases q : H a with
  | none => rfl
  | some o =>
    obtain ⟨u, hu⟩ := ok_some (ok a o q)
    rw [g] at hu; cases hu
def dSorted : WL := fun ds M Q => match ds with
  | [.ref a] => match M a with
    | some (.lst xs) => SortOk xs ∧ ∀ p, M p = none → Q (.ref p) (mset M p (.lst (sortD xs)))
    | some (.rl xs) => SortOk xs ∧ ∀ p, M p = none → Q (.ref p) (mset M p (.lst (sortD xs)))
    | some (.dict kvs _) => SortOk (kvs.map (·.1)) ∧ ∀ p, M p = none → Q (.ref p) (mset M p (.lst (sortD (kvs.map (·.1)))))
    | _ => False
  | _ => False
/-- the keys of a dict, as values -/
theorem keys_each {H : Hp} {a : Addr} {kvs : List (D × D)} {t : Tk} (c : Cell X.prog X.w X.K H a (.dict kvs t)) : PySem.W.EachIs (RD X H) (t.1.toList.map (·.key)) (kvs.map (·.1)) ∧ t.1.size ≤ sizeLine := by
  obtain ⟨sz, en⟩ := cell_entry c
  have l3 : (kvs.map (·.1)).length = kvs.length := List.length_map _
  have l4 : (t.1.toList.map (·.key)).length = t.1.size := by rw [List.length_map, Array.length_toList]
  obtain ⟨vs, r1, r2⟩ := rv_vals (K := X.K) (H := H) (ds := kvs.map (·.1)) (us := t.1.toList.map (·.key)) (by omega) fun j d u hj hu => by
    rw [List.getElem?_map] at hj hu
    obtain ⟨p, hp, rfl⟩ := Option.map_eq_some_iff.mp hj
    obtain ⟨e1, g1, ⟨x, g2, g3⟩, _⟩ := en j p.1 p.2 hp
    rw [Array.getElem?_toList, g1] at hu
    cases hu
    exact ⟨x, g2, g3⟩
  exact ⟨each_of r1 r2, by rw [sz]; exact c.2.2.1⟩
/-- what is sorted: the values and the data that they bear -/
theorem sorted_run {pins : List (Addr × Obj)} {σ : L2.St} {H : Hp} {s : Shared} {M : Mem} {xs : List D} {us : List Value} {r : Value} {Q : VK} {Q' : DK} (hu : X.A.units + 64 < cLine) (I : Inv X pins σ H s) (m : MRel X.prog X.w X.K H M) (ea : PySem.W.EachIs (RD X H) us xs) (ok : SortOk xs) (hz : us.length ≤ sizeLine)
    (ha1 : argsOk "sorted" ⟨[r], []⟩)
    (hcol : ∀ (R : List Value → Shared → Prop) (E' : Value → Shared → Prop), (∀ (h' : Heap) (tk : Nat), (∀ b o, s.heap.get? b = some o → h'.get? b = some o) → R us { s with heap := h', toks := tk }) → wpAny (model X.prog X.w) X.A.in1 (collect r) R E' s)
    (q : ∀ p, M p = none → Q' (.ref p) (mset M p (.lst (sortD xs)))) (k : ∀ v H' d' M', Rep X.K H' d' v → MRel X.prog X.w X.K H' M' → Keep H M H' M' → Q' d' M' → Q v H') : wpAny (model X.prog X.w) X.A (call (.builtin "sorted") [r]) (EP X pins σ Q) X.xe s := by
  obtain ⟨ps, e1, al, so, dp⟩ := ok
  have len := ea.length
  refine sorted_gen ha1 hz hcol fun E' h' tk hk => ?_
  have ho : (h'.push { cls := .type "list", data := .seq us.toArray }).get? h'.objs.size = some (seqObj "list" us.toArray 0) := Heap.get?_push_size _ rfl
  have kp : ∀ b o, s.heap.get? b = some o → (h'.push { cls := .type "list", data := .seq us.toArray }).get? b = some o := fun b o q => Heap.get?_push_of_some _ (hk b o q)
  have hne : ∀ b o, s.heap.get? b = some o → b ≠ h'.objs.size := fun b o q => Nat.ne_of_lt (Heap.lt_size (hk b o q))
  have er := each_reads I e1 ea
  have em : xs.map D.pyd = ps := pys_map e1
  refine PySem.W.list_sort_data (enc := D.pyd) (R := RD X H) ho ea (er.mono fun u d q => ⟨[], PyProof.Rows.Reads.keeps kp q, by simp⟩) (by rw [em]; exact al) (by rw [em]; exact so) (by rw [← len]; exact hz) (fun d hd => ?_) fun out hl eo => ?_
  · have hp : d.pyd ∈ ps := by rw [← em]; exact List.mem_map.mpr ⟨d, hd, rfl⟩
    have := dp _ hp
    show X.A.units + 1 + 1 + d.pyd.depth < cLine
    omega
  · obtain ⟨vs, r1, r2⟩ := of_each eo
    obtain ⟨ng, np⟩ := none_there I.hok hk (Nat.le_refl _)
    obtain ⟨m', k', n⟩ := m.alloc (o := .lst vs) (mo := .lst (sortD xs)) np fun t => ⟨_, upd_same, Reps.keep t _ _ r1⟩
    obtain ⟨ep, he'⟩ := PyProof.Rows.sortedHeap_at (vs := us) (out := out.toArray) ho
    refine ⟨.ref h'.objs.size, _, laid_at (s := s) I (t' := tk) (a := h'.objs.size) (o := .lst vs) (fun b u hu => ?_) ng np ?_, rfl, k _ _ (.ref h'.objs.size) _ rfl m' k' (q _ n)⟩
    · rw [PyProof.Rows.sortedHeap_old (hne b u hu) (Heap.lt_size (kp b u hu))]; exact kp b u hu
    · exact ⟨by rw [← r2.length] at hl; omega, out, ep, r2, he'⟩
theorem call_sortedA (hc : X.calm = true) (hu : X.A.units + 64 < cLine) : CallR X (.builtin "sorted") (rOfL X dSorted) := by
  intro pins s σ H xs us Q I r h
  obtain ⟨M, ds, Q', m, rs, q, k⟩ := h
  unfold dSorted at q
  split at q
  · rename_i a
    obtain ⟨v, rfl, h1⟩ := reps1 rs
    cases (show v = .ref a from h1)
    obtain ⟨u, rfl, ru⟩ := vals1 r
    cases (show u = Value.ref a from ru)
    split at q
    · rename_i ys c
      obtain ⟨ok, q⟩ := q
      obtain ⟨vs, hh, r⟩ := m a _ c
      obtain ⟨its, rv, pl, hz⟩ := I.list (.of hh)
      have l := rv.length
      exact sorted_run hu I m (each_of r rv) ok (by omega) (args_sorted1 _) (fun R E' h => collect_kept_list pl.isList (by omega) h) q k
    · rename_i ys c
      obtain ⟨ok, q⟩ := q
      obtain ⟨o, vs, hh, r⟩ := m a _ c
      obtain ⟨its, rv, pl, hz⟩ := I.list (.inl (.inr ⟨o, hh⟩))
      have l := rv.length
      exact sorted_run hu I m (each_of r rv) ok (by omega) (args_sorted1 _) (fun R E' h => collect_kept_list pl.isList (by omega) h) q k
    · rename_i kvs t c
      obtain ⟨ok, q⟩ := q
      have ce := m a _ c
      obtain ⟨o, ho, hx, hd⟩ := dict_raw I ce
      obtain ⟨ea, hz⟩ := keys_each ce
      exact sorted_run hu I m ea ok (by rw [List.length_map, Array.length_toList]; exact hz) (args_sorted1 _) (fun R E' h => collect_kept_dict (I.ok.hd hc) (dict_neq ce) ho hx hd hz h) q k
    · exact q.elim
  · exact q.elim
end
end Fw

set_option Elab.async false
set_option linter.all false
set_option maxRecDepth 100000
set_option maxHeartbeats 4000000
/-! FwIter: what loops walk, over data -/
namespace Fw
open PySem PySem.Spec PyProof.Rows L2

/-- what is walked: its items, and what must stay as it is meanwhile -/
structure Src where
  items : List D
  stab : Mem → Prop
abbrev WI := Env → Mem → (Src → Mem → Prop) → Prop
structure ItOk (X : Cx) (J : It) (src : Src) (H0 : Hp) (M0 : Mem) : Prop where
  go : ∀ i H M, MRel X.prog X.w X.K H M → Keep H0 M0 H M → src.stab M → i < src.items.length → J.go i H
  yld : ∀ i H M x H', MRel X.prog X.w X.K H M → Keep H0 M0 H M → src.stab M → i < src.items.length → J.yld i H x H' → ∃ d, src.items[i]? = some d ∧ Rep X.K H' d x ∧ MRel X.prog X.w X.K H' M ∧ Keep H M H' M
  stop : ∀ H M, MRel X.prog X.w X.K H M → Keep H0 M0 H M → src.stab M → J.stop src.items.length H
def lI (X : Cx) (w : WI) : TI := fun σ H R => ∃ ρ M Q', Rl X σ H ρ M ∧ w ρ M Q' ∧ ∀ J H' src M', MRel X.prog X.w X.K H' M' → Keep H M H' M' → ItOk X J src H' M' → Q' src M' → R J H'
abbrev DI (X : Cx) (tg iter : Expr) (w : WI) : Prop := PI X tg iter (lI X w)

/-! ### dicts, raw -/
section
variable {P : Program} {w : World} {K : PySem.W.Frag} {tg : Expr}
def ItK (d : Addr) (t : Tk) : It := ⟨fun i H => i < t.1.size ∧ H d = some (DX d t), fun i H x H' => H' = H ∧ ∃ en : DictEntry, t.1[i]? = some en ∧ RelV x en.key, fun i H => t.1.size ≤ i ∧ H d = some (DX d t)⟩
def ItV (d : Addr) (t : Tk) : It := ⟨fun i H => i < t.1.size ∧ H d = some (DX d t), fun i H x H' => H' = H ∧ ∃ en : DictEntry, t.1[i]? = some en ∧ RelV x en.val, fun i H => t.1.size ≤ i ∧ H d = some (DX d t)⟩
def ItI (d : Addr) (t : Tk) : It := ⟨fun i H => i < t.1.size ∧ H d = some (DX d t), fun i H x H' => ∃ (T : Addr) (y z : V) (en : DictEntry), x = .ref T ∧ H T = none ∧ H' = upd H T (.tup [y, z]) ∧ t.1[i]? = some en ∧ RelV y en.key ∧ RelV z en.val, fun i H => t.1.size ≤ i ∧ H d = some (DX d t)⟩
/-- every stored value is a value of the layer -/
def EnV (t : Tk) : Prop := ∀ (i : Nat) (en : DictEntry), t.1[i]? = some en → (∃ y, RelV y en.key) ∧ ∃ z, RelV z en.val
theorem turn_k (d it : Addr) (t : Tk) (ev : EnV t) : Turn P w K tg (ItK d t) [it] it (fun i h => h.IsKeyIter it d i t.1.size t.2) where
  mem := by simp
  obj := fun i h st b hb => by
    have e : b = it := by simpa using hb
    subst e
    obtain ⟨oi, e, c, dd⟩ := st
    exact ⟨oi, e, fun v z => by rw [dd] at z; cases z⟩
  keep := fun i h h' st k => st.at fun oi e => k it (by simp) oi e
  item := by
    intro X hP hw hK hc i pins s σ H E I hf st hg
    subst hP hw hK
    obtain ⟨hi, hd⟩ := hg
    obtain ⟨f0, f1, f2, f3, f4, f5⟩ := hf it (by simp)
    have raw := (I.hok d _ hd).1
    obtain ⟨⟨y, ry⟩, _⟩ := ev i t.1[i] (by simp [hi])
    refine wpAny_pyNext_keys_item_raw st raw hi fun h' st' sb => ?_
    have I1 : Inv X pins σ H { s with heap := h' } := I.turned (t' := s.toks) (fun b ob hb e => (sb.2 b hb).trans e) f0 f1 f3 f4 f5
    obtain ⟨oi, e, c, dd⟩ := id st'
    exact ⟨_, rfl, go_of (s := { s with heap := h' }) e c dd (by decide) ⟨y, H, I1, ry, ⟨rfl, _, by simp [hi], ry⟩, st', fun b hb => (hf b hb).1⟩⟩
  done := by
    intro X hP hw hK hc i pins s σ H E I hf st hg
    subst hP hw hK
    obtain ⟨hi, hd⟩ := hg
    obtain ⟨f0, f1, f2, f3, f4, f5⟩ := hf it (by simp)
    exact wpAny_pyNext_keys_end_raw (I.ok.hd hc) st (I.hok d _ hd).1 hi fun h' eb => ⟨rfl, I.turned (t' := s.toks) (fun b ob hb e => eb b ob hb e) f0 f1 f3 f4 f5⟩
  self := fun A i s Q E st h => wpAny_pyIter_keyiter st h
theorem turn_v (d it : Addr) (t : Tk) (ev : EnV t) : Turn P w K tg (ItV d t) [it] it (fun i h => h.IsValIter it d i t.1.size t.2) where
  mem := by simp
  obj := fun i h st b hb => by
    have e : b = it := by simpa using hb
    subst e
    obtain ⟨oi, e, c, dd⟩ := st
    exact ⟨oi, e, fun v z => by rw [dd] at z; cases z⟩
  keep := fun i h h' st k => st.at fun oi e => k it (by simp) oi e
  item := by
    intro X hP hw hK hc i pins s σ H E I hf st hg
    subst hP hw hK
    obtain ⟨hi, hd⟩ := hg
    obtain ⟨f0, f1, f2, f3, f4, f5⟩ := hf it (by simp)
    obtain ⟨_, z, rz⟩ := ev i t.1[i] (by simp [hi])
    refine wpAny_pyNext_values_item_raw st (I.hok d _ hd).1 hi fun h' st' sb => ?_
    have I1 : Inv X pins σ H { s with heap := h' } := I.turned (t' := s.toks) (fun b ob hb e => (sb.2 b hb).trans e) f0 f1 f3 f4 f5
    obtain ⟨oi, e, c, dd⟩ := id st'
    exact ⟨_, rfl, go_of (s := { s with heap := h' }) e c dd (by decide) ⟨z, H, I1, rz, ⟨rfl, _, by simp [hi], rz⟩, st', fun b hb => (hf b hb).1⟩⟩
  done := by
    intro X hP hw hK hc i pins s σ H E I hf st hg
    subst hP hw hK
    obtain ⟨hi, hd⟩ := hg
    obtain ⟨f0, f1, f2, f3, f4, f5⟩ := hf it (by simp)
    exact wpAny_pyNext_values_end_raw (I.ok.hd hc) st (I.hok d _ hd).1 hi fun h' eb => ⟨rfl, I.turned (t' := s.toks) (fun b ob hb e => eb b ob hb e) f0 f1 f3 f4 f5⟩
  self := fun A i s Q E st h => wpAny_pyIter_valiter st h
theorem turn_i {elts : List Expr} {kk : Nat} {tpos : Pos} (d it : Addr) (t : Tk) (ev : EnV t) : Turn P w K (.Tuple elts kk tpos) (ItI d t) [it] it (fun i h => ∃ ok ov, IsItemIter h it d i t.1.size t.2 ok ov) where
  mem := by simp
  obj := fun i h st b hb => by
    have e : b = it := by simpa using hb
    subst e
    obtain ⟨ok, ov, e⟩ := st
    exact ⟨_, e, fun v z => nomatch z⟩
  keep := fun i h h' st k => let ⟨ok, ov, e⟩ := st; ⟨ok, ov, k it (by simp) _ e⟩
  item := by
    intro X hP hw hK hc i pins s σ H E I hf st hg
    subst hP hw hK
    obtain ⟨hi, hd⟩ := hg
    obtain ⟨ok, ov, he⟩ := st
    have hlt : it < s.heap.objs.size := Heap.lt_size he
    obtain ⟨⟨y, ry⟩, z, rz⟩ := ev i t.1[i] (by simp [hi])
    refine wpAny_pyNext_items_item_raw he (I.hok d _ hd).1 hi fun h' ho hT hz hk => ?_
    refine ⟨_, rfl, wpAny_letOwnedTupleGo_items (s := { s with heap := h' }) ho fun h'' he' sb => ?_⟩
    have hT2 : h''.get? s.heap.objs.size = some { cls := .type "tuple", data := .seq #[t.1[i].key, t.1[i].val] } := (sb.2 _ (Nat.ne_of_gt hlt)).trans hT
    have new : ObjOk X.prog X.w (upd H s.heap.objs.size (.tup [y, z])) h'' s.heap.objs.size (.tup [y, z]) :=
      ⟨by show 2 ≤ sizeLine; decide, [t.1[i].key, t.1[i].val], .cons ry (.cons rz .nil), ⟨_, hT2, rfl, _, rfl⟩⟩
    have I1 : Inv X pins σ (upd H s.heap.objs.size (.tup [y, z])) { s with heap := h'' } :=
      I.turnedNew (t' := s.toks) (ch := [it]) (fun b ob hb e => (sb.2 b (by simpa using hb)).trans (hk b ob (by simpa using hb) e)) hf (Nat.le_refl _) new
    refine ⟨.ref s.heap.objs.size, _, I1, rfl, ⟨_, y, z, _, rfl, I.hok.fresh (Nat.le_refl _), rfl, by simp [hi], ry, rz⟩, ⟨_, _, he'⟩, fun b hb => ?_⟩
    have e : b = it := by simpa using hb
    rw [e, upd_ne (Nat.ne_of_lt hlt)]
    exact (hf it (by simp)).1
  done := by
    intro X hP hw hK hc i pins s σ H E I hf st hg
    subst hP hw hK
    obtain ⟨hi, hd⟩ := hg
    obtain ⟨f0, f1, f2, f3, f4, f5⟩ := hf it (by simp)
    obtain ⟨ok, ov, he⟩ := st
    exact wpAny_pyNext_items_end_raw (I.ok.hd hc) he (I.hok d _ hd).1 hi fun h' eb => ⟨rfl, I.turned (t' := s.toks) (fun b ob hb e => eb b ob hb e) f0 f1 f3 f4 f5⟩
  self := fun A i s Q E st h => let ⟨_, _, e⟩ := st; PySem.W.kcp_self e h
end

section
variable {X : Cx}
theorem cell_env {P : Program} {w : World} {K : PySem.W.Frag} {H : Hp} {a : Addr} {kvs : List (D × D)} {t : Tk} (c : Cell P w K H a (.dict kvs t)) : EnV t := fun i en hi => by
  obtain ⟨sz, f⟩ := cell_entry c
  have hlt : i < kvs.length := by
    have := (Array.getElem?_eq_some_iff.mp hi).1
    omega
  obtain ⟨e', h1, ⟨x, _, hx⟩, y, _, hy⟩ := f i kvs[i].1 kvs[i].2 (by simp [hlt])
  rw [hi] at h1; cases h1
  exact ⟨⟨x, hx⟩, y, hy⟩
def stabD (a : Addr) (kvs : List (D × D)) (t : Tk) : Mem → Prop := fun M => M a = some (.dict kvs t)
theorem ok_keys {a : Addr} {kvs : List (D × D)} {t : Tk} {H0 : Hp} {M0 : Mem} (m0 : MRel X.prog X.w X.K H0 M0) (h0 : M0 a = some (.dict kvs t)) : ItOk X (ItK a t) ⟨kvs.map (·.1), stabD a kvs t⟩ H0 M0 := by
  obtain ⟨sz, _⟩ := cell_entry (m0 a _ h0)
  refine ⟨fun i H M m k st hi => ⟨by have : (kvs.map (·.1)).length = kvs.length := List.length_map _; have hi' : i < (kvs.map (·.1)).length := hi; omega, (m a _ st).1⟩, fun i H M x H' m k st hi ⟨e, en, h1, h2⟩ => ?_, fun H M m k st => ⟨by have : (kvs.map (·.1)).length = kvs.length := List.length_map _; show t.1.size ≤ (kvs.map (·.1)).length; omega, (m a _ st).1⟩⟩
  subst e
  have hi' : i < kvs.length := by have : (kvs.map (·.1)).length = kvs.length := List.length_map _; have hi' : i < (kvs.map (·.1)).length := hi; omega
  obtain ⟨e', g1, ⟨y, g2, g3⟩, _⟩ := (cell_entry (m a _ st)).2 i kvs[i].1 kvs[i].2 (by simp [hi'])
  rw [h1] at g1; cases g1
  exact ⟨kvs[i].1, by show (kvs.map (·.1))[i]? = _; simp [hi'], by rw [h2.inj g3]; exact g2, m, .refl⟩
theorem ok_vals {a : Addr} {kvs : List (D × D)} {t : Tk} {H0 : Hp} {M0 : Mem} (m0 : MRel X.prog X.w X.K H0 M0) (h0 : M0 a = some (.dict kvs t)) : ItOk X (ItV a t) ⟨kvs.map (·.2), stabD a kvs t⟩ H0 M0 := by
  obtain ⟨sz, _⟩ := cell_entry (m0 a _ h0)
  refine ⟨fun i H M m k st hi => ⟨by have : (kvs.map (·.2)).length = kvs.length := List.length_map _; have hi' : i < (kvs.map (·.2)).length := hi; omega, (m a _ st).1⟩, fun i H M x H' m k st hi ⟨e, en, h1, h2⟩ => ?_, fun H M m k st => ⟨by have : (kvs.map (·.2)).length = kvs.length := List.length_map _; show t.1.size ≤ (kvs.map (·.2)).length; omega, (m a _ st).1⟩⟩
  subst e
  have hi' : i < kvs.length := by have : (kvs.map (·.2)).length = kvs.length := List.length_map _; have hi' : i < (kvs.map (·.2)).length := hi; omega
  obtain ⟨e', g1, _, y, g2, g3⟩ := (cell_entry (m a _ st)).2 i kvs[i].1 kvs[i].2 (by simp [hi'])
  rw [h1] at g1; cases g1
  exact ⟨kvs[i].2, by show (kvs.map (·.2))[i]? = _; simp [hi'], by rw [h2.inj g3]; exact g2, m, .refl⟩
theorem ok_items {a : Addr} {kvs : List (D × D)} {t : Tk} {H0 : Hp} {M0 : Mem} (m0 : MRel X.prog X.w X.K H0 M0) (h0 : M0 a = some (.dict kvs t)) : ItOk X (ItI a t) ⟨kvs.map (fun p => .tup [p.1, p.2]), stabD a kvs t⟩ H0 M0 := by
  obtain ⟨sz, _⟩ := cell_entry (m0 a _ h0)
  have hl : (kvs.map (fun p => D.tup [p.1, p.2])).length = kvs.length := List.length_map _
  refine ⟨fun i H M m k st hi => ⟨by have hi' : i < (kvs.map (fun p => D.tup [p.1, p.2])).length := hi; omega, (m a _ st).1⟩, fun i H M x H' m k st hi ⟨T, y, z, en, e1, e2, e3, h1, h2, h3⟩ => ?_, fun H M m k st => ⟨by show t.1.size ≤ (kvs.map (fun p => D.tup [p.1, p.2])).length; omega, (m a _ st).1⟩⟩
  subst e1 e3
  have hi' : i < kvs.length := by have hi' : i < (kvs.map (fun p => D.tup [p.1, p.2])).length := hi; omega
  obtain ⟨e', g1, ⟨y', g2, g3⟩, z', g4, g5⟩ := (cell_entry (m a _ st)).2 i kvs[i].1 kvs[i].2 (by simp [hi'])
  rw [h1] at g1; cases g1
  obtain ⟨m', k'⟩ := m.allocT (o := .tup [y, z]) e2
  refine ⟨.tup [kvs[i].1, kvs[i].2], by show (kvs.map (fun p => D.tup [p.1, p.2]))[i]? = _; simp [hi'], ⟨T, [y, z], rfl, .of upd_same, ?_⟩, m', k'⟩
  rw [h2.inj g3, h3.inj g5]
  exact .cons (Rep.keep (tkeep_new e2) _ _ g2) (.cons (Rep.keep (tkeep_new e2) _ _ g4) .nil)
theorem ok_list {a : Addr} {ds : List D} {H0 : Hp} {M0 : Mem} : ItOk X (Itl X.K a) ⟨ds, fun M => M a = some (.lst ds)⟩ H0 M0 := by
  refine ⟨fun i H M m k st hi => ?_, fun i H M x H' m k st hi ⟨e, y⟩ => ?_, fun H M m k st => ?_⟩
  · obtain ⟨vs, hh, r⟩ := m a _ st
    obtain ⟨v, e, _⟩ := r.get (i := i) (d := ds[i]) (by simp)
    exact ⟨vs, v, .of hh, e⟩
  · subst e
    obtain ⟨vs, hh, r⟩ := m a _ st
    obtain ⟨v, e, rr⟩ := r.get (i := i) (d := ds[i]) (by simp)
    have := y vs (.of hh)
    rw [e] at this; cases this
    exact ⟨ds[i], by simp, rr, m, .refl⟩
  · obtain ⟨vs, hh, r⟩ := m a _ st
    exact ⟨vs, .of hh, by rw [← r.length]; exact Nat.le_refl _⟩
theorem ok_rlist {a : Addr} {ds : List D} {H0 : Hp} {M0 : Mem} : ItOk X (Itl X.K a) ⟨ds, fun M => M a = some (.rl ds)⟩ H0 M0 := by
  refine ⟨fun i H M m k st hi => ?_, fun i H M x H' m k st hi ⟨e, y⟩ => ?_, fun H M m k st => ?_⟩
  · obtain ⟨o, vs, hh, r⟩ := m a _ st
    obtain ⟨v, e, _⟩ := r.get (i := i) (d := ds[i]) (by simp)
    exact ⟨vs, v, .inl (.inr ⟨o, hh⟩), e⟩
  · subst e
    obtain ⟨o, vs, hh, r⟩ := m a _ st
    obtain ⟨v, e, rr⟩ := r.get (i := i) (d := ds[i]) (by simp)
    have := y vs (.inl (.inr ⟨o, hh⟩))
    rw [e] at this; cases this
    exact ⟨ds[i], by simp, rr, m, .refl⟩
  · obtain ⟨o, vs, hh, r⟩ := m a _ st
    exact ⟨vs, .inl (.inr ⟨o, hh⟩), by rw [← r.length]; exact Nat.le_refl _⟩
theorem ok_tup {a : Addr} {ds : List D} {vs : List V} {H0 : Hp} {M0 : Mem} (m0 : MRel X.prog X.w X.K H0 M0) (s : SqT X.K H0 a vs) (r : Reps X.K H0 ds vs) : ItOk X (Itt X.K a) ⟨ds, fun _ => True⟩ H0 M0 := by
  refine ⟨fun i H M m k st hi => ?_, fun i H M x H' m k st hi ⟨e, y⟩ => ?_, fun H M m k st => ?_⟩
  · obtain ⟨v, e, _⟩ := r.get (i := i) (d := ds[i]) (by simp)
    exact ⟨vs, v, k.tup m0 _ _ s, e⟩
  · subst e
    obtain ⟨v, e, rr⟩ := r.get (i := i) (d := ds[i]) (by simp)
    have := y vs (k.tup m0 _ _ s)
    rw [e] at this; cases this
    exact ⟨ds[i], by simp, Rep.keep (k.tup m0) _ _ rr, m, .refl⟩
  · exact ⟨vs, k.tup m0 _ _ s, by rw [← r.length]; exact Nat.le_refl _⟩
def signs (z : Str) : List D := z.cps.toList.map fun c => .str ⟨#[c]⟩
theorem ok_str {z : Str} {H0 : Hp} {M0 : Mem} : ItOk X (Its z) ⟨signs z, fun _ => True⟩ H0 M0 := by
  have hl : (signs z).length = z.cps.size := by unfold signs; rw [List.length_map, Array.length_toList]
  refine ⟨fun i H M m k st hi => ?_, fun i H M x H' m k st hi ⟨e, c, h1, h2⟩ => ?_, fun H M m k st => ?_⟩
  · show i < z.cps.size
    have hi' : i < (signs z).length := hi
    omega
  · subst e h2
    exact ⟨.str ⟨#[c]⟩, by show (signs z)[i]? = _; unfold signs; rw [List.getElem?_map, Array.getElem?_toList, h1]; rfl, rfl, m, .refl⟩
  · show z.cps.size ≤ (signs z).length
    omega
def ranged (lo : Int) (n : Nat) : List D := (List.range n).map fun i : Nat => .int (lo + (i : Int))
theorem ok_range {lo : Int} {n : Nat} {H0 : Hp} {M0 : Mem} : ItOk X (Itr lo n) ⟨ranged lo n, fun _ => True⟩ H0 M0 := by
  have hl : (ranged lo n).length = n := by unfold ranged; rw [List.length_map, List.length_range]
  refine ⟨fun i H M m k st hi => ?_, fun i H M x H' m k st hi ⟨e, h1⟩ => ?_, fun H M m k st => ?_⟩
  · show i < n
    have hi' : i < (ranged lo n).length := hi
    omega
  · subst e h1
    have hi' : i < n := by have hi' : i < (ranged lo n).length := hi; omega
    exact ⟨.int (lo + i), by show (ranged lo n)[i]? = _; unfold ranged; rw [List.getElem?_map, List.getElem?_range hi']; rfl, rfl, m, .refl⟩
  · show n ≤ (ranged lo n).length
    omega

/-- what a value that is walked gives -/
def withSrc (d : D) (M : Mem) (k : Src → Prop) : Prop := match d with
  | .tup ds => k ⟨ds, fun _ => True⟩
  | .str z => k ⟨signs z, fun _ => True⟩
  | .ref a => match M a with
    | some (.lst ds) => k ⟨ds, fun M => M a = some (.lst ds)⟩
    | some (.rl ds) => k ⟨ds, fun M => M a = some (.rl ds)⟩
    | some (.dict kvs t) => k ⟨kvs.map (·.1), stabD a kvs t⟩
    | _ => False
  | _ => False
def wIt (w : WE) : WI := fun ρ M Q => w ρ M fun d M1 => withSrc d M1 fun src => Q src M1
theorem di_expr {tg l : Expr} {w : WE} (h : DEx X l w) : DI X tg l (wIt w) := by
  refine ⟨fun pins s σ H R I ⟨ρ, M, Q', Rr, q, k⟩ => ?_⟩
  refine thn (h.run pins s σ H (fun x H1 => ∃ d M1, Rep X.K H1 d x ∧ MRel X.prog X.w X.K H1 M1 ∧ Keep H M H1 M1 ∧ withSrc d M1 fun src => Q' src M1) I ⟨ρ, M, _, Rr, q, fun v H' d M' r m kk q => ⟨d, M', r, m, kk, q⟩⟩) fun v s1 ⟨x, H1, I1, r1, d, M1, rx, m1, k1, q1⟩ => ?_
  unfold withSrc at q1
  cases d with
  | tup ds =>
    obtain ⟨a, vs, rfl, sq, rs⟩ := rx
    cases (show v = Value.ref a from r1)
    obtain ⟨its, rv, p, hz⟩ := I1.tuple sq
    exact wpAny_pyIter_tuple (show s1.heap.IsTuple a its.toArray from p) (pi_one (tk := s1.toks) I1 _ (turn_tuple a _) ⟨_, Heap.get?_push_size _ rfl, rfl, rfl⟩ (k _ _ _ _ m1 k1 (ok_tup m1 sq rs) q1))
  | str z =>
    cases (show x = .str z from rx)
    obtain ⟨t, rfl⟩ := r1
    cases ha : z.cps.all (· < 128)
    · exact wpAny_pyIter_wide ha (pi_one (tk := s1.toks) I1 _ (turn_str _ z t "str_iterator" (.inr rfl)) ⟨_, Heap.get?_push_size _ rfl, rfl, rfl⟩ (k _ _ _ _ m1 k1 ok_str q1))
    · exact wpAny_pyIter_ascii ha (pi_one (tk := s1.toks) I1 _ (turn_str _ z t "str_ascii_iterator" (.inl rfl)) ⟨_, Heap.get?_push_size _ rfl, rfl, rfl⟩ (k _ _ _ _ m1 k1 ok_str q1))
  | ref a =>
    cases (show x = .ref a from rx)
    cases (show v = Value.ref a from r1)
    simp only at q1
    cases c : M1 a with
    | none => rw [c] at q1; exact q1.elim
    | some mo =>
      rw [c] at q1
      cases mo with
      | lst ds =>
        obtain ⟨vs, hh, rs⟩ := m1 a _ c
        obtain ⟨its, rv, p, hz⟩ := I1.list (.of hh)
        exact wpAny_pyIter_list p.isList (pi_one (tk := s1.toks) I1 _ (turn_list a _) ⟨_, Heap.get?_push_size _ rfl, rfl, rfl⟩ (k _ _ _ _ m1 k1 ok_list q1))
      | rl ds =>
        obtain ⟨o, vs, hh, rs⟩ := m1 a _ c
        obtain ⟨its, rv, p, hz⟩ := I1.list (.inl (.inr ⟨o, hh⟩))
        exact wpAny_pyIter_list p.isList (pi_one (tk := s1.toks) I1 _ (turn_list a _) ⟨_, Heap.get?_push_size _ rfl, rfl, rfl⟩ (k _ _ _ _ m1 k1 ok_rlist q1))
      | dict kvs t =>
        have ce := m1 a _ c
        exact wpAny_pyIter_dict_raw (dict_neq ce) (I1.hok a _ ce.1).1 (pi_one (tk := s1.toks) I1 _ (turn_k a _ t (cell_env ce)) ⟨_, Heap.get?_push_size _ rfl, rfl, rfl⟩ (k _ _ _ _ m1 k1 (ok_keys m1 c) q1))
      | ins _ _ => exact q1.elim
  | non => exact q1.elim
  | bl b => exact q1.elim
  | int b => exact q1.elim
/-- d.items(), d.values() -/
def wItems (w : WE) : WI := fun ρ M Q => w ρ M fun d M1 => match d with
  | .ref a => match M1 a with
    | some (.dict kvs t) => Q ⟨kvs.map (fun p => .tup [p.1, p.2]), stabD a kvs t⟩ M1
    | _ => False
  | _ => False
def wVals (w : WE) : WI := fun ρ M Q => w ρ M fun d M1 => match d with
  | .ref a => match M1 a with
    | some (.dict kvs t) => Q ⟨kvs.map (·.2), stabD a kvs t⟩ M1
    | _ => False
  | _ => False
theorem di_items {elts : List Expr} {kk : Nat} {tpos apos cpos : Pos} {e : Expr} {w : WE} (h : DEx X e w) (hbase : attributeBase e "items" X.env (eval e X.env) = eval e X.env) (hline : (apos.endLine == cpos.line) = true) :
    DI X (.Tuple elts kk tpos) (.Call (.Attribute e "items" apos) [] [] cpos) (wItems w) := by
  refine ⟨fun pins s σ H R I ⟨ρ, M, Q', Rr, q, k⟩ => ?_⟩
  refine wpAny_Call_method (T := "dict") (id := "dict.items") hbase rfl hline F.plainAttrs_dict F.slot_dict_items F.type_dict_items (thn (h.run pins s σ H (fun x H1 => ∃ a kvs t M1, x = .ref a ∧ MRel X.prog X.w X.K H1 M1 ∧ Keep H M H1 M1 ∧ M1 a = some (.dict kvs t) ∧ Q' ⟨kvs.map (fun p => .tup [p.1, p.2]), stabD a kvs t⟩ M1) I ⟨ρ, M, _, Rr, q, fun v H' d M' r m kk q => ?_⟩) fun u s1 ⟨x, H1, I1, rx, a, kvs, t, M1, ex, m1, k1, c, q1⟩ => ?_)
  · cases d with
    | ref a =>
      simp only at q
      cases c : M' a with
      | none => rw [c] at q; exact q.elim
      | some mo =>
        rw [c] at q
        cases mo with
        | dict kvs t => exact ⟨a, kvs, t, M', r, m, kk, c, q⟩
        | _ => exact q.elim
    | _ => exact q.elim
  subst ex
  obtain rfl : u = Value.ref a := rx
  have ce := m1 a _ c
  have raw := (I1.hok a _ ce.1).1
  refine ⟨dict_type I1 ce, dict_nodict I1 ce, ?_⟩
  have I2 : Inv X pins σ H1 { s1 with heap := s1.heap.push { cls := .type "dict_items", data := .fields #[.ref a] } } := I1.kept (t' := s1.toks) fun b ob q => Heap.get?_push_of_some _ q
  have fin : wpAny (model X.prog X.w) X.A (pyIter (.ref s1.heap.objs.size)) (PIE X pins σ (.Tuple elts kk tpos) R) X.xe { s1 with heap := s1.heap.push { cls := .type "dict_items", data := .fields #[.ref a] } } := by
    refine wpAny_pyIter_items_raw (d := a) ⟨_, Heap.get?_push_size _ rfl, rfl, rfl⟩ (raw.at fun o e => Heap.get?_push_of_some _ e) (pi_one (tk := s1.toks) I2 _ (turn_i a _ t (cell_env ce)) ⟨.none, .none, Heap.get?_push_size _ rfl⟩ (k _ _ _ _ m1 k1 (ok_items m1 c) q1))
  show wpAny _ _ (callWith cpos (.builtin "dict.items") [.ref a] [] []) _ X.xe s1
  exact method_meetsIn F.slot_dict_items F.entry_dict_items rfl (PySem.evalArgs_none ⟨rfl, dict_type I1 ce, F.args_dict_items_1 _, _, meets_dict_items_raw a (dict_neq ce), ⟨_, _, raw⟩, fin⟩)
theorem di_vals {tg : Expr} {apos cpos : Pos} {e : Expr} {w : WE} (h : DEx X e w) (hbase : attributeBase e "values" X.env (eval e X.env) = eval e X.env) (hline : (apos.endLine == cpos.line) = true) :
    DI X tg (.Call (.Attribute e "values" apos) [] [] cpos) (wVals w) := by
  refine ⟨fun pins s σ H R I ⟨ρ, M, Q', Rr, q, k⟩ => ?_⟩
  refine wpAny_Call_method (T := "dict") (id := "dict.values") hbase rfl hline F.plainAttrs_dict F.slot_dict_values F.type_dict_values (thn (h.run pins s σ H (fun x H1 => ∃ a kvs t M1, x = .ref a ∧ MRel X.prog X.w X.K H1 M1 ∧ Keep H M H1 M1 ∧ M1 a = some (.dict kvs t) ∧ Q' ⟨kvs.map (·.2), stabD a kvs t⟩ M1) I ⟨ρ, M, _, Rr, q, fun v H' d M' r m kk q => ?_⟩) fun u s1 ⟨x, H1, I1, rx, a, kvs, t, M1, ex, m1, k1, c, q1⟩ => ?_)
  · cases d with
    | ref a =>
      simp only at q
      cases c : M' a with
      | none => rw [c] at q; exact q.elim
      | some mo =>
        rw [c] at q
        cases mo with
        | dict kvs t => exact ⟨a, kvs, t, M', r, m, kk, c, q⟩
        | _ => exact q.elim
    | _ => exact q.elim
  subst ex
  obtain rfl : u = Value.ref a := rx
  have ce := m1 a _ c
  have raw := (I1.hok a _ ce.1).1
  refine ⟨dict_type I1 ce, dict_nodict I1 ce, ?_⟩
  have I2 : Inv X pins σ H1 { s1 with heap := s1.heap.push { cls := .type "dict_values", data := .fields #[.ref a] } } := I1.kept (t' := s1.toks) fun b ob q => Heap.get?_push_of_some _ q
  have fin : wpAny (model X.prog X.w) X.A (pyIter (.ref s1.heap.objs.size)) (PIE X pins σ tg R) X.xe { s1 with heap := s1.heap.push { cls := .type "dict_values", data := .fields #[.ref a] } } := by
    refine wpAny_pyIter_values_raw (d := a) ⟨_, Heap.get?_push_size _ rfl, rfl, rfl⟩ (raw.at fun o e => Heap.get?_push_of_some _ e) (pi_one (tk := s1.toks) I2 _ (turn_v a _ t (cell_env ce)) ⟨_, Heap.get?_push_size _ rfl, rfl, rfl⟩ (k _ _ _ _ m1 k1 (ok_vals m1 c) q1))
  show wpAny _ _ (callWith cpos (.builtin "dict.values") [.ref a] [] []) _ X.xe s1
  exact method_meetsIn F.slot_dict_values F.entry_dict_values rfl (PySem.evalArgs_none ⟨rfl, dict_type I1 ce, F.args_dict_values_1 _, _, meets_dict_values_raw a (dict_neq ce), ⟨_, _, raw⟩, fin⟩)
/-- range(n), range(a, b) -/
def RgOk2 (i j : Int) : Prop := -(2 ^ 62) ≤ i ∧ i < 2 ^ 62 ∧ -(2 ^ 62) ≤ j ∧ j < 2 ^ 62
def wRange1 (w : WE) : WI := fun ρ M Q => w ρ M fun d M1 => match d with
  | .int j => RgOk2 0 j ∧ Q ⟨ranged 0 j.toNat, fun _ => True⟩ M1
  | _ => False
def wRange2 (wa wb : WE) : WI := fun ρ M Q => wa ρ M fun d M1 => wb ρ M1 fun e M2 => match d with
  | .int i => match e with
    | .int j => RgOk2 i j ∧ Q ⟨ranged i (j - i).toNat, fun _ => True⟩ M2
    | _ => False
  | _ => False
theorem pi_imp {tg it : Expr} {t t' : TI} (h : PI X tg it t) (i : ∀ σ H R, t' σ H R → t σ H R) : PI X tg it t' := ⟨fun pins s σ H R I q => h.run pins s σ H R I (i _ _ _ q)⟩
theorem di_range1 {tg a : Expr} {p pos : Pos} {w : WE} (hg : Gl X "range") (hm : X.mg "range" = none) (ha : DEx X a w) (hs : starEach [a] X.env = [(false, eval a X.env)]) : DI X tg (.Call (.Name "range" p) [a] [] pos) (wRange1 w) :=
  pi_imp (pi_range1 hg hm (pa_cons ha pa_nil hs) hs) fun σ H R ⟨ρ, M, Q', Rr, q, k⟩ => ⟨ρ, M, _, Rr, q, fun x H1 d M1 r1 m1 k1 q1 => by
    cases d with
    | int j =>
      cases (show x = .int j from r1)
      obtain ⟨⟨a1, a2, a3, a4⟩, q1⟩ := q1
      exact ⟨j, rfl, a3, a4, k _ H1 _ M1 m1 k1 ok_range q1⟩
    | _ => exact q1.elim⟩
theorem di_range2 {tg a b : Expr} {p pos : Pos} {wa wb : WE} (hg : Gl X "range") (hm : X.mg "range" = none) (ha : DEx X a wa) (hb : DEx X b wb) (hs : starEach [a, b] X.env = [(false, eval a X.env), (false, eval b X.env)]) (hs2 : starEach [b] X.env = [(false, eval b X.env)]) :
    DI X tg (.Call (.Name "range" p) [a, b] [] pos) (wRange2 wa wb) :=
  pi_imp (pi_range2 hg hm (pa_cons ha (pa_cons hb pa_nil hs2) (by rw [hs, hs2])) hs hs2) fun σ H R ⟨ρ, M, Q', Rr, q, k⟩ => ⟨ρ, M, _, Rr, q, fun x H1 d M1 r1 m1 k1 q1 => ⟨ρ, M1, _, Rr.next m1 k1, q1, fun y H2 e M2 r2 m2 k2 q2 => by
    cases d with
    | int i =>
      cases e with
      | int j =>
        cases (show x = .int i from r1); cases (show y = .int j from r2)
        obtain ⟨hr, q2⟩ := q2
        exact ⟨i, j, rfl, hr, k _ H2 _ M2 m2 (k1.trans k2) ok_range q2⟩
      | _ => exact q2.elim
    | _ => exact q2.elim⟩⟩
end
end Fw

set_option Elab.async false
set_option linter.all false
set_option maxRecDepth 100000
set_option maxHeartbeats 4000000
/-! FwStmt: statements and comprehensions over data -/
namespace Fw
open PySem PySem.Spec PyProof.Rows L2

/-- fewer names, less memory -/
def SubE (ρ0 ρ : Env) : Prop := ρ0.length = ρ.length ∧ ∀ (i : Nat) d, ρ0[i]? = some (some d) → ρ[i]? = some (some d)
def SubM (M0 M : Mem) : Prop := ∀ a o, M0 a = some o → M a = some o
theorem SubE.refl {ρ : Env} : SubE ρ ρ := ⟨rfl, fun _ _ h => h⟩
theorem SubM.refl {M : Mem} : SubM M M := fun _ _ h => h
section
variable {X : Cx} {σ : L2.St} {H H' : Hp} {ρ ρ0 : Env} {M M0 M' : Mem}
theorem MRel.sub {P : Program} {w : World} {K : PySem.W.Frag} (m : MRel P w K H M) (s : SubM M0 M) : MRel P w K H M0 := fun a o e => m a o (s a o e)
theorem SubM.none (s : SubM M0 M) {a : Addr} (h : M a = none) : M0 a = none := by
  cases c : M0 a with
  | none => rfl
  | some o => rw [s a o c] at h; cases h
theorem Rl.sub (R : Rl X σ H ρ M) (s : SubE ρ0 ρ) (t : SubM M0 M) : Rl X σ H ρ0 M0 := ⟨s.1.trans R.len, fun i d e => R.slot i d (s.2 i d e), R.mem.sub t⟩
theorem Keep.sub (k : Keep H M0 H' M') (s : SubM M0 M) : Keep H M H' M' := fun a o e n => k a o e (s.none n)
theorem Keep.subR (k : Keep H M H' M') (s : SubM M0 M') : Keep H M H' M0 := fun a o e n => let ⟨x, y⟩ := k a o e n; ⟨x, s.none y⟩
theorem EndsLe.sub {D' : DEnds} {D : Ends} (e : EndsLe X H M D' D) (s : SubM M0 M) : EndsLe X H M0 D' D :=
  ⟨fun _ _ _ _ r k q => e.nx _ _ _ _ r (k.sub s) q, fun _ _ _ _ r m k q => e.rt _ _ _ _ r m (k.sub s) q, fun _ _ _ _ r k q => e.bk _ _ _ _ r (k.sub s) q, fun _ _ _ _ r k q => e.ct _ _ _ _ r (k.sub s) q⟩
end

section
variable {X : Cx}
def wNext : WS := fun D ρ M => D.nx ρ M
def wSeq (a b : WS) : WS := fun D ρ M => a { D with nx := b D } ρ M
theorem dss_nil : DSs X [] wNext := pss_imp pss_nil fun D σ H ⟨ρ, M, D', R, q, le⟩ => le.nx _ _ _ _ R .refl q
theorem dss_cons {st : Stmt} {rest : List Stmt} {a b : WS} (h1 : DSt X st a) (h2 : DSs X rest b) : DSs X (st :: rest) (wSeq a b) := pss_imp (pss_cons h1 h2) fun D σ H ⟨ρ, M, D', R, q, le⟩ =>
  ⟨ρ, M, { D' with nx := b D' }, R, q, ⟨fun σ' H' ρ' M' r k q => ⟨ρ', M', D', r, q, le.after k⟩, le.rt, le.bk, le.ct⟩⟩
theorem dss_one {st : Stmt} {a : WS} (h1 : DSt X st a) : DSs X [st] a := pss_one h1
def wBreak : WS := fun D ρ M => D.bk ρ M
def wCont : WS := fun D ρ M => D.ct ρ M
theorem ds_pass {pos : Pos} : DSt X (.Pass pos) wNext := ps_imp ps_pass fun D σ H ⟨ρ, M, D', R, q, le⟩ => le.nx _ _ _ _ R .refl q
theorem ds_break {pos : Pos} : DSt X (.Break pos) wBreak := ps_imp ps_break fun D σ H ⟨ρ, M, D', R, q, le⟩ => le.bk _ _ _ _ R .refl q
theorem ds_continue {pos : Pos} : DSt X (.Continue pos) wCont := ps_imp ps_continue fun D σ H ⟨ρ, M, D', R, q, le⟩ => le.ct _ _ _ _ R .refl q
theorem ds_doc {x : Str} {j : Nat} {pos pos' : Pos} : DSt X (.Expr (.Constant (.str x) j pos) pos') wNext := ps_imp ps_doc fun D σ H ⟨ρ, M, D', R, q, le⟩ => le.nx _ _ _ _ R .refl q
def wNever : WS := fun _ _ _ => False
theorem ds_never {st : Stmt} : DSt X st wNever := ps_imp ps_never fun D σ H ⟨ρ, M, D', R, q, le⟩ => q
def wDrop (w : WE) : WS := fun D ρ M => w ρ M fun _ M1 => D.nx ρ M1
theorem ds_expr {e : Expr} {pos : Pos} {w : WE} (h : DEx X e w) (hs : swapsWith e none pos.line X.env = pure false) : DSt X (.Expr e pos) (wDrop w) := ps_imp (ps_expr h hs) fun D σ H ⟨ρ, M, D', R, q, le⟩ =>
  ⟨ρ, M, _, R, q, fun v H' d M' r m k q => le.nx _ _ _ _ (R.next m k) k q⟩
def wRet (w : WE) : WS := fun D ρ M => w ρ M D.rt
theorem ds_ret {e : Expr} {pos : Pos} {w : WE} (h : DEx X e w) : DSt X (.Return (some e) pos) (wRet w) := ps_imp (ps_ret h) fun D σ H ⟨ρ, M, D', R, q, le⟩ =>
  ⟨ρ, M, _, R, q, fun v H' d M' r m k q => le.rt v H' d M' r m k q⟩
def wRetN : WS := fun D _ M => D.rt .non M
theorem ds_retN {pos : Pos} : DSt X (.Return none pos) wRetN := ps_imp ps_retN fun D σ H ⟨ρ, M, D', R, q, le⟩ => le.rt .non H .non M rfl R.mem .refl q
def wIf (c : WT) (a b : WS) : WS := fun D ρ M => c ρ M fun k M1 => if k = true then a D ρ M1 else b D ρ M1
theorem ds_if {c : Expr} {p q : List Stmt} {pos : Pos} {wc : WT} {a b : WS} (hc : DTs X c wc) (ha : DSs X p a) (hb : DSs X q b) : DSt X (.If c p q pos) (wIf wc a b) := ps_imp (ps_if hc ha hb) fun D σ H ⟨ρ, M, D', R, q, le⟩ =>
  ⟨ρ, M, _, R, q, fun k H1 M1 m1 k1 q1 => by
    cases k with
    | true => rw [if_pos rfl] at q1 ⊢; exact ⟨ρ, M1, D', R.next m1 k1, q1, le.after k1⟩
    | false => rw [if_neg Bool.false_ne_true] at q1 ⊢; exact ⟨ρ, M1, D', R.next m1 k1, q1, le.after k1⟩⟩

/-! ### targets -/
inductive Tg where
  | nm (i : Nat)
  | tp (is : List Nat)
/-- the names, one after another -/
def setL : List Nat → List D → Env → Env
  | i :: is, d :: ds, ρ => setL is ds (ρ.set i (some d))
  | _, _, ρ => ρ
def wTg : Tg → D → Env → (Env → Prop) → Prop
  | .nm i, d, ρ, Q => Q (ρ.set i (some d))
  | .tp is, d, ρ, Q => ∃ ds, d = .tup ds ∧ ds.length = is.length ∧ Q (setL is ds ρ)
def setLV : List Nat → List V → L2.St → L2.St
  | i :: is, d :: ds, ρ => setLV is ds (ρ.set i (some d))
  | _, _, ρ => ρ
def gT (K : PySem.W.Frag) : Tg → TG
  | .nm i => gName i
  | .tp is => gTup K is.length fun vs σ H Q => vs.length = is.length ∧ Q (setLV is vs σ) H
theorem Rl.setL {H : Hp} {M : Mem} : ∀ {is : List Nat} {ds : List D} {vs : List V} {ρ : Env} {σ : L2.St}, Rl X σ H ρ M → Reps X.K H ds vs → Rl X (setLV is vs σ) H (Fw.setL is ds ρ) M
  | [], _, _, _, _, R, _ => R
  | i :: is, [], _, _, _, R, r => by rw [show _ = _ from r]; exact R
  | i :: is, d :: ds, _, ρ, σ, R, r => by
    obtain ⟨v, r', rfl, h1, h2⟩ := r
    have h3 := Rl.setL (is := is) (R.set i h1) h2
    exact h3
/-- the lifting of a target -/
theorem lift_tg {t : Tg} {σ : L2.St} {H : Hp} {ρ : Env} {M : Mem} {v : V} {d : D} {Q' : Env → Prop} {Q : L2.St → Hp → Prop} (R : Rl X σ H ρ M) (r : Rep X.K H d v) (h : wTg t d ρ Q') (k : ∀ σ' ρ', Rl X σ' H ρ' M → Q' ρ' → Q σ' H) : gT X.K t v σ H Q := by
  cases t with
  | nm i => exact k _ _ (R.set i r) h
  | tp is =>
    obtain ⟨ds, rfl, l, q⟩ := h
    obtain ⟨a, vs, rfl, s, rs⟩ := r
    have l' := rs.length
    exact ⟨a, vs, rfl, s, by omega, by omega, k _ _ (R.setL rs) q⟩
theorem pg_tp {K : PySem.W.Frag} {es : List Expr} {is : List Nat} (h : ∀ (j i : Nat), is[j]? = some i → ∃ e, es[j]? = some e ∧ PG X e (gName i)) (hl : es.length = is.length)
    (hs : ∀ e es', (e :: es') <:+ es → (assignEach (e :: es') X.env).map (·.2) = assign e X.env :: (assignEach es' X.env).map (·.2)) :
    PGs X es (fun vs σ H Q => vs.length = is.length ∧ Q (setLV is vs σ) H) := by
  induction is generalizing es with
  | nil =>
    cases es with
    | nil => exact ⟨fun pins s σ H vs us Q I r h => pgs_nil.run pins s σ H vs us Q I r ⟨List.eq_nil_of_length_eq_zero h.1, by
        have e : vs = [] := List.eq_nil_of_length_eq_zero h.1
        subst e; exact h.2⟩⟩
    | cons e es => simp at hl
  | cons i is ih =>
    cases es with
    | nil => simp at hl
    | cons e es =>
      obtain ⟨e', he, hg⟩ := h 0 i rfl
      simp at he; subst he
      have hr := ih (es := es) (fun j i' hj => h (j + 1) i' (by simpa using hj)) (by simpa using hl) fun e'' es' hsuf => hs e'' es' (hsuf.trans (List.suffix_cons _ _))
      refine ⟨fun pins s σ H vs us Q I r hw => (pgs_cons hg hr (hs e es (List.suffix_refl _))).run pins s σ H vs us Q I r ?_⟩
      obtain ⟨hl', q⟩ := hw
      cases vs with
      | nil => simp at hl'
      | cons v vs => exact ⟨v, vs, rfl, by simpa using hl', q⟩

/-! ### assignments -/
def wSet (i : Nat) (w : WE) : WS := fun D ρ M => w ρ M fun d M1 => D.nx (ρ.set i (some d)) M1
theorem ds_set {i : Nat} {x : Str} {e : Expr} {pos pos' : Pos} {w : WE} (hN : X.N.Nodup) (hi : X.N[i]? = some x) (hx : Loc X.env.scope x) (he : DEx X e w) (hs : swapsWith e (some (.Name x pos')) pos.line X.env = pure false) (hf : X.fn x = true ∨ X.env.scope.names.lookup x = some .local) :
    DSt X (.Assign [.Name x pos'] e pos) (wSet i w) := ps_imp (ps_set hN hi hx he hs hf) fun D σ H ⟨ρ, M, D', R, q, le⟩ =>
  ⟨ρ, M, _, R, q, fun v H' d M' r m k q => le.nx _ _ _ _ ((R.next m k).set i r) k q⟩
def wAsg (t : Tg) (w : WE) : WS := fun D ρ M => w ρ M fun d M1 => wTg t d ρ fun ρ' => D.nx ρ' M1
theorem ds_asg {tg e : Expr} {pos : Pos} {w : WE} {t : Tg} (he : DEx X e w) (hg : PG X tg (gT X.K t)) (hs : swapsWithSole [tg] e pos.line X.env = pure false) (hw : swappedStores [tg] e X.env = pure none)
    (h1 : (assignEach [tg] X.env).map (·.2) = [assign tg X.env]) : DSt X (.Assign [tg] e pos) (wAsg t w) := ps_imp (ps_asg he hg hs hw h1) fun D σ H ⟨ρ, M, D', R, q, le⟩ =>
  ⟨ρ, M, _, R, q, fun v H' d M' r m k q => lift_tg (R.next m k) r q fun σ' ρ' R' q' => le.nx _ _ _ _ R' k q'⟩
def wPar (i j : Nat) (wa : WA) : WS := fun D ρ M => wa ρ M fun ds M1 => ∃ d e, ds = [d, e] ∧ D.nx ((ρ.set i (some d)).set j (some e)) M1
theorem ds_par {i j : Nat} {x y : Str} {a b : Expr} {wa : WA} {px py pt pos : Pos} {kt k2 : Nat} {pt2 : Pos} (hc : X.calm = true) (hN : X.N.Nodup) (hi : X.N[i]? = some x) (hj : X.N[j]? = some y) (hij : i ≠ j)
    (hx : X.env.scope.names.lookup x = some .local) (hy : X.env.scope.names.lookup y = some .local) (ha : DAr X [a, b] wa)
    (hw : swappedStores [.Tuple [.Name x px, .Name y py] kt pt] (.Tuple [a, b] k2 pt2) X.env = pure (some [x, y]))
    (hs : swapsWithSole [.Tuple [.Name x px, .Name y py] kt pt] (.Tuple [a, b] k2 pt2) pos.line X.env = pure false) :
    DSt X (.Assign [.Tuple [.Name x px, .Name y py] kt pt] (.Tuple [a, b] k2 pt2) pos) (wPar i j wa) := ps_imp (ps_par hc hN hi hj hij hx hy ha hw hs) fun D σ H ⟨ρ, M, D', R, q, le⟩ =>
  ⟨ρ, M, _, R, q, fun vs H' ds M' r m k ⟨d, e, ed, q⟩ => by
    subst ed
    obtain ⟨v, w, rfl, h1, h2⟩ := reps2 r
    exact ⟨v, w, rfl, le.nx _ _ _ _ (((R.next m k).set i h1).set j h2) k q⟩⟩
/-- o[i] = e -/
def wPut (we wo wi : WE) : WS := fun D ρ M => we ρ M fun v M1 => wo ρ M1 fun o M2 => wi ρ M2 fun i M3 => dSetA o i v M3 fun M4 => D.nx ρ M4
theorem ds_put {o i e : Expr} {tpos pos : Pos} {we wo wi : WE} (hu : X.A.units + 64 < cLine) (he : DEx X e we) (ho : DEx X o wo) (hi : DEx X i wi)
    (ha : ∀ v, assign (.Subscript o i tpos) X.env v = (do
      let ov ← holding [v] (eval o X.env)
      let iv ← holding [v, ov] (eval i X.env)
      standAt tpos
      holding [v, ov, iv] (setItem ov iv v)
      release [v, ov, iv] []))
    (hs : swapsWithSole [.Subscript o i tpos] e pos.line X.env = pure false) (hw : swappedStores [.Subscript o i tpos] e X.env = pure none)
    (h1 : (assignEach [.Subscript o i tpos] X.env).map (·.2) = [assign (.Subscript o i tpos) X.env]) : DSt X (.Assign [.Subscript o i tpos] e pos) (wPut we wo wi) :=
  ps_imp (ps_asg he (pg_sub ho hi (set_all hu) ha) hs hw h1) fun D σ H ⟨ρ, M, D', R, q, le⟩ =>
    ⟨ρ, M, _, R, q, fun v H1 d1 M1 r1 m1 k1 q1 => ⟨ρ, M1, _, R.next m1 k1, q1, fun ov H2 d2 M2 r2 m2 k2 q2 => ⟨ρ, M2, _, (R.next m1 k1).next m2 k2, q2, fun iv H3 d3 M3 r3 m3 k3 q3 =>
      ⟨M3, d2, d3, d1, _, m3, Rep.keep (k3.tup m2) _ _ r2, r3, Rep.keep ((k2.trans k3).tup m1) _ _ r1, q3, fun H4 M4 m4 k4 q4 => le.nx _ _ _ _ ((((R.next m1 k1).next m2 k2).next m3 k3).next m4 k4) (k1.trans (k2.trans (k3.trans k4))) q4⟩⟩⟩⟩
/-- name op= e -/
def rIAdd : R2 := fun x y H Q => rI0 (fun i j => .int (i + j)) x y H Q ∨ (∃ i j, x = .str i ∧ y = .str j ∧ i.length + j.length ≤ sizeLine ∧ Q (.str (i ++ j)) H)
theorem iop_addR : OpR X (inplaceOp .Add) rIAdd := iop_add.or iop_add_str
def dIAdd : W2 := fun x y M Q => match x with
  | .int i => match y with
    | .int j => Q (.int (i + j)) M
    | _ => False
  | .str i => match y with
    | .str j => i.length + j.length ≤ sizeLine ∧ Q (.str (i ++ j)) M
    | _ => False
  | _ => False
theorem lift_iadd : Lift2 X rIAdd dIAdd := by
  intro H M x y d e Q Q' m rx ry h k
  cases d with
  | int i =>
    cases e with
    | int j => cases (show x = .int i from rx); cases (show y = .int j from ry); exact .inl ⟨i, j, rfl, rfl, k _ H (.int (i + j)) M rfl m .refl h⟩
    | _ => exact h.elim
  | str i =>
    cases e with
    | str j => cases (show x = .str i from rx); cases (show y = .str j from ry); exact .inr ⟨i, j, rfl, rfl, h.1, k _ H (.str (i ++ j)) M rfl m .refl h.2⟩
    | _ => exact h.elim
  | _ => exact h.elim
def wAug (i : Nat) (g : W2) (w : WE) : WS := fun D ρ M => ∃ d, ρ[i]? = some (some d) ∧ w ρ M fun e M1 => g d e M1 fun z M2 => D.nx (ρ.set i (some z)) M2
theorem ds_aug {i : Nat} {x : Str} {e : Expr} {op : Operator} {pos pos' : Pos} {r : R2} {g : W2} {w : WE} (hN : X.N.Nodup) (hi : X.N[i]? = some x) (hx : Loc X.env.scope x) (he : DEx X e w) (ho : OpR X (inplaceOp op) r) (l : Lift2 X r g) (hf : X.fn x = true ∨ X.env.scope.names.lookup x = some .local) :
    DSt X (.AugAssign (.Name x pos') op e pos) (wAug i g w) := ps_imp (ps_aug (ti := fun x y H Q => r x y H Q) hN hi hx he (fun pins s σ H x y v u Q I rx ry h => ho pins s σ H x y v u Q I rx ry h) hf) fun D σ H ⟨ρ, M, D', R, ⟨d, e1, q⟩, le⟩ => by
  obtain ⟨v, e2, r2⟩ := R.slot i d e1
  exact ⟨v, e2, ρ, M, _, R, q, fun y H1 e M1 r1 m1 k1 q1 => l H1 M1 v y d e _ _ m1 (Rep.keep (k1.tup R.mem) _ _ r2) r1 q1 fun z H2 dz M2 rz m2 k2 q2 => le.nx _ _ _ _ (((R.next m1 k1).next m2 k2).set i rz) (k1.trans k2) q2⟩

/-! ### loops -/
def loopD (stab : Mem → Prop) (t : Tg) (wb : WS) : List D → DEnds → Env → Mem → Prop
  | [], D, ρ, M => ∃ ρ0 M0, SubE ρ0 ρ ∧ SubM M0 M ∧ stab M0 ∧ D.nx ρ0 M0
  | x :: xs, D, ρ, M => ∃ ρ0 M0, SubE ρ0 ρ ∧ SubM M0 M ∧ stab M0 ∧ wTg t x ρ0 fun ρ1 => wb { nx := loopD stab t wb xs D, ct := loopD stab t wb xs D, bk := D.nx, rt := D.rt } ρ1 M0
def wFor (wi : WI) (t : Tg) (wb : WS) : WS := fun D ρ M => wi ρ M fun src M1 => loopD src.stab t wb src.items D ρ M1
theorem drop_cons {α : Type} {xs : List α} {i : Nat} (h : i < xs.length) : xs.drop i = xs[i] :: xs.drop (i + 1) := List.drop_eq_getElem_cons h
theorem ds_for {tg iter : Expr} {body : List Stmt} {pos : Pos} {wi : WI} {t : Tg} {wb : WS} (hp : PassesOwn (model X.prog X.w) X.A X.env X.xe) (hc : X.calm = true) (hi : DI X tg iter wi) (hg : PG X tg (gT X.K t)) (hb : DSs X body wb)
    (hs : ∀ x, foldedSetIterable iter X.env x = pure x) : DSt X (.For tg iter body [] pos) (wFor wi t wb) := ps_imp (ps_for hp hc hi hg hb hs) fun D σ H ⟨ρ, M, D', R, q, le⟩ =>
  ⟨ρ, M, _, R, q, fun J H1 src M1 m1 k1 ok q1 => by
    refine ⟨fun i m σ H => m = src.items.length - i ∧ i ≤ src.items.length ∧ ∃ ρ M, Rl X σ H ρ M ∧ Keep H1 M1 H M ∧ loopD src.stab t wb (src.items.drop i) D' ρ M, ⟨_, rfl, Nat.zero_le _, ρ, M1, R.next m1 k1, .refl, by rw [List.drop_zero]; exact q1⟩, ?_⟩
    rintro i m σ H ⟨rfl, hi, ρ, M, R2, k2, q2⟩
    by_cases hlt : i < src.items.length
    · rw [drop_cons hlt] at q2
      obtain ⟨ρ0, M0, s1, s2, st, q2⟩ := q2
      have R3 := R2.sub s1 s2
      have k3 : Keep H1 M1 H M0 := k2.subR s2
      refine .inr ⟨ok.go i H M0 R3.mem k3 st hlt, fun σ' H' => ∃ ρ' M', Rl X σ' H' ρ' M' ∧ Keep H1 M1 H' M' ∧ loopD src.stab t wb (src.items.drop (i + 1)) D' ρ' M', fun σ' H' p => ⟨_, by omega, rfl, hlt, p⟩, fun x H' y => ?_⟩
      obtain ⟨d, hd, rd, m', k'⟩ := ok.yld i H M0 x H' R3.mem k3 st hlt y
      rw [List.getElem?_eq_getElem hlt] at hd
      cases hd
      refine lift_tg (R3.next m' k') rd q2 fun σ2 ρ2 R4 q4 => ?_
      have k4 : Keep H1 M1 H' M0 := k3.trans k'
      exact ⟨ρ2, M0, _, R4, q4, ⟨fun σ' H'' ρ' M' r k q => ⟨ρ', M', r, k4.trans k, q⟩, fun v H'' d M' r m k q => le.rt _ _ _ _ r m (k1.trans (k4.trans k)) q, fun σ' H'' ρ' M' r k q => le.nx _ _ _ _ r (k1.trans (k4.trans k)) q, fun σ' H'' ρ' M' r k q => ⟨ρ', M', r, k4.trans k, q⟩⟩⟩
    · have e : i = src.items.length := by omega
      subst e
      rw [List.drop_length] at q2
      obtain ⟨ρ0, M0, s1, s2, st, q2⟩ := q2
      have R3 := R2.sub s1 s2
      have k3 : Keep H1 M1 H M0 := k2.subR s2
      exact .inl ⟨ok.stop H M0 R3.mem k3 st, le.nx _ _ _ _ R3 (k1.trans k3) q2⟩⟩
/-- while, by an invariant and a measure -/
def WkS (W : Nat → Env → Mem → Prop) (m : Nat) (ρ : Env) (M : Mem) : Prop := ∃ m' ρ0 M0, m' < m ∧ SubE ρ0 ρ ∧ SubM M0 M ∧ W m' ρ0 M0
def wWhile (wc : WT) (wb : WS) : WS := fun D ρ M => ∃ W : Nat → Env → Mem → Prop, (∃ m, WkS W m ρ M) ∧ ∀ m ρ M, W m ρ M → wc ρ M fun b M1 => if b = true then wb { nx := WkS W m, ct := WkS W m, bk := D.nx, rt := D.rt } ρ M1 else D.nx ρ M1
theorem ds_while {c : Expr} {body : List Stmt} {pos : Pos} {wc : WT} {wb : WS} (hp : PassesOwn (model X.prog X.w) X.A X.env X.xe) (hc : DTs X c wc) (hb : DSs X body wb) : DSt X (.While c body [] pos) (wWhile wc wb) := ps_imp (ps_while hp hc hb) fun D σ H ⟨ρ, M, D', R, ⟨W, ⟨m, w0⟩, turn⟩, le⟩ => by
  refine ⟨fun m σ' H' => ∃ ρ' M', Rl X σ' H' ρ' M' ∧ Keep H M H' M' ∧ W m ρ' M', ?_, ?_⟩
  · obtain ⟨m', ρ0, M0, _, s1, s2, q⟩ := w0
    exact ⟨m', ρ0, M0, R.sub s1 s2, Keep.refl.subR s2, q⟩
  · rintro m σ' H' ⟨ρ', M', R', k', q'⟩
    refine ⟨ρ', M', _, R', turn m ρ' M' q', fun b H1 M1 m1 k1 q1 => ?_⟩
    cases b with
    | true =>
      rw [if_pos rfl] at q1 ⊢
      have again : ∀ σ2 H2 ρ2 M2, Rl X σ2 H2 ρ2 M2 → Keep H1 M1 H2 M2 → WkS W m ρ2 M2 → ∃ m', m' < m ∧ ∃ ρ M3, Rl X σ2 H2 ρ M3 ∧ Keep H M H2 M3 ∧ W m' ρ M3 := fun σ2 H2 ρ2 M2 r k ⟨m', ρ0, M0, hm, s1, s2, q⟩ =>
        ⟨m', hm, ρ0, M0, r.sub s1 s2, (k'.trans (k1.trans k)).subR s2, q⟩
      exact ⟨fun σ2 H2 => ∃ m', m' < m ∧ ∃ ρ M3, Rl X σ2 H2 ρ M3 ∧ Keep H M H2 M3 ∧ W m' ρ M3, fun σ2 H2 h => h, ρ', M1, _, R'.next m1 k1, q1, ⟨again, fun v H2 d M2 r m k q => le.rt _ _ _ _ r m (k'.trans (k1.trans k)) q, fun σ2 H2 ρ2 M2 r k q => le.nx _ _ _ _ r (k'.trans (k1.trans k)) q, again⟩⟩
    | false =>
      rw [if_neg Bool.false_ne_true] at q1 ⊢
      exact le.nx _ _ _ _ (R'.next m1 k1) (k'.trans k1) q1
end
end Fw

set_option Elab.async false
set_option linter.all false
set_option maxRecDepth 100000
set_option maxHeartbeats 4000000
/-! FwComp: comprehensions over data -/
namespace Fw
open PySem PySem.Spec PyProof.Rows L2

/-! ### targets, step by step -/
section
variable {X : Cx}
def lvT (is : List Nat) : TGs := fun vs σ H Q => vs.length = is.length ∧ Q (setLV is vs σ) H
theorem pgs0 : PGs X [] (lvT []) := ⟨fun pins s σ H vs us Q I r h => pgs_nil.run pins s σ H vs us Q I r ⟨List.eq_nil_of_length_eq_zero h.1, by
  have e : vs = [] := List.eq_nil_of_length_eq_zero h.1
  subst e; exact h.2⟩⟩
theorem pgs1 {e : Expr} {es : List Expr} {i : Nat} {is : List Nat} (hg : PG X e (gName i)) (hr : PGs X es (lvT is)) (hs : (assignEach (e :: es) X.env).map (·.2) = assign e X.env :: (assignEach es X.env).map (·.2) := by rfl) : PGs X (e :: es) (lvT (i :: is)) := by
  refine ⟨fun pins s σ H vs us Q I r hw => (pgs_cons hg hr hs).run pins s σ H vs us Q I r ?_⟩
  obtain ⟨hl', q⟩ := hw
  cases vs with
  | nil => simp at hl'
  | cons v vs => exact ⟨v, vs, rfl, by simpa using hl', q⟩
theorem pgt {es : List Expr} {k : Nat} {is : List Nat} {pos : Pos} (hc : X.calm = true) (h : PGs X es (lvT is)) (hn : (assignEach es X.env).length = is.length := by rfl) (hst : (assignEach es X.env).findIdx? (·.1) = none := by rfl) :
    PG X (.Tuple es k pos) (gT X.K (.tp is)) := pg_tup hc h hn hst
theorem pgn {i : Nat} {x : Str} {pos : Pos} (hN : X.N.Nodup) (hi : X.N[i]? = some x) (hx : Loc X.env.scope x) (hf : X.fn x = true ∨ X.env.scope.names.lookup x = some .local) : PG X (.Name x pos) (gT X.K (.nm i)) := pg_name hN hi hx hf
end

/-! ### the block's own slots -/
def wipeE (ρ : Env) : List Nat → Env
  | [] => ρ
  | v :: vs => (wipeE ρ vs).set v none
section
variable {X : Cx} {σ : L2.St} {H : Hp} {ρ : Env} {M : Mem}
theorem Rl.unset (R : Rl X σ H ρ M) (i : Nat) : Rl X (σ.set i none) H (ρ.set i none) M := by
  refine ⟨by rw [List.length_set, List.length_set]; exact R.len, fun j e q => ?_, R.mem⟩
  by_cases h : i = j
  · subst h
    by_cases hi : i < ρ.length
    · rw [List.getElem?_set_self hi] at q; cases q
    · rw [List.getElem?_eq_none (by rw [List.length_set]; omega)] at q; cases q
  · rw [List.getElem?_set_ne h] at q ⊢
    exact R.slot j e q
theorem Rl.wipe (R : Rl X σ H ρ M) : ∀ vs, Rl X (L2.wipe σ vs) H (wipeE ρ vs) M
  | [] => R
  | v :: vs => (Rl.wipe R vs).unset v
end
theorem wipe_get (σ : L2.St) (j : Nat) : ∀ vs : List Nat, (L2.wipe σ vs)[j]? = if j ∈ vs then (σ[j]?).map (fun _ => none) else σ[j]?
  | [] => by simp [L2.wipe]
  | v :: vs => by
    show ((L2.wipe σ vs).set v none)[j]? = _
    have ih := wipe_get σ j vs
    by_cases h : v = j
    · subst h
      rw [if_pos List.mem_cons_self, List.getElem?_set, if_pos rfl, L2.wipe_length]
      by_cases hl : v < σ.length
      · rw [if_pos hl, List.getElem?_eq_getElem hl]; rfl
      · rw [if_neg hl, List.getElem?_eq_none (by omega)]; rfl
    · rw [List.getElem?_set_ne h, ih]
      by_cases hm : j ∈ vs
      · rw [if_pos hm, if_pos (List.mem_cons_of_mem _ hm)]
      · rw [if_neg hm, if_neg (by simp [hm]; exact fun e => h e.symm)]
theorem wipe_set (σ : L2.St) {i : Nat} {x : Option V} {vs : List Nat} (h : i ∈ vs) : L2.wipe (σ.set i x) vs = L2.wipe σ vs := by
  apply List.ext_getElem?
  intro j
  rw [wipe_get, wipe_get]
  by_cases hj : i = j
  · subst hj
    rw [if_pos h, if_pos h, List.getElem?_set, if_pos rfl]
    by_cases hl : i < σ.length
    · rw [if_pos hl, List.getElem?_eq_getElem hl]; rfl
    · rw [if_neg hl, List.getElem?_eq_none (by omega)]
  · rw [List.getElem?_set_ne hj]
theorem wipe_setLV : ∀ {is : List Nat} {ws : List V} {σ : L2.St} {vs : List Nat}, (∀ i ∈ is, i ∈ vs) → L2.wipe (setLV is ws σ) vs = L2.wipe σ vs
  | [], _, _, _, _ => rfl
  | i :: is, [], _, _, _ => rfl
  | i :: is, w :: ws, σ, vs, h => (wipe_setLV (is := is) fun j hj => h j (List.mem_cons_of_mem _ hj)).trans (wipe_set σ (h i List.mem_cons_self))
theorem wipe_wipe (σ : L2.St) (vs : List Nat) : L2.wipe (L2.wipe σ vs) vs = L2.wipe σ vs := by
  apply List.ext_getElem?
  intro j
  rw [wipe_get, wipe_get]
  by_cases h : j ∈ vs
  · rw [if_pos h, if_pos h]; cases σ[j]? <;> rfl
  · rw [if_neg h, if_neg h]
def Tg.ids : Tg → List Nat
  | .nm i => [i]
  | .tp is => is
section
variable {X : Cx}
theorem lift_tgW {t : Tg} {σ : L2.St} {H : Hp} {ρ : Env} {M : Mem} {v : V} {d : D} {Q' : Env → Prop} {Q : L2.St → Hp → Prop} (vs : List Nat) (R : Rl X (L2.wipe σ vs) H ρ M) (r : Rep X.K H d v) (hv : ∀ i ∈ t.ids, i ∈ vs) (h : wTg t d ρ Q') (k : ∀ σ' ρ', L2.wipe σ' vs = L2.wipe σ vs → Rl X σ' H ρ' M → Q' ρ' → Q σ' H) : gT X.K t v (L2.wipe σ vs) H Q := by
  cases t with
  | nm i => exact k _ _ ((wipe_set _ (hv i (List.mem_singleton.mpr rfl))).trans (wipe_wipe _ _)) (R.set i r) h
  | tp is =>
    obtain ⟨ds, rfl, l, q⟩ := h
    obtain ⟨a, ws, rfl, s, rs⟩ := r
    have l' := rs.length
    exact ⟨a, ws, rfl, s, by omega, by omega, k _ _ ((wipe_setLV hv).trans (wipe_wipe _ _)) (R.setL rs) q⟩

def compD (stab : Mem → Prop) (t : Tg) (ρ : Env) (wt : WT) (we : WE) : List D → List D → Mem → (List D → Mem → Prop) → Prop
  | [], acc, M, Q => ∃ M0, SubM M0 M ∧ stab M0 ∧ Q acc M0
  | x :: xs, acc, M, Q => ∃ M0, SubM M0 M ∧ stab M0 ∧ wTg t x ρ fun ρ1 => wt ρ1 M0 fun b M1 => if b = true then we ρ1 M1 fun d M2 => acc.length < sizeLine ∧ compD stab t ρ wt we xs (acc ++ [d]) M2 Q else compD stab t ρ wt we xs acc M1 Q
def wYes : WT := fun _ M Q => Q true M
def wLc (wi : WI) (t : Tg) (vs : List Nat) (wt : WT) (we : WE) : WE := fun ρ M Q => wi ρ M fun src M1 => compD src.stab t (wipeE ρ vs) wt we src.items [] M1 fun acc M2 => ∀ p, M2 p = none → Q (.ref p) (mset M2 p (.lst acc))
theorem tkeep_lst {K : PySem.W.Frag} {H : Hp} {a : Addr} {vs : List V} {o : HO} (e : H a = some (.lst vs)) : TKeep K H (upd H a o) := fun b ws s => by
  rcases s with (s | ⟨u, s⟩) | s
  · exact .inl (.inl (by rw [upd_ne (fun z => by subst z; rw [e] at s; cases s)]; exact s))
  · exact .inl (.inr ⟨u, by rw [upd_ne (fun z => by subst z; rw [e] at s; cases s)]; exact s⟩)
  · exact .inr s
theorem lift_lc {wi : WI} {t : Tg} {vs : List Nat} {wt : WT} {we : WE} (hv : ∀ i ∈ t.ids, i ∈ vs) : ∀ σ H Q, lE X (wLc wi t vs wt we) σ H Q → tLc (lI X wi) (gT X.K t) (lT X wt) (lE X we) vs σ H Q := fun σ H Q ⟨ρ, M, Q', R, q, k⟩ => by
  refine ⟨ρ, M, _, R, q, fun J H1 src M1 m1 k1 ok q1 Dl hD => ?_⟩
  have nD : M1 Dl = none := m1.free hD
  refine ⟨fun i m H => m = src.items.length - i ∧ i ≤ src.items.length ∧ ∃ M2 acc ws, H Dl = some (.lst ws) ∧ Reps X.K H acc ws ∧ M2 Dl = none ∧ MRel X.prog X.w X.K H M2 ∧ Keep H1 M1 H M2 ∧ compD src.stab t (wipeE ρ vs) wt we (src.items.drop i) acc M2 fun acc M2 => ∀ p, M2 p = none → Q' (.ref p) (mset M2 p (.lst acc)), ?_, ?_⟩
  · obtain ⟨m2, k2⟩ := m1.allocT (o := .lst []) hD
    exact ⟨_, rfl, Nat.zero_le _, M1, [], [], upd_same, rfl, nD, m2, k2, q1⟩
  · rintro i m H2 ⟨rfl, hi, M2, acc, ws, eD, ra, n2, m2, k2, q2⟩
    by_cases hlt : i < src.items.length
    · rw [drop_cons hlt] at q2
      obtain ⟨M0, s2, st, q2⟩ := q2
      have m3 := m2.sub s2
      have k3 : Keep H1 M1 H2 M0 := k2.subR s2
      have n3 := s2.none n2
      refine .inr ⟨ok.go i H2 M0 m3 k3 st hlt, fun H' => ∃ M' acc ws, H' Dl = some (.lst ws) ∧ Reps X.K H' acc ws ∧ M' Dl = none ∧ MRel X.prog X.w X.K H' M' ∧ Keep H1 M1 H' M' ∧ compD src.stab t (wipeE ρ vs) wt we (src.items.drop (i + 1)) acc M' fun acc M2 => ∀ p, M2 p = none → Q' (.ref p) (mset M2 p (.lst acc)),
        fun H' p => ⟨_, by omega, rfl, hlt, p⟩, fun x H' y => ?_⟩
      obtain ⟨d, hd, rd, m', k'⟩ := ok.yld i H2 M0 x H' m3 k3 st hlt y
      rw [List.getElem?_eq_getElem hlt] at hd
      cases hd
      have R4 : Rl X σ H' ρ M0 := ((R.next m1 k1).next m3 k3).next m' k'
      refine lift_tgW vs (R4.wipe vs) rd hv q2 fun σ2 ρ2 ew R5 q5 => ⟨ew, ρ2, M0, _, R5, q5, fun b H3 M3 mb kb q6 => ?_⟩
      have k4 : Keep H2 M0 H3 M3 := k'.trans kb
      cases b with
      | false =>
        show if (false : Bool) = true then _ else _
        rw [if_neg Bool.false_ne_true] at q6 ⊢
        obtain ⟨e4, n4⟩ := k4 Dl _ eD n3
        exact ⟨M3, acc, ws, e4, Reps.keep (k4.tup m3) _ _ ra, n4, mb, k3.trans k4, q6⟩
      | true =>
        show if (true : Bool) = true then _ else _
        rw [if_pos rfl] at q6 ⊢
        refine ⟨ρ2, M3, _, R5.next mb kb, q6, fun y H4 dy M4 ry m5 k5 ⟨hl, q7⟩ => ?_⟩
        have k6 : Keep H2 M0 H4 M4 := k4.trans k5
        obtain ⟨e4, n4⟩ := k6 Dl _ eD n3
        have ra4 := Reps.keep (k6.tup m3) _ _ ra
        have tk : TKeep X.K H4 (upd H4 Dl (.lst (ws ++ [y]))) := tkeep_lst e4
        refine ⟨ws, e4, by rw [← ra.length]; exact hl, M4, acc ++ [dy], ws ++ [y], upd_same, Reps.keep tk _ _ (ra4.snoc ry), n4, fun a o e => ?_, fun a o e n => ?_, q7⟩
        · have ne : a ≠ Dl := fun z => by subst z; rw [n4] at e; cases e
          exact (m5 a o e).keep tk (upd_ne ne)
        · have ne : a ≠ Dl := fun z => by subst z; rw [hD] at e; cases e
          rw [upd_ne ne]
          exact (k3.trans k6) a o e n
    · have e : i = src.items.length := by omega
      subst e
      rw [List.drop_length] at q2
      obtain ⟨M0, s2, st, q2⟩ := q2
      have m3 := m2.sub s2
      have k3 : Keep H1 M1 H2 M0 := k2.subR s2
      have n3 := s2.none n2
      refine .inl ⟨ok.stop H2 M0 m3 k3 st, k (.ref Dl) H2 (.ref Dl) _ rfl (fun a o e => ?_) (fun a o e n => ?_) (q2 Dl n3)⟩
      · by_cases z : a = Dl
        · subst z; rw [mset_same] at e; cases e; exact ⟨ws, eD, ra⟩
        · rw [mset_ne z] at e; exact m3 a o e
      · obtain ⟨e1, n1⟩ := (k1.trans k3) a o e n
        obtain ⟨e0, _⟩ := k1 a o e n
        have ne : a ≠ Dl := fun z => by subst z; rw [hD] at e0; cases e0
        rw [mset_ne ne]
        exact ⟨e1, n1⟩
abbrev InB (X : Cx) (scope : Scope) (P : Cx → Prop) : Prop := ∀ (s : Shared) (H : Hp) (C : Addr) (cl : List (Str × Addr)) (fp : List Addr), P (X.blk s H scope (compEnvC scope cl C X.env) fp)
theorem dts_nil : PTs X [] (lT X wYes) := ⟨fun pins s σ H Q I ⟨ρ, M, Q', R, q, k⟩ => pts_nil.run pins s σ H Q I (k true H M R.mem .refl q)⟩
theorem dts_one {c : Expr} {w : WT} (h : DTs X c w) : PTs X [c] (lT X w) := pts_one h
theorem de_lc {elt tg iter : Expr} {ifs : List Expr} {scope : Scope} {own : List (Str × Nat)} {pos : Pos} {wi : WI} {t : Tg} {wt : WT} {we : WE} (hc : X.calm = true) (hN : X.N.Nodup) (ok : BlkOk X.N X.env.scope scope own) (hv : ∀ i ∈ t.ids, i ∈ own.map (·.2))
    (hi : DI X tg iter wi) (hg : InB X scope fun Y => PG Y tg (gT X.K t)) (ht : InB X scope fun Y => PTs Y ifs (lT X wt)) (he : InB X scope fun Y => PE Y elt (lE X we)) (hs : ∀ x, foldedSetIterable iter X.env x = pure x := by intro _; rfl) :
    DEx X (.ListComp elt [⟨tg, iter, ifs, 0⟩] scope pos) (wLc wi t (own.map (·.2)) wt we) := pe_imp (pe_lc hc hN hi ok hg ht he hs) (lift_lc hv)
theorem ds_setLc {i : Nat} {y : Str} {py : Pos} {elt tg iter : Expr} {ifs : List Expr} {scope : Scope} {own : List (Str × Nat)} {pos spos : Pos} {wi : WI} {t : Tg} {wt : WT} {we : WE} (hc : X.calm = true) (hN : X.N.Nodup) (hy : X.N[i]? = some y) (hyl : X.env.scope.names.lookup y = some .local)
    (hsw : swapsWith (.ListComp elt [⟨tg, iter, ifs, 0⟩] scope pos) (some (.Name y py)) spos.line X.env = pure true) (ok : BlkOk X.N X.env.scope scope own) (hv : ∀ i ∈ t.ids, i ∈ own.map (·.2))
    (hi : DI X tg iter wi) (hg : InB X scope fun Y => PG Y tg (gT X.K t)) (ht : InB X scope fun Y => PTs Y ifs (lT X wt)) (he : InB X scope fun Y => PE Y elt (lE X we)) (hs : ∀ x, foldedSetIterable iter X.env x = pure x := by intro _; rfl) :
    DSt X (.Assign [.Name y py] (.ListComp elt [⟨tg, iter, ifs, 0⟩] scope pos) spos) (wSet i (wLc wi t (own.map (·.2)) wt we)) :=
  ps_imp (ps_setLc hc hN hy hyl hsw hi ok hg ht he hs) fun D σ H ⟨ρ, M, D', R, q, le⟩ => lift_lc hv σ H _ ⟨ρ, M, _, R, q, fun v H1 d M1 r1 m1 k1 q1 => le.nx _ _ _ _ ((R.next m1 k1).set i r1) k1 q1⟩
end
end Fw

set_option Elab.async false
set_option linter.all false
set_option maxRecDepth 100000
set_option maxHeartbeats 4000000
/-! FwFn: isinstance, methods, fields, calls of defs, the body of a def -/
namespace Fw
open PySem PySem.Spec PyProof.Rows L2
section
variable {X : Cx}

/-! ### isinstance(e, T) -/
def tyD (d : D) (M : Mem) : Option String := match d with
  | .non => some "NoneType"
  | .bl _ => some "bool"
  | .int _ => some "int"
  | .str _ => some "str"
  | .tup _ => some "tuple"
  | .ref a => match M a with
    | some (.lst _) => some "list"
    | some (.rl _) => some "list"
    | some (.dict _ _) => some "dict"
    | _ => none
inductive Ty where
  | bool | int | str | tuple | list | dict
def Ty.nm : Ty → String
  | .bool => "bool" | .int => "int" | .str => "str" | .tuple => "tuple" | .list => "list" | .dict => "dict"
def tyLe (t : String) (T : Ty) : Bool := t == T.nm || (t == "bool" && T.nm == "int")
def isiD (T : Ty) (d : D) (M : Mem) : Option Bool := (tyD d M).map fun t => tyLe t T
theorem kit_ty {K : PySem.W.Frag} {t : String} (T : Ty) (h : t ∈ ["NoneType", "bool", "int", "str", "tuple", "list", "dict"]) : PySem.W.kitOne K (.type t) (.type T.nm) = some (tyLe t T) := by
  simp only [List.mem_cons, List.not_mem_nil, or_false] at h
  rcases h with rfl | rfl | rfl | rfl | rfl | rfl | rfl <;> cases T <;> rfl
def wIsi (T : Ty) (w : WE) : WE := fun ρ M Q => w ρ M fun d M1 => ∃ b, isiD T d M1 = some b ∧ Q (.bl b) M1
def rIsiA (X : Cx) (T : Ty) : List V → Hp → VK → Prop := fun xs H Q => ∃ x d M b, xs = [x, .ty T.nm] ∧ Rep X.K H d x ∧ MRel X.prog X.w X.K H M ∧ isiD T d M = some b ∧ Q (.bl b) H
theorem call_isiA (T : Ty) : CallR X (.builtin "isinstance") (rIsiA X T) := by
  intro pins s σ H xs us Q I r h
  obtain ⟨x, d, M, b, rfl, rd, m, e, q⟩ := h
  obtain ⟨u, c, rfl, r1, r2⟩ := vals2 r
  cases (show c = Value.type T.nm from r2)
  have fin : ∀ tk, EP X pins σ Q (.bool b) { s with toks := tk } := fun tk => ⟨.bl b, H, I.tok tk, rfl, q⟩
  unfold isiD tyD at e
  cases d with
  | non => cases e; cases (show x = .non from rd); cases (show u = Value.none from r1); exact PySem.W.kia_one PySem.W.kitx_none I.kIn True.intro (kit_ty T (by simp)) (fun z => nomatch z) fin
  | bl y => cases e; cases (show x = .bl y from rd); cases (show u = Value.bool y from r1); exact PySem.W.kia_one PySem.W.kitx_bool I.kIn True.intro (kit_ty T (by simp)) (fun z => nomatch z) fin
  | int i => cases e; cases (show x = .int i from rd); obtain ⟨t, z⟩ := (show ∃ t, u = Value.int i t from r1); cases z; exact PySem.W.kia_one PySem.W.kitx_int I.kIn True.intro (kit_ty T (by simp)) (fun z => nomatch z) fin
  | str y => cases e; cases (show x = .str y from rd); obtain ⟨t, z⟩ := (show ∃ t, u = Value.str y t from r1); cases z; exact PySem.W.kia_one PySem.W.kitx_str I.kIn True.intro (kit_ty T (by simp)) (fun z => nomatch z) fin
  | tup ds =>
    cases e
    obtain ⟨a, vs, rfl, sq, _⟩ := rd
    cases (show u = Value.ref a from r1)
    obtain ⟨its, _, ⟨o, h1, h2, _⟩, _⟩ := I.tuple sq
    exact PySem.W.kia_one PySem.W.kitx_tuple I.kIn ⟨o, h1, h2⟩ (kit_ty T (by simp)) (fun z => nomatch z) fin
  | ref a =>
    cases (show x = .ref a from rd)
    cases (show u = Value.ref a from r1)
    simp only at e
    cases c : M a with
    | none => rw [c] at e; cases e
    | some mo =>
      rw [c] at e
      cases mo with
      | lst ds =>
        cases e
        obtain ⟨vs, eH, _⟩ := m a _ c
        obtain ⟨_, _, n, _, h1⟩ := (show ObjOk X.prog X.w H s.heap a (.lst vs) from I.hok a _ eH)
        exact PySem.W.kia_one PySem.W.kitx_list I.kIn ⟨_, h1, rfl⟩ (kit_ty T (by simp)) (fun z => nomatch z) fin
      | rl ds =>
        cases e
        obtain ⟨o, vs, eH, _⟩ := m a _ c
        obtain ⟨_, _, _, n, _, h1⟩ := (show ObjOk X.prog X.w H s.heap a (.frz o (.lst vs)) from I.hok a _ eH)
        exact PySem.W.kia_one PySem.W.kitx_list I.kIn ⟨_, h1, rfl⟩ (kit_ty T (by simp)) (fun z => nomatch z) fin
      | dict kvs t =>
        cases e
        obtain ⟨o, h1, h2, _⟩ := dict_raw I (m a _ c)
        exact PySem.W.kia_one PySem.W.kitx_dict I.kIn ⟨o, h1, h2.1⟩ (kit_ty T (by simp)) (fun z => nomatch z) fin
      | ins C fs => cases e
theorem boot_ty (T : Ty) {x : Str} (h : x = Str.ofString T.nm) : bootBuiltins x = some (.type T.nm) := by
  subst h; cases T <;> decide +kernel
theorem de_isi {e : Expr} {x : Str} {p p2 pos : Pos} {w : WE} (T : Ty) (hx : x = Str.ofString T.nm) (hg : Gl X "isinstance") (hm : X.mg "isinstance" = none) (hgT : Gl X x) (hmT : X.mg x = none) (h : DEx X e w)
    (hn : x ≠ "__name__" := by decide) (hdb : (x == ("__debug__" : Str)) = false := by decide)
    (h1 : starEach [e, .Name x p2] X.env = (false, eval e X.env) :: starEach [.Name x p2] X.env := by rfl) : DEx X (.Call (.Name "isinstance" p) [e, .Name x p2] [] pos) (wIsi T w) :=
  pe_imp (pe_callB (call_isiA T) hg hm boot_isinstance (pa_cons h (pa_cons (te := tC (.ty T.nm)) ⟨fun pins s σ H Q I q => ld_blt I hgT hmT (boot_ty T hx) ⟨.ty T.nm, H, I, rfl, q⟩ hn hdb⟩ pa_nil rfl) h1) (by decide) (by decide) h1 rfl)
    fun σ H Q ⟨ρ, M, Q', R, q, k⟩ => ⟨ρ, M, _, R, q, fun v H1 d M1 r1 m1 k1 ⟨b, e1, q1⟩ => ⟨v, d, M1, b, rfl, r1, m1, e1, k _ _ (.bl b) M1 rfl m1 k1 q1⟩⟩

/-! ### methods of lists and texts -/
def wApp (wo we : WE) : WE := fun ρ M Q => wo ρ M fun o M1 => ∃ a ds0, o = .ref a ∧ M1 a = some (.lst ds0) ∧ we ρ M1 fun e M2 => ∃ ds, M2 a = some (.lst ds) ∧ ds.length < sizeLine ∧ Q .non (mset M2 a (.lst (ds ++ [e])))
theorem de_append {o e : Expr} {apos cpos : Pos} {wo we : WE} (ho : DEx X o wo) (he : DEx X e we) (hbase : attributeBase o "append" X.env (eval o X.env) = eval o X.env := by rfl)
    (hfew : ((backTo cpos (starEach [e] X.env)).all (fun x => !x.1) && (backToKw cpos (keywordEach [] X.env)).all (fun x => x.1.isSome)
      && decide (([e] : List Expr).length + ([] : List Keyword).length + (if ([] : List Keyword).isEmpty then 0 else 1) < 30)) = true := by rfl)
    (hline : (apos.endLine == cpos.line) = true := by rfl) (hs : starEach [e] X.env = (false, eval e X.env) :: starEach [] X.env := by rfl) : DEx X (.Call (.Attribute o "append" apos) [e] [] cpos) (wApp wo we) :=
  pe_imp (pe_bm F.plainAttrs_list F.slot_list_append F.type_list_append mt_append ho (pa_cons he pa_nil hs) hbase hfew hline hs rfl) fun σ H Q ⟨ρ, M, Q', R, q, k⟩ => ⟨ρ, M, _, R, q, fun x H1 d M1 r1 m1 k1 ⟨a, ds0, e0, c0, q1⟩ => by
    subst e0
    cases (show x = .ref a from r1)
    obtain ⟨vs0, h0, _⟩ := m1 a _ c0
    refine ⟨.inl ⟨rfl, vs0, .of h0⟩, ρ, M1, _, R.next m1 k1, q1, fun y H2 dy M2 r2 m2 k2 ⟨ds, c, hz, q2⟩ => ?_⟩
    obtain ⟨vs, hh, rs⟩ := m2 a _ c
    obtain ⟨m3, k3⟩ := m2.write (o := .lst (vs ++ [y])) (mo' := .lst (ds ++ [dy])) c fun t => ⟨_, upd_same, (Reps.keep t _ _ rs).snoc (Rep.keep t _ _ r2)⟩
    exact ⟨a, vs, y, rfl, rfl, hh, by rw [← rs.length]; exact hz, k _ _ .non _ rfl m3 (k1.trans (k2.trans k3)) q2⟩⟩
def wPtn (wo we : WE) : WE := fun ρ M Q => wo ρ M fun o M1 => ∃ a, o = .str a ∧ we ρ M1 fun e M2 => ∃ b, e = .str b ∧ (b.length == 0) = false ∧ a.length ≤ sizeLine ∧ Q (.tup [.str (Txt.partition a b).1, .str (Txt.partition a b).2.1, .str (Txt.partition a b).2.2]) M2
theorem de_partition {o e : Expr} {apos cpos : Pos} {wo we : WE} (ho : DEx X o wo) (he : DEx X e we) (hbase : attributeBase o "partition" X.env (eval o X.env) = eval o X.env := by rfl)
    (hfew : ((backTo cpos (starEach [e] X.env)).all (fun x => !x.1) && (backToKw cpos (keywordEach [] X.env)).all (fun x => x.1.isSome)
      && decide (([e] : List Expr).length + ([] : List Keyword).length + (if ([] : List Keyword).isEmpty then 0 else 1) < 30)) = true := by rfl)
    (hline : (apos.endLine == cpos.line) = true := by rfl) (hs : starEach [e] X.env = (false, eval e X.env) :: starEach [] X.env := by rfl) : DEx X (.Call (.Attribute o "partition" apos) [e] [] cpos) (wPtn wo we) :=
  pe_imp (pe_bm F.plainAttrs_str F.slot_str_partition F.type_str_partition mt_partition ho (pa_cons he pa_nil hs) hbase hfew hline hs rfl) fun σ H Q ⟨ρ, M, Q', R, q, k⟩ => ⟨ρ, M, _, R, q, fun x H1 d M1 r1 m1 k1 ⟨a, e0, q1⟩ => by
    subst e0
    cases (show x = .str a from r1)
    refine ⟨rfl, ρ, M1, _, R.next m1 k1, q1, fun y H2 dy M2 r2 m2 k2 ⟨b, e1, hb, hz, q2⟩ => ?_⟩
    subst e1
    cases (show y = .str b from r2)
    refine ⟨a, b, rfl, rfl, hb, hz, fun p np => ?_⟩
    obtain ⟨m3, k3⟩ := m2.allocT (o := .tup [.str (Txt.partition a b).1, .str (Txt.partition a b).2.1, .str (Txt.partition a b).2.2]) np
    exact k _ _ (.tup [.str (Txt.partition a b).1, .str (Txt.partition a b).2.1, .str (Txt.partition a b).2.2]) _ ⟨p, _, rfl, .of upd_same, .cons rfl (.cons rfl (.cons rfl .nil))⟩ m3 (k1.trans (k2.trans k3)) q2⟩
/-! ### d.get(k) -/
def wGet1 (wo we : WE) : WE := fun ρ M Q => wo ρ M fun o M1 => ∃ a kvs0 t0, o = .ref a ∧ M1 a = some (.dict kvs0 t0) ∧ we ρ M1 fun e M2 => ∃ kvs t, M2 a = some (.dict kvs t) ∧ keyOk kvs e ∧ Q ((valD kvs e).getD .non) M2
theorem de_get1 {o e : Expr} {apos cpos : Pos} {wo we : WE} (hu : X.A.units + 64 < cLine) (ho : DEx X o wo) (he : DEx X e we) (m : M1 X o "get" apos e cpos) : DEx X (.Call (.Attribute o "get" apos) [e] [] cpos) (wGet1 wo we) := by
  refine ⟨fun pins s σ H Q I ⟨ρ, M, Q', R, q, k⟩ => ?_⟩
  refine wpAny_Call_method m.base m.few m.line PySem.F.plainAttrs_dict PySem.F.slot_dict_get PySem.F.type_dict_get (thn (ho.run pins s σ H _ I ⟨ρ, M, _, R, q, fun v H1 d M1 r1 m1 k1 q1 => (show ∃ d M1, Rep X.K H1 d v ∧ MRel X.prog X.w X.K H1 M1 ∧ Keep H M H1 M1 ∧ _ from ⟨d, M1, r1, m1, k1, q1⟩)⟩) fun u s1 ⟨x, H1, I1, rx, d, M1, r1, m1, k1, a, kvs0, t0, e0, c0, q1⟩ => ?_)
  subst e0
  cases (show x = .ref a from r1)
  cases (show u = Value.ref a from rx)
  obtain ⟨o', h1, h2, h3⟩ := dict_raw I1 (m1 a _ c0)
  refine ⟨⟨o', h1, h2.1⟩, fun b eb => by cases eb; exact ⟨o', h1, h2.2.1⟩, ?_⟩
  rw [m.trees]
  refine Calls.callWith_builtin rfl (Calls.evalArgs_plain (Calls.spliced_cons (thn (he.run pins s1 σ H1 _ I1 ⟨ρ, M1, _, R.next m1 k1, q1, fun v H2 d M2 r2 m2 k2 q2 => (show ∃ d M2, Rep X.K H2 d v ∧ MRel X.prog X.w X.K H2 M2 ∧ Keep H1 M1 H2 M2 ∧ _ from ⟨d, M2, r2, m2, k2, q2⟩)⟩) fun iv s2 ⟨y, H2, I2, ry, dy, M2, r2, m2, k2, kvs, t, c, ok, q2⟩ => Calls.spliced_nil ?_)))
  exact w_get1 hu I2 (m2 a _ c) ok r2 ry fun x w' s' I' rx' rw' => ⟨x, H2, I', rw', k x H2 _ M2 rx' m2 (k1.trans k2) q2⟩

/-! ### {k: v} -/
def wDisp1 (wk wv : WE) : WE := fun ρ M Q => wk ρ M fun k M1 => wv ρ M1 fun v M2 => fkey k = true ∧ ∀ p t, M2 p = none → Q (.ref p) (mset M2 p (.dict [(k, v)] t))
theorem rep_flat {K : PySem.W.Frag} {H : Hp} {d : D} {v : V} (h : fkey d = true) (r : Rep K H d v) : ∃ k, d.flat? = some k ∧ v = kV k := by
  cases d with
  | int i => exact ⟨.inl i, rfl, r⟩
  | str i => exact ⟨.inr i, rfl, r⟩
  | _ => cases h
theorem de_disp1 {e f : Expr} {pos : Pos} {we wf : WE} (he : DEx X e we) (hf : DEx X f wf) : DEx X (.Dict [some e] [f] pos) (wDisp1 we wf) := by
  refine ⟨fun pins s σ H Q I ⟨ρ, M, Q', R, q, k⟩ => ?_⟩
  refine thn ((pe_disp (pps_cons he hf pps_nil) rfl rfl (fun z => nomatch z) (by show (1 : Nat) ≤ 15; decide)).run pins s σ H (fun v H' => ∃ p H2 dk dv M2 kk y, v = .ref p ∧ H' = upd H2 p (.dK [(kk, y)]) ∧ H2 p = some (.dK []) ∧ H p = none ∧ dk.flat? = some kk ∧ Rep X.K H2 dv y ∧ MRel X.prog X.w X.K H2 M2 ∧ M2 p = none ∧ Keep H M (fun a => if a = p then none else H2 a) M2 ∧ ∀ t, Q' (.ref p) (mset M2 p (.dict [(dk, dv)] t))) I fun p np => ?_) ?_
  · obtain ⟨m0, k0⟩ := R.mem.allocT (o := .dK []) np
    refine ⟨ρ, M, _, R.next m0 k0, q, fun x H1 dx M1 r1 m1 k1 q1 => ⟨ρ, M1, _, (R.next m0 k0).next m1 k1, q1, fun y H2 dy M2 r2 m2 k2 ⟨fk, q2⟩ => ?_⟩⟩
    have np0 : M p = none := R.mem.free np
    obtain ⟨e2, n2⟩ := (k1.trans k2) p _ upd_same np0
    obtain ⟨kk, hk, rfl⟩ := rep_flat fk r1
    refine ⟨e2, [(kk, y)], rfl, by show (1 : Nat) ≤ 15; decide, p, H2, dx, dy, M2, kk, y, rfl, rfl, e2, np, hk, r2, m2, n2, fun a o ea na => ?_, fun t => q2 p t n2⟩
    have ne : a ≠ p := ne_of_none ea np
    show (if a = p then none else H2 a) = some o ∧ _
    rw [if_neg ne]
    exact (k0.trans (k1.trans k2)) a o ea na
  · rintro u s' ⟨v, H', I', rv, p, H2, dk, dv, M2, kk, y, rfl, rfl, e2, np, hk, r2, m2, n2, k2, q2⟩
    obtain ⟨hz, hsm, vs, rel, dd⟩ := dk_of I'.hok upd_same
    obtain ⟨o, es, ep, ho, hx, hd, h1, h2, h3⟩ := dd
    have tk : TKeep X.K H2 (upd H2 p (DX p (es, ep))) := fun b ws sq => by
      rcases sq with (sq | ⟨z, sq⟩) | sq
      · exact .inl (.inl (by rw [upd_ne (fun z => by subst z; rw [e2] at sq; cases sq)]; exact sq))
      · exact .inl (.inr ⟨z, by rw [upd_ne (fun z => by subst z; rw [e2] at sq; cases sq)]; exact sq⟩)
      · exact .inr sq
    have I2 := d_write (t' := s'.toks) (h' := s'.heap) (ob := DX p (es, ep)) I' (by rw [upd_same]; exact True.intro) ⟨rfl, fun _ _ => rfl⟩ ⟨o, ho⟩ (dx_ok (t := (es, ep)) ⟨o, ho, hx, hd⟩)
    rw [upd_upd] at I2
    have dm : ∀ b mo, mset M2 p (.dict [(dk, dv)] (es, ep)) b = some mo → Cell X.prog X.w X.K (upd H2 p (DX p (es, ep))) b mo := fun b mo eb => by
      by_cases z : b = p
      · subst z
        rw [mset_same] at eb
        cases eb
        refine ⟨upd_same, hsm, by show (1 : Nat) ≤ sizeLine; decide, .inl ⟨vs, ?_, h1, h2, h3⟩⟩
        cases rel with
        | cons hd tl =>
          cases tl
          exact .cons ⟨hk.trans (congrArg some hd.1), y, Rep.keep tk _ _ r2, hd.2⟩ .nil
      · rw [mset_ne z] at eb
        exact (m2 b mo eb).keep tk (upd_ne z)
    exact ⟨.ref p, _, I2, rv, k _ _ (.ref p) _ rfl dm (fun a o' ea na => by
      have ne : a ≠ p := ne_of_none ea np
      obtain ⟨h4, h5⟩ := k2 a o' ea na
      have h4 : (if a = p then none else H2 a) = some o' := h4
      rw [if_neg ne] at h4
      rw [upd_ne ne, mset_ne ne]
      exact ⟨h4, h5⟩) (q2 (es, ep))⟩
end
end Fw

set_option Elab.async false
set_option linter.all false
set_option maxRecDepth 100000
set_option maxHeartbeats 4000000
/-! FwDef: fields, calls of defs and methods, the body of a def -/
namespace Fw
open PySem PySem.Spec PyProof.Rows L2

/-! ### fields -/
theorem RepF.look {K : PySem.W.Frag} {H : Hp} {fs : List (Str × D)} {gs : List (Str × V)} (h : RepF K H fs gs) (f : Str) : (fs.lookup f = none ∧ gs.lookup f = none) ∨ ∃ d v, fs.lookup f = some d ∧ gs.lookup f = some v ∧ Rep K H d v := by
  induction h with
  | nil => exact .inl ⟨rfl, rfl⟩
  | @cons p q l1 l2 hd tl ih =>
    obtain ⟨pn, pd⟩ := p
    obtain ⟨qn, qv⟩ := q
    obtain ⟨e, r⟩ := hd
    simp only at e r
    subst e
    rw [List.lookup_cons, List.lookup_cons]
    cases c : f == pn with
    | true => exact .inr ⟨pd, qv, rfl, rfl, r⟩
    | false => exact ih
def putFD (f : Str) (v : D) : List (Str × D) → List (Str × D)
  | [] => [(f, v)]
  | (g, x) :: r => if g = f then (g, v) :: r else (g, x) :: putFD f v r
theorem RepF.put {K : PySem.W.Frag} {H : Hp} {fs : List (Str × D)} {gs : List (Str × V)} (h : RepF K H fs gs) (f : Str) {d : D} {v : V} (r : Rep K H d v) : RepF K H (putFD f d fs) (putF f v gs) := by
  induction h with
  | nil => exact .cons ⟨rfl, r⟩ .nil
  | @cons p q l1 l2 hd tl ih =>
    obtain ⟨pn, pd⟩ := p
    obtain ⟨qn, qv⟩ := q
    obtain ⟨e, r'⟩ := hd
    simp only at e r'
    subst e
    unfold putFD putF
    by_cases c : pn = f
    · rw [if_pos c, if_pos c]; exact .cons ⟨rfl, r⟩ tl
    · rw [if_neg c, if_neg c]; exact .cons ⟨rfl, r'⟩ ih
theorem RepF.length {K : PySem.W.Frag} {H : Hp} {fs : List (Str × D)} {gs : List (Str × V)} (h : RepF K H fs gs) : fs.length = gs.length := Paired.length h
section
variable {X : Cx}
def wFld (C : Addr) (f : Str) (w : WE) : WE := fun ρ M Q => w ρ M fun o M1 => ∃ a fs d, o = .ref a ∧ M1 a = some (.ins C fs) ∧ fs.lookup f = some d ∧ Q d M1
theorem de_fld {e : Expr} {f : Str} {pos : Pos} {w : WE} {C : Addr} (c : Cls X.K C) (n : NoAttr X.K C f) (h : DEx X e w) (hb : attributeBase e f X.env (eval e X.env) = eval e X.env := by rfl) : DEx X (.Attribute e f pos) (wFld C f w) :=
  pe_imp (pe_fld h hb) fun σ H Q ⟨ρ, M, Q', R, q, k⟩ => ⟨ρ, M, _, R, q, fun x H1 d M1 r1 m1 k1 ⟨a, fs, d', e0, c0, l, q1⟩ => by
    subst e0
    cases (show x = .ref a from r1)
    obtain ⟨dx, gs, hh, rf⟩ := m1 a _ c0
    rcases rf.look f with ⟨z, _⟩ | ⟨d2, v, z, z2, rv⟩
    · rw [z] at l; cases l
    · rw [z] at l
      cases l
      exact ⟨a, C, dx, gs, v, rfl, hh, c, n, z2, k v H1 d' M1 rv m1 k1 q1⟩⟩
def wSetFld (C : Addr) (f : Str) (wo wv : WE) : WS := fun D ρ M => wv ρ M fun d M1 => wo ρ M1 fun o M2 => ∃ a fs, o = .ref a ∧ M2 a = some (.ins C fs) ∧ fs.length < 1000 ∧ D.nx ρ (mset M2 a (.ins C (putFD f d fs)))
theorem ds_fld {o value : Expr} {f : Str} {pos pos' : Pos} {C : Addr} {wo wv : WE} (c : Cls X.K C) (n : NoAttr X.K C f) (ho : DEx X o wo) (hv : DEx X value wv) (hs : swapsWith value (some (.Attribute o f pos')) pos.line X.env = pure false) :
    DSt X (.Assign [.Attribute o f pos'] value pos) (wSetFld C f wo wv) := ps_imp (ps_fld ho hv hs) fun D σ H ⟨ρ, M, D', R, q, le⟩ =>
  ⟨ρ, M, _, R, q, fun y H1 dy M1 r1 m1 k1 q1 => ⟨ρ, M1, _, R.next m1 k1, q1, fun x H2 d M2 r2 m2 k2 ⟨a, fs, e0, c0, hz, q2⟩ => by
    subst e0
    cases (show x = .ref a from r2)
    obtain ⟨dx, gs, hh, rf⟩ := m2 a _ c0
    have ry := Rep.keep (k2.tup m1) _ _ r1
    obtain ⟨m3, k3⟩ := m2.write (o := .ins C dx (putF f y gs)) (mo' := .ins C (putFD f dy fs)) c0 fun t => ⟨dx, _, upd_same, (rf.keep t).put f (Rep.keep t _ _ ry)⟩
    exact ⟨a, C, dx, gs, rfl, hh, c, n, by rw [← rf.length]; exact hz, le.nx _ _ _ _ (((R.next m1 k1).next m2 k2).next m3 k3) (k1.trans (k2.trans k3)) q2⟩⟩⟩

/-! ### calls of defs -/
abbrev DSp := List D → Mem → DK → Prop
def lSp (P : Program) (w : World) (K : PySem.W.Frag) (sp : DSp) : Sp := fun vs H Q _ => ∃ ds M Q', Reps K H ds vs ∧ MRel P w K H M ∧ sp ds M Q' ∧ ∀ v H' d M', Rep K H' d v → MRel P w K H' M' → Keep H M H' M' → Q' d M' → Q v H'
abbrev CalD (P : Program) (w : World) (K : PySem.W.Frag) (mg : Str → Option Value) (base : Heap) (k : Nat) (x : Str) (sp : DSp) : Prop := C8.Cal P w K mg base k x (lSp P w K sp) []
abbrev MetD (P : Program) (w : World) (K : PySem.W.Frag) (mg : Str → Option Value) (base : Heap) (k : Nat) (C : Addr) (m : Str) (sp : DSp) : Prop := C8.Met P w K mg base k C m (lSp P w K sp) []
abbrev MakD (P : Program) (w : World) (K : PySem.W.Frag) (mg : Str → Option Value) (base : Heap) (k : Nat) (x : Str) (C : Addr) (sp : DSp) : Prop := C8.Mak P w K mg base k x C (lSp P w K sp) []
theorem lift_call {sp : DSp} {wa : WA} : ∀ σ H Q, lE X (wCall sp wa) σ H Q → tCall (lSp X.prog X.w X.K sp) [] C8.E0 (lA X wa) σ H Q := fun σ H Q ⟨ρ, M, Q', R, q, k⟩ =>
  ⟨ρ, M, _, R, q, fun vs H1 ds M1 r1 m1 k1 q1 => ⟨ds, M1, Q', by rw [List.append_nil]; exact r1, m1, q1, fun v H2 d M2 r2 m2 k2 q2 => k v H2 d M2 r2 m2 (k1.trans k2) q2⟩⟩
theorem de_call {k j : Nat} {x : Str} {sp : DSp} {p pos : Pos} {e : Expr} {es : List Expr} {wa : WA} (c : CalD X.prog X.w X.K X.mg X.base k x sp) (hr : Room j X.A) (hk : k ≤ j) (hg : Gl X x) (ha : DAr X (e :: es) wa)
    (hdb : (x == ("__debug__" : Str)) = false := by decide) (he : starEach (e :: es) X.env = (false, eval e X.env) :: starEach es X.env := by rfl) (hpl : (backTo pos (starEach es X.env)).any (·.1) = false := by rfl) :
    DEx X (.Call (.Name x p) (e :: es) [] pos) (wCall sp wa) := pe_imp (C8.pe_c c hr hk hg ha hdb he hpl) lift_call
def wMeth (C : Addr) (m : Str) (sp : DSp) (wo : WE) (wa : WA) : WE := fun ρ M Q => wo ρ M fun o M1 => ∃ a fs, o = .ref a ∧ M1 a = some (.ins C fs) ∧ fs.lookup m = none ∧ wa ρ M1 fun ds M2 => sp (.ref a :: ds) M2 Q
theorem de_meth {k j : Nat} {C : Addr} {m : Str} {sp : DSp} {apos pos : Pos} {o e : Expr} {es : List Expr} {wo : WE} {wa : WA} {pl : Sem Bool} (c : MetD X.prog X.w X.K X.mg X.base k C m sp) (hr : Room j X.A) (hk : k ≤ j) (ho : DEx X o wo) (ha : DAr X (e :: es) wa)
    (hst : starEach (e :: es) X.env = (false, eval e X.env) :: starEach es X.env := by rfl) (hpl : (backTo pos (starEach es X.env)).any (·.1) = false := by rfl)
    (ht : eval (.Call (.Attribute o m apos) (e :: es) [] pos) X.env = (do
      let ov ← eval o X.env
      standAt apos.atName
      let (f, first) ← holding [ov] (getMethod ov m pl)
      callWith pos f first (backTo pos (starEach (e :: es) X.env)) (backToKw pos (keywordEach [] X.env))) := by rfl) :
    DEx X (.Call (.Attribute o m apos) (e :: es) [] pos) (wMeth C m sp wo wa) := pe_imp (C8.pe_mt (pl := pl) c hr hk ho ha hst hpl ht) fun σ H Q ⟨ρ, M, Q', R, q, k⟩ =>
  ⟨ρ, M, _, R, q, fun x H1 d M1 r1 m1 k1 ⟨a, fs, e0, c0, l, q1⟩ => by
    subst e0
    cases (show x = .ref a from r1)
    obtain ⟨dx, gs, hh, rf⟩ := m1 a _ c0
    have l2 : gs.lookup m = none := by
      rcases rf.look m with ⟨_, z⟩ | ⟨_, _, z, _⟩
      · exact z
      · rw [z] at l; cases l
    exact ⟨a, dx, gs, rfl, hh, l2, ρ, M1, _, R.next m1 k1, q1, fun vs H2 ds M2 r2 m2 k2 q2 => ⟨.ref a :: ds, M2, Q', by rw [List.append_nil]; exact .cons rfl r2, m2, q2, fun v H3 d3 M3 r3 m3 k3 q3 => k v H3 d3 M3 r3 m3 (k1.trans (k2.trans k3)) q3⟩⟩⟩
def wMake (C : Addr) (sp : DSp) (wa : WA) : WE := fun ρ M Q => wa ρ M fun ds M1 => ∀ x, M1 x = none → sp (.ref x :: ds) (mset M1 x (.ins C [])) fun d M2 => d = .non ∧ Q (.ref x) M2
theorem de_make {k j : Nat} {C : Addr} {x : Str} {sp : DSp} {p pos : Pos} {e : Expr} {es : List Expr} {wa : WA} (c : MakD X.prog X.w X.K X.mg X.base k x C sp) (hr : Room j X.A) (hk : k + 1 ≤ j) (hg : Gl X x) (ha : DAr X (e :: es) wa)
    (hdb : (x == ("__debug__" : Str)) = false := by decide) (he : starEach (e :: es) X.env = (false, eval e X.env) :: starEach es X.env := by rfl) (hpl : (backTo pos (starEach es X.env)).any (·.1) = false := by rfl) :
    DEx X (.Call (.Name x p) (e :: es) [] pos) (wMake C sp wa) := pe_imp (C8.pe_mk c hr hk hg ha hdb he hpl) fun σ H Q ⟨ρ, M, Q', R, q, k⟩ =>
  ⟨ρ, M, _, R, q, fun vs H1 ds M1 r1 m1 k1 q1 => fun y dx ny nd ne => by
    obtain ⟨m2, k2⟩ := m1.allocT (o := .own y) nd
    have ny2 : (upd H1 dx (.own y)) y = none := by rw [upd_ne (Ne.symm ne)]; exact ny
    obtain ⟨m3, k3, n3⟩ := m2.alloc (o := .ins C dx []) (mo := .ins C []) ny2 fun t => ⟨dx, [], upd_same, .nil⟩
    refine ⟨.ref y :: ds, _, _, ?_, m3, q1 y n3, fun v H4 d M4 r4 m4 k4 ⟨e0, q4⟩ => ?_⟩
    · rw [List.append_nil]
      exact .cons rfl (Reps.keep ((k2.trans k3).tup m1) _ _ r1)
    · subst e0
      exact ⟨r4, k (.ref y) H4 (.ref y) M4 rfl m4 (k1.trans (k2.trans (k3.trans k4))) q4⟩⟩
end

/-! ### the body of a def -/
/-- what a def leaves behind may be forgotten -/
def drops (Q : DK) : DK := fun d M => ∃ M0, SubM M0 M ∧ Q d M0
def ends (Q : DK) : DEnds := { nx := fun _ M => drops Q .non M, rt := drops Q }
def startD (n : Nat) (ds : List D) : Env := ds.map some ++ List.replicate (n - ds.length) none
theorem rl_start {K : PySem.W.Frag} {H : Hp} {ds : List D} {vs : List V} {N : List Str} (r : Reps K H ds vs) : ∀ (i : Nat) d, (startD N.length ds)[i]? = some (some d) → ∃ v, (L2.start N vs)[i]? = some (some v) ∧ Rep K H d v := by
  intro i d e
  unfold startD at e
  unfold L2.start
  have l := r.length
  by_cases h : i < ds.length
  · rw [List.getElem?_append_left (by rw [List.length_map]; exact h), List.getElem?_map] at e
    rw [List.getElem?_append_left (by rw [List.length_map]; omega), List.getElem?_map]
    cases c : ds[i]? with
    | none => rw [c] at e; cases e
    | some d' =>
      rw [c] at e
      cases e
      obtain ⟨v, e1, r1⟩ := r.get c
      exact ⟨v, by rw [e1]; rfl, r1⟩
  · rw [List.getElem?_append_right (by rw [List.length_map]; omega), List.getElem?_replicate] at e
    split at e <;> cases e
/-- a body that reads as w keeps the promise sp -/
theorem body_ok {X : Cx} {body : List Stmt} {wb : WS} {sp : DSp} {N : List Str} {vs : List V} {H : Hp} {Q : VK} {E : XK} (hb : DSs X body wb) (hsp : ∀ ds M Q, sp ds M Q → wb (ends Q) (startD N.length ds) M) (h : lSp X.prog X.w X.K sp vs H Q E) :
    ∃ t, PSs X body t ∧ t { nx := fun _ H' => Q .non H', rt := Q } (L2.start N vs) H := by
  obtain ⟨ds, M, Q', r, m, q, k⟩ := h
  refine ⟨_, hb, startD N.length ds, M, ends Q', ⟨?_, rl_start r, m⟩, hsp _ _ _ q, ⟨?_, ?_, ?_, ?_⟩⟩
  · unfold startD L2.start
    have l := r.length
    simp only [List.length_append, List.length_map, List.length_replicate]
    omega
  · rintro σ' H' ρ' M' R k' ⟨M0, s, q0⟩
    exact k .non H' .non M0 rfl (R.mem.sub s) (k'.subR s) q0
  · rintro v H' d M' rv m' k' ⟨M0, s, q0⟩
    exact k v H' d M0 rv (m'.sub s) (k'.subR s) q0
  · rintro _ _ _ _ _ _ q; exact q.elim
  · rintro _ _ _ _ _ _ q; exact q.elim
theorem sp_len {P : Program} {w : World} {K : PySem.W.Frag} {sp : DSp} {n : Nat} (h : ∀ ds M Q, sp ds M Q → ds.length = n) : ∀ vs H Q E, lSp P w K sp vs H Q E → vs.length = n := fun vs H Q E ⟨ds, M, Q', r, m, q, k⟩ => by rw [← r.length]; exact h _ _ _ q
section
variable {P : Program} {w : World} {K : PySem.W.Frag} {mg : Str → Option Value} {base : Heap}
/-- the context of a body of these texts -/
abbrev cx (P : Program) (w : World) (K : PySem.W.Frag) (mg : Str → Option Value) (base : Heap) (N : List Str) (qual : Str) (scope : Scope) (f : Addr) (cd : Value) (A : Around) (outer : List PySem.Env) (s : Shared) (H : Hp) (E : XK) : Cx := (cxOf C8.CX0 P w K mg base N qual scope f cd A outer s H E).nox
theorem fn_ok {x qual : Str} {params : Arguments} {body : List Stmt} {scope : Scope} {f : Addr} {fd : FuncData} {N ps : List Str} {k : Nat} {sp : DSp} {wb : WS} (F : FunD K x qual params body scope [] [] f fd) (S : FnScope N ps scope) (hl : ∀ ds M Q, sp ds M Q → ds.length = ps.length)
    (hb : ∀ (cdv : Value) (A : Around) (outer : List PySem.Env) (s : Shared) (H : Hp) (E : XK), Room k (A.deeper (envOfC qual scope s.heap.objs.size f cdv)) → DSs (cx P w K mg base N qual scope f cdv A outer s H E) body wb)
    (hsp : ∀ ds M Q, sp ds M Q → wb (ends Q) (startD N.length ds) M) : FnOk P w K mg base C8.CX0 (k + 1) f fd ps (lSp P w K sp) :=
  F.ok S (sp_len hl) fun cdv A outer s H vs Q E hr h => let ⟨t, h1, h2⟩ := body_ok (X := cx P w K mg base N qual scope f cdv A outer s H E) (hb cdv A outer s H E hr) hsp h; ⟨t, h1.nox, h2⟩
theorem cal_ok {x : Str} {params : Arguments} {body : List Stmt} {scope : Scope} {f : Addr} {fd : FuncData} {N ps : List Str} {k : Nat} {sp : DSp} {wb : WS} (F : FunD K x x params body scope [] [] f fd) (hm : mg x = some (.ref f)) (b : Binds K fd ps []) (S : FnScope N ps scope) (hl : ∀ ds M Q, sp ds M Q → ds.length = ps.length)
    (hb : ∀ (cdv : Value) (A : Around) (outer : List PySem.Env) (s : Shared) (H : Hp) (E : XK), Room k (A.deeper (envOfC x scope s.heap.objs.size f cdv)) → DSs (cx P w K mg base N x scope f cdv A outer s H E) body wb)
    (hsp : ∀ ds M Q, sp ds M Q → wb (ends Q) (startD N.length ds) M) : CalD P w K mg base (k + 1) x sp := ⟨f, fd, ps, [], fn_ok F S hl hb hsp, hm, F.kp, b, .nil⟩
theorem CalD.mono {x : Str} {sp : DSp} {j k : Nat} (c : CalD P w K mg base j x sp) (h : j ≤ k) : CalD P w K mg base k x sp := let ⟨f, fd, ps, ds, F, hm, kp, b, d⟩ := c.ex; ⟨f, fd, ps, ds, F.mono h, hm, kp, b, d⟩
end
end Fw

set_option Elab.async false
set_option linter.all false
set_option maxRecDepth 100000
set_option maxHeartbeats 4000000
/-! FwLib: the rules under short names, for the printed walks -/
namespace Fw
open PySem PySem.Spec PyProof.Rows L2

def dSub : W2 := dInt0 fun i j => .int (i - j)
def dFdiv : W2 := dInt CDiv fun i j => .int (i / j)
def dMod : W2 := dInt (fun _ j => 0 < j) fun i j => .int (i % j)
def dPow : W2 := dInt CPow fun i j => .int (i ^ j.toNat)
def dLe : W2 := dInt0 fun i j => .bl (decide (i ≤ j))
def dGt : W2 := dInt0 fun i j => .bl (decide (j < i))
def dGe : W2 := dInt0 fun i j => .bl (decide (j ≤ i))
theorem bt_all : bootBuiltins "all" = some (.builtin "all") := by decide +kernel
theorem bt_any : bootBuiltins "any" = some (.builtin "any") := by decide +kernel
theorem bt_sum : bootBuiltins "sum" = some (.builtin "sum") := by decide +kernel
theorem bt_abs : bootBuiltins "abs" = some (.builtin "abs") := by decide +kernel
theorem bt_sorted : bootBuiltins "sorted" = some (.builtin "sorted") := by decide +kernel
theorem bt_int : bootBuiltins "int" = some (.type "int") := by decide +kernel
theorem bt_str : bootBuiltins "str" = some (.type "str") := by decide +kernel
theorem bt_list : bootBuiltins "list" = some (.type "list") := by decide +kernel
theorem bt_tuple : bootBuiltins "tuple" = some (.type "tuple") := by decide +kernel
theorem room64 {k : Nat} {A : Around} (hr : Room k A) : A.units + 64 < cLine := hr.units
theorem room65 {k : Nat} {A : Around} (hr : Room k A) : A.units + 65 < cLine := by have := hr.un; omega
section
variable {X : Cx} {a b c e : Expr} {wa wb wc we : WE} {ta tb : WT} {pos pos' p p2 apos cpos : Pos} {k : Nat}
theorem xInt {i : Int} {j : Nat} : DEx X (.Constant (.int i) j pos) (wC (.int i)) := de_c pe_int fun _ => rfl
theorem xStr {i : Str} {j : Nat} : DEx X (.Constant (.str i) j pos) (wC (.str i)) := de_c pe_str fun _ => rfl
theorem xBl {i : Bool} {j : Nat} : DEx X (.Constant (.bool i) j pos) (wC (.bl i)) := de_c pe_bl fun _ => rfl
theorem xNon {j : Nat} : DEx X (.Constant .none j pos) (wC .non) := de_c pe_non fun _ => rfl
theorem xV (i : Nat) {x : Str} (h1 : X.N[i]? = some x := by rfl) (h2 : Vis X.env.scope x := by first | exact .inl rfl | exact .inr (.inl rfl) | exact .inr (.inr rfl)) (h3 : (x == ("__debug__" : Str)) = false := by decide) (h4 : (x == ("__classdict__" : Str)) = false := by decide) : DEx X (.Name x pos) (wVar i) := de_var (pe_var h1 h2 h3 h4)
theorem xGS {x z : Str} (h : ∃ t, X.mg x = some (.str z t)) (hg : Gl X x := by rfl) (hd : (x == ("__debug__" : Str)) = false := by decide) : DEx X (.Name x pos) (wC (.str z)) := let ⟨t, e⟩ := h; de_c (pe_glob (v := .str z) hg e ⟨t, rfl⟩ hd) fun _ => rfl
theorem xGI {x : Str} {i : Int} (h : ∃ t, X.mg x = some (.int i t)) (hg : Gl X x := by rfl) (hd : (x == ("__debug__" : Str)) = false := by decide) : DEx X (.Name x pos) (wC (.int i)) := let ⟨t, e⟩ := h; de_c (pe_glob (v := .int i) hg e ⟨t, rfl⟩ hd) fun _ => rfl
theorem xAdd (ha : DEx X a wa) (hb : DEx X b wb) : DEx X (.BinOp a .Add b pos) (wBin dAdd wa wb) := de_op op_addR lift_add ha hb
theorem xMul (ha : DEx X a wa) (hb : DEx X b wb) : DEx X (.BinOp a .Mult b pos) (wBin dMul wa wb) := de_op op_mulR lift_mul ha hb
theorem xSub (ha : DEx X a wa) (hb : DEx X b wb) : DEx X (.BinOp a .Sub b pos) (wBin dSub wa wb) := de_op op_sub (lift_int0 fun _ _ _ => rfl) ha hb
theorem xFdiv (ha : DEx X a wa) (hb : DEx X b wb) : DEx X (.BinOp a .FloorDiv b pos) (wBin dFdiv wa wb) := de_op op_fdiv (lift_int fun _ _ _ => rfl) ha hb
theorem xMod (ha : DEx X a wa) (hb : DEx X b wb) : DEx X (.BinOp a .Mod b pos) (wBin dMod wa wb) := de_op op_mod (lift_int fun _ _ _ => rfl) ha hb
theorem xPow (ha : DEx X a wa) (hb : DEx X b wb) : DEx X (.BinOp a .Pow b pos) (wBin dPow wa wb) := de_op op_pow (lift_int fun _ _ _ => rfl) ha hb
theorem xEq (hr : Room k X.A) (ha : DEx X a wa) (hb : DEx X b wb) : DEx X (.Compare a [.Eq] [b] pos) (wBin (dEq id) wa wb) := de_cmp (op_eqR hr.units) lift_eq ha hb (nomark _)
theorem xNe (hr : Room k X.A) (ha : DEx X a wa) (hb : DEx X b wb) : DEx X (.Compare a [.NotEq] [b] pos) (wBin (dEq not) wa wb) := de_cmp (op_neR hr.units) lift_ne ha hb (nomark _)
theorem xLt (ha : DEx X a wa) (hb : DEx X b wb) : DEx X (.Compare a [.Lt] [b] pos) (wBin dLt wa wb) := de_cmp op_ltR lift_lt ha hb (nomark _)
theorem xLe (ha : DEx X a wa) (hb : DEx X b wb) : DEx X (.Compare a [.LtE] [b] pos) (wBin dLe wa wb) := de_cmp op_le (lift_int0 fun _ _ _ => rfl) ha hb (nomark _)
theorem xGt (ha : DEx X a wa) (hb : DEx X b wb) : DEx X (.Compare a [.Gt] [b] pos) (wBin dGt wa wb) := de_cmp op_gt (lift_int0 fun _ _ _ => rfl) ha hb (nomark _)
theorem xGe (ha : DEx X a wa) (hb : DEx X b wb) : DEx X (.Compare a [.GtE] [b] pos) (wBin dGe wa wb) := de_cmp op_ge (lift_int0 fun _ _ _ => rfl) ha hb (nomark _)
theorem xIs (ha : DEx X a wa) (hb : DEx X b wb) : DEx X (.Compare a [.Is] [b] pos) (wBin (dIs id) wa wb) := de_cmp op_isR lift_is ha hb (nomark _)
theorem xIsN (ha : DEx X a wa) (hb : DEx X b wb) : DEx X (.Compare a [.IsNot] [b] pos) (wBin (dIs not) wa wb) := de_cmp op_notR lift_not ha hb (nomark _)
theorem xIn (hr : Room k X.A) (ha : DEx X a wa) (hb : DEx X b wb) (hm : behindInMarks .In b = false := by rfl) : DEx X (.Compare a [.In] [b] pos) (wBin (dIn id) wa wb) := de_cmp (op_inR (room65 hr)) lift_in ha hb hm
theorem xNIn (hr : Room k X.A) (ha : DEx X a wa) (hb : DEx X b wb) (hm : behindInMarks .NotIn b = false := by rfl) : DEx X (.Compare a [.NotIn] [b] pos) (wBin (dIn not) wa wb) := de_cmp (op_notInR (room65 hr)) lift_notIn ha hb hm
theorem xLeLe (ha : DEx X a wa) (hb : DEx X b wb) (hc : DEx X c wc) (hm : lastMarks [.LtE, .LtE] [b, c] = false := by rfl) : DEx X (.Compare a [.LtE, .LtE] [b, c] pos) (wChain dLe dLe wa wb wc) := de_chain op_le op_le (lift_int0 fun _ _ _ => rfl) (lift_int0 fun _ _ _ => rfl) ha hb hc hm
theorem xLeLt (ha : DEx X a wa) (hb : DEx X b wb) (hc : DEx X c wc) (hm : lastMarks [.LtE, .Lt] [b, c] = false := by rfl) : DEx X (.Compare a [.LtE, .Lt] [b, c] pos) (wChain dLe dLt wa wb wc) := de_chain op_le op_ltR (lift_int0 fun _ _ _ => rfl) lift_lt ha hb hc hm
theorem xLtLt (ha : DEx X a wa) (hb : DEx X b wb) (hc : DEx X c wc) (hm : lastMarks [.Lt, .Lt] [b, c] = false := by rfl) : DEx X (.Compare a [.Lt, .Lt] [b, c] pos) (wChain dLt dLt wa wb wc) := de_chain op_ltR op_ltR lift_lt lift_lt ha hb hc hm
theorem xIx (hr : Room k X.A) (ha : DEx X a wa) (hb : DEx X b wb) (hs : PlainIx b := by intro _ _; rfl) : DEx X (.Subscript a b pos) (wBin dIxA wa wb) := de_ix (ix_all hr.units) lift_ixA ha hb hs
theorem xArg {es : List Expr} {wr : WA} (he : DEx X e we) (hr : DAr X es wr) (hs : starEach (e :: es) X.env = (false, eval e X.env) :: starEach es X.env := by rfl) : DAr X (e :: es) (wCons we wr) := da_cons he hr hs
/-- a test of a value -/
theorem tV (h : DEx X a wa) (he : ∀ whole, isTrue a X.env whole = (do let v ← whole; standAt a.pos; holding [v] (truthy v)) := by intro _; rfl) : DTs X a (wTru wa) := dt_tru h he
theorem tW {w : WT} (h : DWs X e w) : DTs X e w := h.pt
theorem tEq (hr : Room k X.A) (ha : DEx X a wa) (hb : DEx X b wb) : DTs X (.Compare a [.Eq] [b] pos) (wB (wBin (dEq id) wa wb)) := dt_cmp (op_eqR hr.units) lift_eq ha hb (nomark _)
theorem tNe (hr : Room k X.A) (ha : DEx X a wa) (hb : DEx X b wb) : DTs X (.Compare a [.NotEq] [b] pos) (wB (wBin (dEq not) wa wb)) := dt_cmp (op_neR hr.units) lift_ne ha hb (nomark _)
theorem tLt (ha : DEx X a wa) (hb : DEx X b wb) : DTs X (.Compare a [.Lt] [b] pos) (wB (wBin dLt wa wb)) := dt_cmp op_ltR lift_lt ha hb (nomark _)
theorem tLe (ha : DEx X a wa) (hb : DEx X b wb) : DTs X (.Compare a [.LtE] [b] pos) (wB (wBin dLe wa wb)) := dt_cmp op_le (lift_int0 fun _ _ _ => rfl) ha hb (nomark _)
theorem tGt (ha : DEx X a wa) (hb : DEx X b wb) : DTs X (.Compare a [.Gt] [b] pos) (wB (wBin dGt wa wb)) := dt_cmp op_gt (lift_int0 fun _ _ _ => rfl) ha hb (nomark _)
theorem tGe (ha : DEx X a wa) (hb : DEx X b wb) : DTs X (.Compare a [.GtE] [b] pos) (wB (wBin dGe wa wb)) := dt_cmp op_ge (lift_int0 fun _ _ _ => rfl) ha hb (nomark _)
theorem tIs (ha : DEx X a wa) (hb : DEx X b wb) : DTs X (.Compare a [.Is] [b] pos) (wB (wBin (dIs id) wa wb)) := dt_cmp op_isR lift_is ha hb (nomark _)
theorem tIsN (ha : DEx X a wa) (hb : DEx X b wb) : DTs X (.Compare a [.IsNot] [b] pos) (wB (wBin (dIs not) wa wb)) := dt_cmp op_notR lift_not ha hb (nomark _)
theorem tIn (hr : Room k X.A) (ha : DEx X a wa) (hb : DEx X b wb) (hm : behindInMarks .In b = false := by rfl) : DTs X (.Compare a [.In] [b] pos) (wB (wBin (dIn id) wa wb)) := dt_cmp (op_inR (room65 hr)) lift_in ha hb hm
theorem tNIn (hr : Room k X.A) (ha : DEx X a wa) (hb : DEx X b wb) (hm : behindInMarks .NotIn b = false := by rfl) : DTs X (.Compare a [.NotIn] [b] pos) (wB (wBin (dIn not) wa wb)) := dt_cmp (op_notInR (room65 hr)) lift_notIn ha hb hm
theorem tLeLe (ha : DEx X a wa) (hb : DEx X b wb) (hc : DEx X c wc) (hm : lastMarks [.LtE, .LtE] [b, c] = false := by rfl) : DTs X (.Compare a [.LtE, .LtE] [b, c] pos) (wB (wChain dLe dLe wa wb wc)) := dt_chain op_le op_le (lift_int0 fun _ _ _ => rfl) (lift_int0 fun _ _ _ => rfl) ha hb hc hm
theorem tLeLt (ha : DEx X a wa) (hb : DEx X b wb) (hc : DEx X c wc) (hm : lastMarks [.LtE, .Lt] [b, c] = false := by rfl) : DTs X (.Compare a [.LtE, .Lt] [b, c] pos) (wB (wChain dLe dLt wa wb wc)) := dt_chain op_le op_ltR (lift_int0 fun _ _ _ => rfl) lift_lt ha hb hc hm
theorem tLtLt (ha : DEx X a wa) (hb : DEx X b wb) (hc : DEx X c wc) (hm : lastMarks [.Lt, .Lt] [b, c] = false := by rfl) : DTs X (.Compare a [.Lt, .Lt] [b, c] pos) (wB (wChain dLt dLt wa wb wc)) := dt_chain op_ltR op_ltR lift_lt lift_lt ha hb hc hm
/-! built-in functions -/
variable {es : List Expr} {w : WA}
theorem xBi {x : Str} {id : String} {r : List V → Hp → VK → Prop} {g : WL} (hc : CallR X (.builtin id) r) (l : LiftL X r g) (hv : bootBuiltins x = some (.builtin id)) (hm : X.mg x = none) (ha : DAr X (e :: es) w) (hg : Gl X x := by rfl) (hn : x ≠ "__name__" := by decide) (hdb : (x == ("__debug__" : Str)) = false := by decide)
    (he : starEach (e :: es) X.env = (false, eval e X.env) :: starEach es X.env := by rfl) (hpl : (backTo pos (starEach es X.env)).any (·.1) = false := by rfl) : DEx X (.Call (.Name x p) (e :: es) [] pos) (wCall g w) := pe_imp (pe_callB hc hg hm hv ha hn hdb he hpl) (lift_cb l)
theorem xTy {x : Str} {T : String} {r : List V → Hp → VK → Prop} {g : WL} (hc : CallR X (.type T) r) (l : LiftL X r g) (hv : bootBuiltins x = some (.type T)) (hm : X.mg x = none) (ha : DAr X (e :: es) w) (hg : Gl X x := by rfl) (hn : x ≠ "__name__" := by decide) (hdb : (x == ("__debug__" : Str)) = false := by decide)
    (he : starEach (e :: es) X.env = (false, eval e X.env) :: starEach es X.env := by rfl) (hpl : (backTo pos (starEach es X.env)).any (·.1) = false := by rfl) : DEx X (.Call (.Name x p) (e :: es) [] pos) (wCall g w) := pe_imp (pe_callTy hc hg hm hv ha hn hdb he hpl) (lift_cb l)
theorem xF {x : Str} {sp : DSp} (c : CalD X.prog X.w X.K X.mg X.base k x sp) (hr : Room k X.A) (ha : DAr X (e :: es) w) (hg : Gl X x := by rfl)
    (hdb : (x == ("__debug__" : Str)) = false := by decide) (he : starEach (e :: es) X.env = (false, eval e X.env) :: starEach es X.env := by rfl) (hpl : (backTo pos (starEach es X.env)).any (·.1) = false := by rfl) : DEx X (.Call (.Name x p) (e :: es) [] pos) (wCall sp w) := de_call c hr (Nat.le_refl _) hg ha hdb he hpl
theorem xIsi (T : Ty) {x : Str} (hm : X.mg "isinstance" = none) (hmT : X.mg x = none) (h : DEx X e we) (hx : x = Str.ofString T.nm := by rfl) (hg : Gl X "isinstance" := by rfl) (hgT : Gl X x := by rfl)
    (hn : x ≠ "__name__" := by decide) (hdb : (x == ("__debug__" : Str)) = false := by decide) (h1 : starEach [e, .Name x p2] X.env = (false, eval e X.env) :: starEach [.Name x p2] X.env := by rfl) : DEx X (.Call (.Name "isinstance" p) [e, .Name x p2] [] pos) (wIsi T we) := de_isi T hx hg hm hgT hmT h hn hdb h1
theorem xGet1 (hr : Room k X.A) (ho : DEx X a wa) (he : DEx X e we) (h1 : attributeBase a "get" X.env (eval a X.env) = eval a X.env := by rfl)
    (h2 : ((backTo cpos (starEach [e] X.env)).all (fun x => !x.1) && (backToKw cpos (keywordEach [] X.env)).all (fun x => x.1.isSome)
      && decide (([e] : List Expr).length + ([] : List Keyword).length + (if ([] : List Keyword).isEmpty then 0 else 1) < 30)) = true := by rfl)
    (h3 : (apos.endLine == cpos.line) = true := by rfl) (h4 : backTo cpos (starEach [e] X.env) = [(false, eval e X.env)] := by rfl) : DEx X (.Call (.Attribute a "get" apos) [e] [] cpos) (wGet1 wa we) := de_get1 hr.units ho he ⟨h1, h2, h3, h4⟩
/-! sources -/
theorem iR1 {tg : Expr} (hm : X.mg "range" = none) (ha : DEx X a wa) (hg : Gl X "range" := by rfl) (hs : starEach [a] X.env = [(false, eval a X.env)] := by rfl) : DI X tg (.Call (.Name "range" p) [a] [] pos) (wRange1 wa) := di_range1 hg hm ha hs
theorem iR2 {tg : Expr} (hm : X.mg "range" = none) (ha : DEx X a wa) (hb : DEx X b wb) (hg : Gl X "range" := by rfl) (hs : starEach [a, b] X.env = [(false, eval a X.env), (false, eval b X.env)] := by rfl) (hs2 : starEach [b] X.env = [(false, eval b X.env)] := by rfl) : DI X tg (.Call (.Name "range" p) [a, b] [] pos) (wRange2 wa wb) := di_range2 hg hm ha hb hs hs2
/-! statements -/
theorem sSet (i : Nat) {x : Str} (hN : X.N.Nodup) (he : DEx X e we) (hi : X.N[i]? = some x := by rfl) (hx : Loc X.env.scope x := by first | exact .inl rfl | exact .inr rfl) (hs : swapsWith e (some (.Name x pos')) pos.line X.env = pure false := by rfl) (hf : X.fn x = true ∨ X.env.scope.names.lookup x = some .local := by first | exact .inl rfl | exact .inr rfl) : DSt X (.Assign [.Name x pos'] e pos) (wSet i we) := ds_set hN hi hx he hs hf
theorem sAsg {tg : Expr} {t : Tg} (he : DEx X e we) (hg : PG X tg (gT X.K t)) (hs : swapsWithSole [tg] e pos.line X.env = pure false := by rfl) (hw : swappedStores [tg] e X.env = pure none := by rfl) (h1 : (assignEach [tg] X.env).map (·.2) = [assign tg X.env] := by rfl) : DSt X (.Assign [tg] e pos) (wAsg t we) := ds_asg he hg hs hw h1
theorem sPut {o i : Expr} {wo wi : WE} {tpos : Pos} (hr : Room k X.A) (he : DEx X e we) (ho : DEx X o wo) (hi : DEx X i wi)
    (ha : ∀ v, assign (.Subscript o i tpos) X.env v = (do
      let ov ← holding [v] (eval o X.env)
      let iv ← holding [v, ov] (eval i X.env)
      standAt tpos
      holding [v, ov, iv] (setItem ov iv v)
      release [v, ov, iv] []) := by intro _; rfl)
    (hs : swapsWithSole [.Subscript o i tpos] e pos.line X.env = pure false := by rfl) (hw : swappedStores [.Subscript o i tpos] e X.env = pure none := by rfl) (h1 : (assignEach [.Subscript o i tpos] X.env).map (·.2) = [assign (.Subscript o i tpos) X.env] := by rfl) : DSt X (.Assign [.Subscript o i tpos] e pos) (wPut we wo wi) := ds_put hr.units he ho hi ha hs hw h1
theorem sAugAdd (i : Nat) {x : Str} (hN : X.N.Nodup) (he : DEx X e we) (hi : X.N[i]? = some x := by rfl) (hx : Loc X.env.scope x := by first | exact .inl rfl | exact .inr rfl) (hf : X.fn x = true ∨ X.env.scope.names.lookup x = some .local := by first | exact .inl rfl | exact .inr rfl) : DSt X (.AugAssign (.Name x pos') .Add e pos) (wAug i dIAdd we) := ds_aug hN hi hx he iop_addR lift_iadd hf
theorem sFor {tg iter : Expr} {body : List Stmt} {wi : WI} {t : Tg} {wb : WS} (hi : DI X tg iter wi) (hg : PG X tg (gT X.K t)) (hb : DSs X body wb) (hp : PassesOwn (model X.prog X.w) X.A X.env X.xe := by exact PySem.PassesOwn.never) (hc : X.calm = true := by rfl) (hs : ∀ x, foldedSetIterable iter X.env x = pure x := by intro _; rfl) : DSt X (.For tg iter body [] pos) (wFor wi t wb) := ds_for hp hc hi hg hb hs
theorem sWhile {body : List Stmt} {wb : WS} (hc : DTs X c ta) (hb : DSs X body wb) (hp : PassesOwn (model X.prog X.w) X.A X.env X.xe := by exact PySem.PassesOwn.never) : DSt X (.While c body [] pos) (wWhile ta wb) := ds_while hp hc hb
theorem sExpr (h : DEx X e we) (hs : swapsWith e none pos.line X.env = pure false := by rfl) : DSt X (.Expr e pos) (wDrop we) := ds_expr h hs
theorem gN (i : Nat) {x : Str} (hN : X.N.Nodup) (hi : X.N[i]? = some x := by rfl) (hx : Loc X.env.scope x := by first | exact .inl rfl | exact .inr rfl) (hf : X.fn x = true ∨ X.env.scope.names.lookup x = some .local := by first | exact .inl rfl | exact .inr rfl) : PG X (.Name x pos) (gT X.K (.nm i)) := pgn hN hi hx hf
theorem gG {ts : List Expr} {j : Nat} {is : List Nat} (h : PGs X ts (lvT is)) (hc : X.calm = true := by rfl) (hn : (assignEach ts X.env).length = is.length := by rfl) (hst : (assignEach ts X.env).findIdx? (·.1) = none := by rfl) : PG X (.Tuple ts j pos) (gT X.K (.tp is)) := pgt hc h hn hst
/-! comprehensions -/
def blkC (N : List Str) (sc scope : Scope) (own : List (Str × Nat)) : Bool :=
  decide (scope.kind = .function) && scope.names.all (fun y => decide (scope.names.lookup y.1 = some y.2)) && own.all (fun p => decide (N[p.2]? = some p.1)) && scope.names.all (fun y => !decide (y.2 = .free) || decide (sc.names.lookup y.1 = some .cell) || decide (sc.names.lookup y.1 = some .free)) && scope.names.all (fun y => !(decide (y.2 = .local) || decide (y.2 = .cell)) || decide (y.1 ∈ own.map (·.1)) || decide (y.1 ∉ N))
theorem blk {N : List Str} {sc scope : Scope} {own : List (Str × Nat)} (h : blkC N sc scope own = true) : BlkOk N sc scope own := by
  unfold blkC at h
  simp only [Bool.and_eq_true, decide_eq_true_eq, List.all_eq_true, Bool.or_eq_true, Bool.not_eq_true', decide_eq_false_iff_not, Bool.or_eq_false_iff] at h
  obtain ⟨⟨⟨⟨h1, h2⟩, h3⟩, h4⟩, h5⟩ := h
  refine ⟨h1, h2, h3, fun y hy e => ?_, fun y hy e => ?_⟩
  · rcases h4 y hy with (z | z) | z
    · exact absurd e z
    · exact .inl z
    · exact .inr z
  · rcases h5 y hy with (z | z) | z
    · rcases e with e | e
      · exact absurd e z.1
      · exact absurd e z.2
    · exact .inl z
    · exact .inr z
theorem lE_to {X Y : Cx} {w : WE} (h1 : Y.prog = X.prog) (h2 : Y.w = X.w) (h3 : Y.K = X.K) : ∀ σ H Q, lE X w σ H Q → lE Y w σ H Q := fun σ H Q ⟨ρ, M, Q', R, q, k⟩ => ⟨ρ, M, Q', ⟨R.len, by rw [h3]; exact R.slot, by rw [h1, h2, h3]; exact R.mem⟩, q, by rw [h1, h2, h3]; exact k⟩
theorem lT_to {X Y : Cx} {w : WT} (h1 : Y.prog = X.prog) (h2 : Y.w = X.w) (h3 : Y.K = X.K) : ∀ σ H Q, lT X w σ H Q → lT Y w σ H Q := fun σ H Q ⟨ρ, M, Q', R, q, k⟩ => ⟨ρ, M, Q', ⟨R.len, by rw [h3]; exact R.slot, by rw [h1, h2, h3]; exact R.mem⟩, q, by rw [h1, h2, h3]; exact k⟩
theorem pts_imp {Y : Cx} {es : List Expr} {t t' : TT} (h : PTs Y es t) (i : ∀ σ H Q, t' σ H Q → t σ H Q) : PTs Y es t' := ⟨fun pins s σ H Q I q => h.run pins s σ H Q I (i _ _ _ q)⟩
theorem xLc {elt tg iter : Expr} {ifs : List Expr} {scope : Scope} {own : List (Str × Nat)} {wi : WI} {t : Tg} {wt : WT} (hN : X.N.Nodup) (ok : BlkOk X.N X.env.scope scope own)
    (hi : DI X tg iter wi) (hg : InB X scope fun Y => PG Y tg (gT Y.K t)) (ht : InB X scope fun Y => PTs Y ifs (lT Y wt)) (he : InB X scope fun Y => PE Y elt (lE Y we)) (hv : ∀ i ∈ t.ids, i ∈ own.map (·.2) := by decide) (hc : X.calm = true := by rfl) (hs : ∀ x, foldedSetIterable iter X.env x = pure x := by intro _; rfl) :
    DEx X (.ListComp elt [⟨tg, iter, ifs, 0⟩] scope pos) (wLc wi t (own.map (·.2)) wt we) := de_lc hc hN ok hv hi hg (fun s H C cl fp => pts_imp (ht s H C cl fp) (lT_to rfl rfl rfl)) (fun s H C cl fp => pe_imp (he s H C cl fp) (lE_to rfl rfl rfl)) hs
theorem sSetLc (i : Nat) {y : Str} {elt tg iter : Expr} {ifs : List Expr} {scope : Scope} {own : List (Str × Nat)} {wi : WI} {t : Tg} {wt : WT} (hN : X.N.Nodup) (ok : BlkOk X.N X.env.scope scope own)
    (hi : DI X tg iter wi) (hg : InB X scope fun Y => PG Y tg (gT Y.K t)) (ht : InB X scope fun Y => PTs Y ifs (lT Y wt)) (he : InB X scope fun Y => PE Y elt (lE Y we)) (hy : X.N[i]? = some y := by rfl) (hyl : X.env.scope.names.lookup y = some .local := by rfl)
    (hsw : swapsWith (.ListComp elt [⟨tg, iter, ifs, 0⟩] scope pos) (some (.Name y p)) cpos.line X.env = pure true := by rfl) (hv : ∀ i ∈ t.ids, i ∈ own.map (·.2) := by decide) (hc : X.calm = true := by rfl) (hs : ∀ x, foldedSetIterable iter X.env x = pure x := by intro _; rfl) :
    DSt X (.Assign [.Name y p] (.ListComp elt [⟨tg, iter, ifs, 0⟩] scope pos) cpos) (wSet i (wLc wi t (own.map (·.2)) wt we)) := ds_setLc hc hN hy hyl hsw ok hv hi hg (fun s H C cl fp => pts_imp (ht s H C cl fp) (lT_to rfl rfl rfl)) (fun s H C cl fp => pe_imp (he s H C cl fp) (lE_to rfl rfl rfl)) hs
end
end Fw

set_option Elab.async false
set_option linter.all false
set_option maxRecDepth 100000
set_option maxHeartbeats 4000000
/-! FwPlain: plain data: ==, in, keys; tables as sets -/
namespace Fw
open PySem PySem.Spec PyProof.Rows L2
mutual
def D.cl : D → Bool
  | .non => true
  | .int _ => true
  | .str s => PyData.strOk s
  | .tup ds => D.cls ds
  | .bl _ => false
  | .ref _ => false
def D.cls : List D → Bool
  | [] => true
  | d :: ds => D.cl d && D.cls ds
end
mutual
def D.dep : D → Nat
  | .tup ds => D.deps ds + 1
  | _ => 0
def D.deps : List D → Nat
  | [] => 0
  | d :: ds => max (D.dep d) (D.deps ds)
end
mutual
theorem D.py_cl : ∀ x : D, x.cl = true → ∃ p, x.py = some p ∧ p.canLay0 = true ∧ p.depth = x.dep
  | .non, _ => ⟨.none, by simp [D.py], by simp [PyData.canLay0], by simp [PyData.depth, D.dep]⟩
  | .int i, _ => ⟨.int i, by simp [D.py], by simp [PyData.canLay0], by simp [PyData.depth, D.dep]⟩
  | .str s, h => ⟨.str s, by simp [D.py], by simpa [PyData.canLay0, D.cl] using h, by simp [PyData.depth, D.dep]⟩
  | .bl b, h => by simp [D.cl] at h
  | .ref b, h => by simp [D.cl] at h
  | .tup ds, h => by
    obtain ⟨ps, e, c, d⟩ := D.pys_cl ds (by simpa [D.cl] using h)
    exact ⟨.tuple ps, by simp [D.py, e], by simpa [PyData.canLay0] using c, by simp [PyData.depth, D.dep, d]⟩
theorem D.pys_cl : ∀ xs : List D, D.cls xs = true → ∃ ps, D.pys xs = some ps ∧ PyData.canLayAll0 ps = true ∧ PyData.depthAll ps = D.deps xs
  | [], _ => ⟨[], by simp [D.pys], by simp [PyData.canLayAll0], by simp [PyData.depthAll, D.deps]⟩
  | x :: xs, h => by
    simp only [D.cls, Bool.and_eq_true] at h
    obtain ⟨p, e, c, d⟩ := D.py_cl x h.1
    obtain ⟨ps, e2, c2, d2⟩ := D.pys_cl xs h.2
    exact ⟨p :: ps, by simp [D.pys, e, e2], by simp [PyData.canLayAll0, c, c2], by simp [PyData.depthAll, D.deps, d, d2]⟩
end
mutual
theorem D.eqv_cl : ∀ (x y : D) (p q : PyData), x.cl = true → y.cl = true → x.py = some p → y.py = some q → PyData.eqv p q = decide (x = y)
  | .non, y, p, q, hx, hy, ep, eq => by
    simp [D.py] at ep; subst ep
    cases y <;> simp [D.py, D.cl] at eq hy <;> first | (subst eq; simp [PyData.eqv]) | (obtain ⟨_, _, rfl⟩ := eq; simp [PyData.eqv])
  | .int i, y, p, q, hx, hy, ep, eq => by
    simp [D.py] at ep; subst ep
    cases y <;> simp [D.py, D.cl] at eq hy <;> first | (subst eq; simp [PyData.eqv]; try (rw [Bool.eq_iff_iff]; simp)) | (obtain ⟨_, _, rfl⟩ := eq; simp [PyData.eqv])
  | .str i, y, p, q, hx, hy, ep, eq => by
    simp [D.py] at ep; subst ep
    cases y <;> simp [D.py, D.cl] at eq hy <;> first | (subst eq; simp [PyData.eqv]; try (rw [Bool.eq_iff_iff]; simp)) | (obtain ⟨_, _, rfl⟩ := eq; simp [PyData.eqv])
  | .bl b, _, _, _, h, _, _, _ => by simp [D.cl] at h
  | .ref b, _, _, _, h, _, _, _ => by simp [D.cl] at h
  | .tup ds, y, p, q, hx, hy, ep, eq => by
    simp only [D.py, Option.map_eq_some_iff] at ep
    obtain ⟨ps, e1, rfl⟩ := ep
    cases y with
    | tup es =>
      simp only [D.py, Option.map_eq_some_iff] at eq
      obtain ⟨qs, e2, rfl⟩ := eq
      rw [PyData.eqv, D.eqvs_cl ds es ps qs (by simpa [D.cl] using hx) (by simpa [D.cl] using hy) e1 e2]
      simp
    | bl b => simp [D.cl] at hy
    | ref b => simp [D.cl] at hy
    | non => simp [D.py] at eq; subst eq; simp [PyData.eqv]
    | int i => simp [D.py] at eq; subst eq; simp [PyData.eqv]
    | str i => simp [D.py] at eq; subst eq; simp [PyData.eqv]
theorem D.eqvs_cl : ∀ (x y : List D) (p q : List PyData), D.cls x = true → D.cls y = true → D.pys x = some p → D.pys y = some q → PyData.eqvAll p q = decide (x = y)
  | [], [], p, q, _, _, ep, eq => by simp [D.pys] at ep eq; subst ep eq; simp [PyData.eqvAll]
  | [], y :: ys, p, q, _, _, ep, eq => by
    simp [D.pys] at ep; subst ep
    rw [D.pys] at eq
    split at eq
    · simp at eq; subst eq; simp [PyData.eqvAll]
    · simp at eq
  | x :: xs, [], p, q, _, _, ep, eq => by
    simp [D.pys] at eq; subst eq
    rw [D.pys] at ep
    split at ep
    · simp at ep; subst ep; simp [PyData.eqvAll]
    · simp at ep
  | x :: xs, y :: ys, p, q, hx, hy, ep, eq => by
    simp only [D.cls, Bool.and_eq_true] at hx hy
    rw [D.pys] at ep eq
    split at ep
    · rename_i k ks e1 e2
      simp at ep; subst ep
      split at eq
      · rename_i k' ks' e1' e2'
        simp at eq; subst eq
        rw [PyData.eqvAll, D.eqv_cl x y k k' hx.1 hy.1 e1 e1', D.eqvs_cl xs ys ks ks' hx.2 hy.2 e2 e2']
        rw [Bool.eq_iff_iff]
        simp
      · simp at eq
    · simp at ep
end
theorem eqIs {x y : D} (hx : x.cl = true) (hy : y.cl = true) (dx : x.dep ≤ 64) (dy : y.dep ≤ 64) : EqIs x y (decide (x = y)) := by
  obtain ⟨p, e, c, d⟩ := D.py_cl x hx
  obtain ⟨q, e2, c2, d2⟩ := D.py_cl y hy
  exact ⟨p, q, e, e2, by unfold SeqAt.shaped; rw [c, d]; simp [dx], by unfold SeqAt.shaped; rw [c2, d2]; simp [dy], D.eqv_cl x y p q hx hy e e2⟩
theorem dEq_cl {f : Bool → Bool} {x y : D} {M : Mem} {Q : DK} (hx : x.cl = true) (hy : y.cl = true) (dx : x.dep ≤ 64) (dy : y.dep ≤ 64) (q : Q (.bl (f (decide (x = y)))) M) : dEq f x y M Q := by
  unfold dEq
  cases h : scEq x y with
  | none => exact ⟨_, eqIs hx hy dx dy, q⟩
  | some b =>
    show Q (.bl (f b)) M
    have e : b = decide (x = y) := by
      unfold scEq at h
      split at h
      · cases h; exact decide_eq_decide.mpr (by simp)
      · cases h; exact decide_eq_decide.mpr (by simp)
      · cases h; exact decide_eq_decide.mpr (by simp)
      · cases h
    rw [e]; exact q
theorem any_eqv {x : D} {p : PyData} (hx : x.cl = true) (e : x.py = some p) : ∀ (ds : List D) (ps : List PyData), D.cls ds = true → D.pys ds = some ps → (ps.any fun z => PyData.eqv z p) = decide (x ∈ ds)
  | [], ps, _, h => by simp [D.pys] at h; subst h; simp
  | d :: ds, ps, c, h => by
    simp only [D.cls, Bool.and_eq_true] at c
    rw [D.pys] at h
    split at h
    · rename_i k ks e1 e2
      simp at h; subst h
      rw [List.any_cons, D.eqv_cl d x k p c.1 hx e1 e, any_eqv hx e ds ks c.2 e2]
      rw [Bool.eq_iff_iff]
      simp only [Bool.or_eq_true, decide_eq_true_eq, List.mem_cons]
      exact ⟨fun z => z.imp Eq.symm id, fun z => z.imp Eq.symm id⟩
    · simp at h
theorem inL_cl {f : Bool → Bool} {x : D} {ds : List D} {M : Mem} {Q : DK} (hx : x.cl = true) (hd : D.cls ds = true) (dx : x.dep ≤ 64) (dd : D.deps ds < 64) (q : Q (.bl (f (decide (x ∈ ds)))) M) : InL f x ds M Q := by
  obtain ⟨p, e, c, d⟩ := D.py_cl x hx
  obtain ⟨ps, e2, c2, d2⟩ := D.pys_cl ds hd
  refine ⟨p, ps, e, e2, by unfold SeqAt.shaped; rw [c, d]; simp [dx], by unfold SeqAt.shaped; simp only [PyData.canLay0, PyData.depth, c2, d2]; simp; omega, ?_⟩
  rw [any_eqv hx e ds ps hd e2]
  exact q

/-! ### tables -/
theorem valD_some {kvs : List (D × D)} {k : D} : (valD kvs k).isSome = decide (k ∈ kvs.map (·.1)) := by
  unfold valD
  rw [Option.isSome_map, Bool.eq_iff_iff]
  simp [List.find?_isSome]
theorem putD_keys {kvs : List (D × D)} {k v : D} : (putD kvs k v).map (·.1) = if k ∈ kvs.map (·.1) then kvs.map (·.1) else kvs.map (·.1) ++ [k] := by
  unfold putD
  by_cases h : (kvs.any fun kv => decide (kv.1 = k)) = true
  · rw [if_pos h, if_pos (by simpa using h), List.map_map]
    apply List.map_congr_left
    intro p hp
    by_cases e : p.1 = k <;> simp [e]
  · rw [if_neg h, if_neg (by simpa using h)]
    simp
theorem val_other {k v j : D} (h : j ≠ k) : ∀ r : List (D × D), ((r.map fun kv => if kv.1 = k then (kv.1, v) else kv).find? fun kv => decide (kv.1 = j)).map (·.2) = (r.find? fun kv => decide (kv.1 = j)).map (·.2)
  | [] => rfl
  | p :: r => by
    rw [List.map_cons, List.find?_cons, List.find?_cons]
    by_cases e : p.1 = k
    · rw [if_pos e]
      have : ¬ p.1 = j := fun z => h (z.symm.trans e)
      simp only [this, decide_false]
      exact val_other h r
    · rw [if_neg e]
      by_cases z : p.1 = j
      · simp [z]
      · simp only [z, decide_false]; exact val_other h r
theorem val_same {k v : D} : ∀ r : List (D × D), (r.any fun kv => decide (kv.1 = k)) = true → ((r.map fun kv => if kv.1 = k then (kv.1, v) else kv).find? fun kv => decide (kv.1 = k)).map (·.2) = some v
  | [], h => by simp at h
  | p :: r, h => by
    rw [List.map_cons, List.find?_cons]
    by_cases e : p.1 = k
    · rw [if_pos e]; simp [e]
    · rw [if_neg e]
      simp only [e, decide_false]
      exact val_same r (by simpa [e] using h)
theorem valD_put {kvs : List (D × D)} {k v j : D} : valD (putD kvs k v) j = if j = k then some v else valD kvs j := by
  unfold putD valD
  by_cases h : (kvs.any fun kv => decide (kv.1 = k)) = true
  · rw [if_pos h]
    by_cases ej : j = k
    · subst ej; rw [if_pos rfl]; exact val_same kvs h
    · rw [if_neg ej]; exact val_other ej kvs
  · rw [if_neg h, List.find?_append]
    by_cases ej : j = k
    · subst ej
      rw [if_pos rfl]
      have : kvs.find? (fun kv => decide (kv.1 = j)) = none := by
        rw [List.find?_eq_none]; intro p hp z; apply h; rw [List.any_eq_true]; exact ⟨p, hp, z⟩
      rw [this]; simp
    · rw [if_neg ej]
      have : ¬ k = j := fun z => ej z.symm
      cases hf : kvs.find? (fun kv => decide (kv.1 = j)) <;> simp [this]
/-- the keys of a table -/
def kys (kvs : List (D × D)) : List D := kvs.map (·.1)
theorem kys_nodup {kvs : List (D × D)} {k v : D} (h : (kys kvs).Nodup) : (kys (putD kvs k v)).Nodup := by
  unfold kys at *
  rw [putD_keys]
  split
  · exact h
  · rename_i hn
    rw [List.nodup_append]
    refine ⟨h, by simp, fun a ha b hb => ?_⟩
    rw [List.mem_singleton] at hb
    subst hb
    exact fun e => hn (e ▸ ha)
theorem kys_put {kvs : List (D × D)} {k v d : D} : d ∈ kys (putD kvs k v) ↔ d ∈ kys kvs ∨ d = k := by
  unfold kys
  rw [putD_keys]
  split
  · rename_i h
    constructor
    · exact .inl
    · rintro (z | rfl)
      · exact z
      · exact h
  · simp
theorem nodup_le {α : Type} [DecidableEq α] : ∀ {l u : List α}, l.Nodup → (∀ x ∈ l, x ∈ u) → l.length ≤ u.length
  | [], _, _, _ => Nat.zero_le _
  | a :: l, u, h, s => by
    have h2 := List.nodup_cons.mp h
    have ha := s a List.mem_cons_self
    have := nodup_le (u := u.erase a) h2.2 fun x hx => (List.mem_erase_of_ne (fun e => h2.1 (by subst e; exact hx))).mpr (s x (List.mem_cons_of_mem _ hx))
    rw [List.length_erase_of_mem ha] at this
    have : 0 < u.length := List.length_pos_of_mem ha
    rw [List.length_cons]; omega
/-- a table whose keys are as P says, of a list of possible keys -/
structure Tb (kvs : List (D × D)) (U : List D) (P : D → Prop) : Prop where
  nd : (kys kvs).Nodup
  mem : ∀ d, d ∈ kys kvs ↔ P d
  sub : ∀ d, P d → d ∈ U
theorem Tb.len {kvs : List (D × D)} {U : List D} {P : D → Prop} (t : Tb kvs U P) : kvs.length ≤ U.length := by
  have := nodup_le t.nd fun x hx => t.sub x ((t.mem x).mp hx)
  unfold kys at this
  rwa [List.length_map] at this
theorem Tb.nil {U : List D} : Tb [] U fun _ => False := ⟨List.nodup_nil, fun d => by simp [kys], fun _ h => h.elim⟩
theorem Tb.put {kvs : List (D × D)} {U : List D} {P : D → Prop} {k v : D} (t : Tb kvs U P) (h : k ∈ U) : Tb (putD kvs k v) U fun d => P d ∨ d = k :=
  ⟨kys_nodup t.nd, fun d => by rw [kys_put, t.mem], fun d hd => hd.elim (t.sub d) fun e => e ▸ h⟩
theorem Tb.congr {kvs : List (D × D)} {U : List D} {P P' : D → Prop} (t : Tb kvs U P) (h : ∀ d, P d ↔ P' d) : Tb kvs U P' := ⟨t.nd, fun d => (t.mem d).trans (h d), fun d hd => t.sub d ((h d).mpr hd)⟩
theorem Tb.isSome {kvs : List (D × D)} {U : List D} {P : D → Prop} (t : Tb kvs U P) (d : D) : (valD kvs d).isSome = true ↔ P d := by
  rw [valD_some, decide_eq_true_eq]; exact t.mem d
theorem keyOk_t {kvs : List (D × D)} {k : D} (hk : tkey k = true) (h : ∀ d ∈ kys kvs, tkey d = true) : keyOk kvs k := .inr ⟨hk, fun p hp => h p.1 (List.mem_map_of_mem hp)⟩
theorem keyOk_f {kvs : List (D × D)} {k : D} (hk : fkey k = true) (h : ∀ d ∈ kys kvs, fkey d = true) : keyOk kvs k := .inl ⟨hk, fun p hp => h p.1 (List.mem_map_of_mem hp)⟩
/-! ### memories -/
theorem SubM.set {M0 M : Mem} {p : Addr} {o : MO} (s : SubM M0 M) (h : M0 p = Option.none) : SubM M0 (mset M p o) := fun a u e => by
  rw [mset_ne (fun z => by subst z; rw [h] at e; cases e)]; exact s a u e
theorem SubM.trans {M0 M1 M2 : Mem} (s : SubM M0 M1) (t : SubM M1 M2) : SubM M0 M2 := fun a o e => t a o (s a o e)
theorem SubM.new {M : Mem} {p : Addr} {o : MO} (h : M p = Option.none) : SubM M (mset M p o) := SubM.refl.set h
theorem SubM.to {M0 M : Mem} {p : Addr} {o : MO} (s : SubM M0 M) (h : M p = some o) : SubM (mset M0 p o) M := fun a u e => by
  by_cases z : a = p
  · subst z; rw [mset_same] at e; rw [← e]; exact h
  · rw [mset_ne z] at e; exact s a u e
theorem drops_of {Q : DK} {d : D} {M : Mem} (q : Q d M) : drops Q d M := ⟨M, .refl, q⟩
theorem drops_to {Q : DK} {d : D} {M M0 : Mem} (s : SubM M0 M) (q : Q d M0) : drops Q d M := ⟨M0, s, q⟩
/-! ### loops -/
theorem loop_inv {stab : Mem → Prop} {t : Tg} {wb : WS} {E : DEnds} {xs : List D} (I : List D → Env → Mem → Prop)
    (turn : ∀ done x rest, xs = done ++ x :: rest → ∀ ρ M, I done ρ M → ∀ N : Env → Mem → Prop, (∀ ρ M, I (done ++ [x]) ρ M → N ρ M) → ∃ ρ0 M0, SubE ρ0 ρ ∧ SubM M0 M ∧ stab M0 ∧ wTg t x ρ0 fun ρ1 => wb { nx := N, ct := N, bk := E.nx, rt := E.rt } ρ1 M0)
    (fin : ∀ ρ M, I xs ρ M → ∃ ρ0 M0, SubE ρ0 ρ ∧ SubM M0 M ∧ stab M0 ∧ E.nx ρ0 M0) : ∀ (ys done : List D), xs = done ++ ys → ∀ ρ M, I done ρ M → loopD stab t wb ys E ρ M
  | [], done, h, ρ, M, hi => by rw [List.append_nil] at h; subst h; exact fin ρ M hi
  | y :: ys, done, h, ρ, M, hi => by
    obtain ⟨ρ0, M0, s1, s2, st, q⟩ := turn done y ys h ρ M hi (loopD stab t wb ys E) fun ρ M hi => loop_inv I turn fin ys (done ++ [y]) (by rw [h]; simp) ρ M hi
    exact ⟨ρ0, M0, s1, s2, st, q⟩
/-- a comprehension whose items and tests are told by functions, and that leaves the memory as it was -/
theorem comp_fn {stab : Mem → Prop} {t : Tg} {ρ : Env} {wt : WT} {we : WE} {M : Mem} {Q : List D → Mem → Prop} (st : stab M) (c : D → Bool) (f : D → D) : ∀ (xs acc : List D),
    (∀ x ∈ xs, wTg t x ρ fun ρ1 => ∀ N : Bool → Mem → Prop, N (c x) M → wt ρ1 M N) → (∀ x ∈ xs, c x = true → wTg t x ρ fun ρ1 => ∀ N : D → Mem → Prop, N (f x) M → we ρ1 M N) →
    acc.length + xs.length ≤ sizeLine → Q (acc ++ (xs.filter c).map f) M → compD stab t ρ wt we xs acc M Q
  | [], acc, _, _, _, q => by simp at q; exact ⟨M, .refl, st, q⟩
  | x :: xs, acc, h1, h2, hz, q => by
    rw [List.length_cons] at hz
    have ht := h1 x List.mem_cons_self
    have r1 : ∀ y ∈ xs, _ := fun y hy => h1 y (List.mem_cons_of_mem _ hy)
    have r2 : ∀ y ∈ xs, _ := fun y hy => h2 y (List.mem_cons_of_mem _ hy)
    refine ⟨M, .refl, st, ?_⟩
    cases hc : c x with
    | false =>
      have go := comp_fn (wt := wt) (we := we) st c f xs acc r1 r2 (by omega) (by simpa [hc] using q)
      cases t with
      | nm i => exact ht _ (by rw [hc, if_neg Bool.false_ne_true]; exact go)
      | tp is => obtain ⟨ds, e, l, k⟩ := ht; exact ⟨ds, e, l, k _ (by rw [hc, if_neg Bool.false_ne_true]; exact go)⟩
    | true =>
      have he := h2 x List.mem_cons_self hc
      have go := comp_fn (wt := wt) (we := we) st c f xs (acc ++ [f x]) r1 r2 (by rw [List.length_append, List.length_singleton]; omega) (by simpa [hc] using q)
      cases t with
      | nm i => exact ht _ (by rw [hc, if_pos rfl]; exact he _ ⟨by omega, go⟩)
      | tp is =>
        obtain ⟨ds, e, l, k⟩ := ht
        obtain ⟨ds2, e2, l2, k2⟩ := he
        obtain rfl : ds = ds2 := by rw [e] at e2; injection e2
        exact ⟨ds, e, l, k _ (by rw [hc, if_pos rfl]; exact k2 _ ⟨by omega, go⟩)⟩
end Fw

set_option Elab.async false
set_option linter.all false
set_option maxRecDepth 100000
set_option maxHeartbeats 4000000
/-! FwSym: the readings, run by simp -/
namespace Fw
open PySem PySem.Spec PyProof.Rows L2
section
variable {ρ : Env} {M : Mem} {Q : DK} {E : DEnds} {i j : Nat} {d e x y : D} {wa wb wc : WE} {f : Bool → Bool}
@[simp] theorem y_var : wVar i ρ M Q = ∃ d, ρ[i]? = some (some d) ∧ Q d M := rfl
@[simp] theorem y_c : wC d ρ M Q = Q d M := rfl
@[simp] theorem y_bin {g : W2} : wBin g wa wb ρ M Q = wa ρ M fun d M1 => wb ρ M1 fun e M2 => g d e M2 Q := rfl
@[simp] theorem y_call {g : WL} {w : WA} : wCall g w ρ M Q = w ρ M fun ds M1 => g ds M1 Q := rfl
@[simp] theorem y_nil {Q : List D → Mem → Prop} : wNil ρ M Q = Q [] M := rfl
@[simp] theorem y_cons {wr : WA} {Q : List D → Mem → Prop} : wCons wa wr ρ M Q = wa ρ M fun d M1 => wr ρ M1 fun ds M2 => Q (d :: ds) M2 := rfl
@[simp] theorem y_tup {w : WA} : wTup w ρ M Q = w ρ M fun ds M1 => ds.length ≤ sizeLine ∧ Q (.tup ds) M1 := rfl
@[simp] theorem y_lst {w : WA} : wLst w ρ M Q = w ρ M fun ds M1 => ds.length ≤ sizeLine ∧ ∀ p, M1 p = none → Q (.ref p) (mset M1 p (.lst ds)) := rfl
@[simp] theorem y_tru {Q : Bool → Mem → Prop} : wTru wa ρ M Q = wa ρ M fun d M1 => ∃ b, truD d M1 = some b ∧ Q b M1 := rfl
@[simp] theorem y_b {Q : Bool → Mem → Prop} : wB wa ρ M Q = wa ρ M fun d M1 => ∃ b, d = .bl b ∧ Q b M1 := rfl
@[simp] theorem y_notT {w : WT} {Q : Bool → Mem → Prop} : wNotT w ρ M Q = w ρ M fun b M1 => Q (!b) M1 := rfl
@[simp] theorem y_andT {a b : WT} {Q : Bool → Mem → Prop} : wAndT a b ρ M Q = a ρ M fun c M1 => if c = true then b ρ M1 Q else Q false M1 := rfl
@[simp] theorem y_orT {a b : WT} {Q : Bool → Mem → Prop} : wOrT a b ρ M Q = a ρ M fun c M1 => if c = true then Q true M1 else b ρ M1 Q := rfl
@[simp] theorem y_notV : wNotV wa ρ M Q = wa ρ M fun d M1 => ∃ b, truD d M1 = some b ∧ Q (.bl (!b)) M1 := rfl
@[simp] theorem y_andV : wAndV wa wb ρ M Q = wa ρ M fun d M1 => ∃ c, truD d M1 = some c ∧ if c = true then wb ρ M1 Q else Q d M1 := rfl
@[simp] theorem y_orV : wOrV wa wb ρ M Q = wa ρ M fun d M1 => ∃ c, truD d M1 = some c ∧ if c = true then Q d M1 else wb ρ M1 Q := rfl
@[simp] theorem y_ifE {c : WT} : wIfE c wa wb ρ M Q = c ρ M fun k M1 => if k = true then wa ρ M1 Q else wb ρ M1 Q := rfl
@[simp] theorem y_neg : wNeg wa ρ M Q = wa ρ M fun d M1 => ∃ i, d = .int i ∧ Q (.int (-i)) M1 := rfl
@[simp] theorem y_chain {g g' : W2} : wChain g g' wa wb wc ρ M Q = wa ρ M fun d M1 => wb ρ M1 fun e M2 => g d e M2 fun z M3 => ∃ b, z = .bl b ∧ (if b = true then wc ρ M3 fun f M4 => g' e f M4 Q else Q (.bl false) M3) := rfl
@[simp] theorem y_isi {T : Ty} : wIsi T wa ρ M Q = wa ρ M fun d M1 => ∃ b, isiD T d M1 = some b ∧ Q (.bl b) M1 := rfl
@[simp] theorem y_sl {wl wh : WO} : wSl wa wl wh ρ M Q = wa ρ M fun d M1 => wl ρ M1 fun l M2 => wh ρ M2 fun u M3 => dSl d l u M3 Q := rfl
@[simp] theorem y_part {Q : Option Int → Mem → Prop} : wPart wa ρ M Q = wa ρ M fun d M1 => ∃ i, d = .int i ∧ Q (some i) M1 := rfl
@[simp] theorem y_nopart {Q : Option Int → Mem → Prop} : wNoPart ρ M Q = Q none M := rfl
@[simp] theorem y_ptn : wPtn wa wb ρ M Q = wa ρ M fun o M1 => ∃ a, o = .str a ∧ wb ρ M1 fun e M2 => ∃ b, e = .str b ∧ (b.length == 0) = false ∧ a.length ≤ sizeLine ∧ Q (.tup [.str (Txt.partition a b).1, .str (Txt.partition a b).2.1, .str (Txt.partition a b).2.2]) M2 := rfl
@[simp] theorem y_app : wApp wa wb ρ M Q = wa ρ M fun o M1 => ∃ a ds0, o = .ref a ∧ M1 a = some (.lst ds0) ∧ wb ρ M1 fun e M2 => ∃ ds, M2 a = some (.lst ds) ∧ ds.length < sizeLine ∧ Q .non (mset M2 a (.lst (ds ++ [e]))) := rfl
@[simp] theorem y_get1 : wGet1 wa wb ρ M Q = wa ρ M fun o M1 => ∃ a kvs0 t0, o = .ref a ∧ M1 a = some (.dict kvs0 t0) ∧ wb ρ M1 fun e M2 => ∃ kvs t, M2 a = some (.dict kvs t) ∧ keyOk kvs e ∧ Q ((valD kvs e).getD .non) M2 := rfl
@[simp] theorem y_dnew : wDnew ρ M Q = ∀ p t, M p = none → Q (.ref p) (mset M p (.dict [] t)) := rfl
@[simp] theorem y_disp1 : wDisp1 wa wb ρ M Q = wa ρ M fun k M1 => wb ρ M1 fun v M2 => fkey k = true ∧ ∀ p t, M2 p = none → Q (.ref p) (mset M2 p (.dict [(k, v)] t)) := rfl
@[simp] theorem y_fld {C : Addr} {n : PySem.Str} : wFld C n wa ρ M Q = wa ρ M fun o M1 => ∃ a fs d, o = .ref a ∧ M1 a = some (.ins C fs) ∧ fs.lookup n = some d ∧ Q d M1 := rfl
@[simp] theorem y_meth {C : Addr} {n : PySem.Str} {sp : DSp} {w : WA} : wMeth C n sp wa w ρ M Q = wa ρ M fun o M1 => ∃ a fs, o = .ref a ∧ M1 a = some (.ins C fs) ∧ fs.lookup n = none ∧ w ρ M1 fun ds M2 => sp (.ref a :: ds) M2 Q := rfl
@[simp] theorem y_make {C : Addr} {sp : DSp} {w : WA} : wMake C sp w ρ M Q = w ρ M fun ds M1 => ∀ x, M1 x = none → sp (.ref x :: ds) (mset M1 x (.ins C [])) fun d M2 => d = .non ∧ Q (.ref x) M2 := rfl
@[simp] theorem y_yes {Q : Bool → Mem → Prop} : wYes ρ M Q = Q true M := rfl
@[simp] theorem y_lc {wi : WI} {t : Tg} {vs : List Nat} {wt : WT} : wLc wi t vs wt wa ρ M Q = wi ρ M fun src M1 => compD src.stab t (wipeE ρ vs) wt wa src.items [] M1 fun acc M2 => ∀ p, M2 p = none → Q (.ref p) (mset M2 p (.lst acc)) := rfl
@[simp] theorem y_it {Q : Src → Mem → Prop} : wIt wa ρ M Q = wa ρ M fun d M1 => withSrc d M1 fun src => Q src M1 := rfl
@[simp] theorem y_next : wNext E ρ M = E.nx ρ M := rfl
@[simp] theorem y_seq {a b : WS} : wSeq a b E ρ M = a { E with nx := b E } ρ M := rfl
@[simp] theorem y_if {c : WT} {a b : WS} : wIf c a b E ρ M = c ρ M fun k M1 => if k = true then a E ρ M1 else b E ρ M1 := rfl
@[simp] theorem y_ret : wRet wa E ρ M = wa ρ M E.rt := rfl
@[simp] theorem y_retN : wRetN E ρ M = E.rt .non M := rfl
@[simp] theorem y_set : wSet i wa E ρ M = wa ρ M fun d M1 => E.nx (ρ.set i (some d)) M1 := rfl
@[simp] theorem y_asg {t : Tg} : wAsg t wa E ρ M = wa ρ M fun d M1 => wTg t d ρ fun ρ' => E.nx ρ' M1 := rfl
@[simp] theorem y_par {w : WA} : wPar i j w E ρ M = w ρ M fun ds M1 => ∃ d e, ds = [d, e] ∧ E.nx ((ρ.set i (some d)).set j (some e)) M1 := rfl
@[simp] theorem y_put : wPut wa wb wc E ρ M = wa ρ M fun v M1 => wb ρ M1 fun o M2 => wc ρ M2 fun i M3 => dSetA o i v M3 fun M4 => E.nx ρ M4 := rfl
@[simp] theorem y_aug {g : W2} : wAug i g wa E ρ M = ∃ d, ρ[i]? = some (some d) ∧ wa ρ M fun e M1 => g d e M1 fun z M2 => E.nx (ρ.set i (some z)) M2 := rfl
@[simp] theorem y_for {wi : WI} {t : Tg} {w : WS} : wFor wi t w E ρ M = wi ρ M fun src M1 => loopD src.stab t w src.items E ρ M1 := rfl
@[simp] theorem y_drop : wDrop wa E ρ M = wa ρ M fun _ M1 => E.nx ρ M1 := rfl
@[simp] theorem y_setfld {C : Addr} {n : PySem.Str} : wSetFld C n wa wb E ρ M = wb ρ M fun d M1 => wa ρ M1 fun o M2 => ∃ a fs, o = .ref a ∧ M2 a = some (.ins C fs) ∧ fs.length < 1000 ∧ E.nx ρ (mset M2 a (.ins C (putFD n d fs))) := rfl
@[simp] theorem y_brk : wBreak E ρ M = E.bk ρ M := rfl
@[simp] theorem y_cont : wCont E ρ M = E.ct ρ M := rfl
@[simp] theorem y_tg1 {Q : Env → Prop} : wTg (.nm i) d ρ Q = Q (ρ.set i (some d)) := rfl
@[simp] theorem y_tgs {is : List Nat} {Q : Env → Prop} : wTg (.tp is) d ρ Q = ∃ ds, d = .tup ds ∧ ds.length = is.length ∧ Q (setL is ds ρ) := rfl
@[simp] theorem y_setL0 {ds : List D} : setL [] ds ρ = ρ := by cases ds <;> rfl
@[simp] theorem y_setL1 {is : List Nat} {ds : List D} : setL (i :: is) (d :: ds) ρ = setL is ds (ρ.set i (some d)) := rfl
@[simp] theorem y_wipe0 : wipeE ρ [] = ρ := rfl
@[simp] theorem y_wipe1 {vs : List Nat} : wipeE ρ (i :: vs) = (wipeE ρ vs).set i none := rfl
@[simp] theorem y_ends1 {Q : DK} : (ends Q).nx ρ M = drops Q .non M := rfl
@[simp] theorem y_ends2 {Q : DK} : (ends Q).rt = drops Q := rfl
@[simp] theorem y_start {n : Nat} {ds : List D} : startD n ds = ds.map some ++ List.replicate (n - ds.length) none := rfl
/-! operators -/
@[simp] theorem y_len1 {z : PySem.Str} : dLen [.str z] M Q = (z.length ≤ sizeLine ∧ Q (.int z.length) M) := rfl
@[simp] theorem y_len2 {ds : List D} : dLen [.tup ds] M Q = Q (.int ds.length) M := rfl
theorem y_lenL {a : Addr} {ds : List D} (h : M a = some (.lst ds)) : dLen [.ref a] M Q = Q (.int ds.length) M := by unfold dLen; simp only [h]
theorem y_lenR {a : Addr} {ds : List D} (h : M a = some (.rl ds)) : dLen [.ref a] M Q = Q (.int ds.length) M := by unfold dLen; simp only [h]
theorem y_lenD {a : Addr} {kvs : List (D × D)} {t : Tk} (h : M a = some (.dict kvs t)) : dLen [.ref a] M Q = Q (.int kvs.length) M := by unfold dLen; simp only [h]
@[simp] theorem y_eqI {a b : Int} : dEq f (.int a) (.int b) M Q = Q (.bl (f (decide (a = b)))) M := rfl
@[simp] theorem y_eqS {a b : PySem.Str} : dEq f (.str a) (.str b) M Q = Q (.bl (f (decide (a = b)))) M := rfl
@[simp] theorem y_eqB {a b : Bool} : dEq f (.bl a) (.bl b) M Q = Q (.bl (f (decide (a = b)))) M := rfl
@[simp] theorem y_lt {a b : Int} : dLt (.int a) (.int b) M Q = Q (.bl (decide (a < b))) M := rfl
@[simp] theorem y_le {a b : Int} : dLe (.int a) (.int b) M Q = Q (.bl (decide (a ≤ b))) M := rfl
@[simp] theorem y_gt {a b : Int} : dGt (.int a) (.int b) M Q = Q (.bl (decide (b < a))) M := rfl
@[simp] theorem y_ge {a b : Int} : dGe (.int a) (.int b) M Q = Q (.bl (decide (b ≤ a))) M := rfl
@[simp] theorem y_add {a b : Int} : dAdd (.int a) (.int b) M Q = Q (.int (a + b)) M := rfl
@[simp] theorem y_addS {a b : PySem.Str} : dAdd (.str a) (.str b) M Q = (a.length + b.length ≤ sizeLine ∧ Q (.str (a ++ b)) M) := rfl
@[simp] theorem y_sub {a b : Int} : dSub (.int a) (.int b) M Q = Q (.int (a - b)) M := rfl
@[simp] theorem y_mul {a b : Int} : dMul (.int a) (.int b) M Q = (CMul a b ∧ Q (.int (a * b)) M) := rfl
@[simp] theorem y_fdiv {a b : Int} : dFdiv (.int a) (.int b) M Q = (CDiv a b ∧ Q (.int (a / b)) M) := rfl
@[simp] theorem y_mod {a b : Int} : dMod (.int a) (.int b) M Q = (0 < b ∧ Q (.int (a % b)) M) := rfl
@[simp] theorem y_pow {a b : Int} : dPow (.int a) (.int b) M Q = (CPow a b ∧ Q (.int (a ^ b.toNat)) M) := rfl
@[simp] theorem y_iadd {a b : Int} : dIAdd (.int a) (.int b) M Q = Q (.int (a + b)) M := rfl
@[simp] theorem y_isN : dIs f d .non M Q = Q (.bl (f (isN d))) M := rfl
@[simp] theorem y_isB {a b : Bool} : dIs f (.bl a) (.bl b) M Q = Q (.bl (f (decide (a = b)))) M := rfl
@[simp] theorem y_ixT {ds : List D} {k : Int} : dIxA (.tup ds) (.int k) M Q = ∃ d, L2.atI ds k = some d ∧ Q d M := rfl
@[simp] theorem y_ixS {z : PySem.Str} {k : Int} : dIxA (.str z) (.int k) M Q = (z.length ≤ sizeLine ∧ ∃ c, L2.atI z.cps.toList k = some c ∧ Q (.str ⟨#[c]⟩) M) := rfl
theorem y_ixL {a : Addr} {ds : List D} {k : Int} (h : M a = some (.lst ds)) : dIxA (.ref a) (.int k) M Q = ∃ d, L2.atI ds k = some d ∧ Q d M := by unfold dIxA; simp only [h]; unfold dIx; simp only [h]
theorem y_ixR {a : Addr} {ds : List D} {k : Int} (h : M a = some (.rl ds)) : dIxA (.ref a) (.int k) M Q = ∃ d, L2.atI ds k = some d ∧ Q d M := by unfold dIxA; simp only [h]; unfold dIx; simp only [h]
theorem y_ixD {a : Addr} {kvs : List (D × D)} {t : Tk} (h : M a = some (.dict kvs t)) : dIxA (.ref a) d M Q = (keyOk kvs d ∧ ∃ e, valD kvs d = some e ∧ Q e M) := by unfold dIxA; simp only [h]
@[simp] theorem y_slT {ds : List D} {l h : Option Int} : dSl (.tup ds) l h M Q = Q (.tup (cutD ds l h)) M := rfl
@[simp] theorem y_slS {z : PySem.Str} {l h : Option Int} : dSl (.str z) l h M Q = (z.length ≤ sizeLine ∧ Q (.str (cutS z l h)) M) := rfl
@[simp] theorem y_inT {ds : List D} : dIn f d (.tup ds) M Q = (flatD d = true ∧ ds.all flatD = true ∧ Q (.bl (f (decide (d ∈ ds)))) M) := rfl
@[simp] theorem y_inS {z : PySem.Str} : dIn f d (.str z) M Q = ∃ c, d = .str ⟨#[c]⟩ ∧ Q (.bl (f (decide (c ∈ z.cps.toList)))) M := rfl
theorem y_inD {a : Addr} {kvs : List (D × D)} {t : Tk} (h : M a = some (.dict kvs t)) : dIn f d (.ref a) M Q = (keyOk kvs d ∧ Q (.bl (f (valD kvs d).isSome)) M) := by unfold dIn; simp only [h]
theorem y_inL {a : Addr} {ds : List D} (h : M a = some (.lst ds)) : dIn f d (.ref a) M Q = InL f d ds M Q := by unfold dIn; simp only [h]
theorem y_putD {a : Addr} {kvs : List (D × D)} {t : Tk} {Q : Mem → Prop} (h : M a = some (.dict kvs t)) : dSetA (.ref a) d e M Q = (keyOk kvs d ∧ kvs.length < sizeLine ∧ ∀ t, Q (mset M a (.dict (putD kvs d e) t))) := by unfold dSetA; simp only [h]
theorem y_putL {a : Addr} {ds : List D} {Q : Mem → Prop} (h : M a = some (.lst ds)) : dSetA (.ref a) d e M Q = ∃ k j, d = .int k ∧ ixN ds.length k = some j ∧ Q (mset M a (.lst (ds.set j e))) := by unfold dSetA; simp only [h]
@[simp] theorem y_srcT {ds : List D} {k : Src → Prop} : withSrc (.tup ds) M k = k ⟨ds, fun _ => True⟩ := rfl
@[simp] theorem y_srcS {z : PySem.Str} {k : Src → Prop} : withSrc (.str z) M k = k ⟨signs z, fun _ => True⟩ := rfl
theorem y_srcL {a : Addr} {ds : List D} {k : Src → Prop} (h : M a = some (.lst ds)) : withSrc (.ref a) M k = k ⟨ds, fun M => M a = some (.lst ds)⟩ := by unfold withSrc; simp only [h]
theorem y_srcD {a : Addr} {kvs : List (D × D)} {t : Tk} {k : Src → Prop} (h : M a = some (.dict kvs t)) : withSrc (.ref a) M k = k ⟨kvs.map (·.1), stabD a kvs t⟩ := by unfold withSrc; simp only [h]
theorem y_tupL {a : Addr} {ds : List D} (h : M a = some (.lst ds)) : dTuple [.ref a] M Q = Q (.tup ds) M := by unfold dTuple; simp only [h]
@[simp] theorem y_tupT {ds : List D} : dTuple [.tup ds] M Q = Q (.tup ds) M := rfl
theorem y_all {a : Addr} {bs : List Bool} {g : List Bool → Bool} (h : M a = some (.lst (bs.map D.bl))) (q : Q (.bl (g bs)) M) : dAll g [.ref a] M Q := by unfold dAll; simp only [h]; exact ⟨bs, rfl, q⟩
@[simp] theorem y_r1 {Q : Src → Mem → Prop} : wRange1 wa ρ M Q = wa ρ M fun d M1 => match d with
  | .int j => RgOk2 0 j ∧ Q ⟨ranged 0 j.toNat, fun _ => True⟩ M1
  | _ => False := rfl
@[simp] theorem y_r2 {Q : Src → Mem → Prop} : wRange2 wa wb ρ M Q = wa ρ M fun d M1 => wb ρ M1 fun e M2 => match d with
  | .int i => match e with
    | .int j => RgOk2 i j ∧ Q ⟨ranged i (j - i).toNat, fun _ => True⟩ M2
    | _ => False
  | _ => False := rfl
@[simp] theorem y_trB {b : Bool} : truD (.bl b) M = some b := rfl
@[simp] theorem y_trN : truD .non M = some false := rfl
@[simp] theorem y_isi1 {z : PySem.Str} {T : Ty} : isiD T (.str z) M = some (tyLe "str" T) := rfl
@[simp] theorem y_isi2 {z : Int} {T : Ty} : isiD T (.int z) M = some (tyLe "int" T) := rfl
@[simp] theorem y_isi3 {z : List D} {T : Ty} : isiD T (.tup z) M = some (tyLe "tuple" T) := rfl
@[simp] theorem y_isi4 {z : Bool} {T : Ty} : isiD T (.bl z) M = some (tyLe "bool" T) := rfl
@[simp] theorem y_isi5 {T : Ty} : isiD T .non M = some (tyLe "NoneType" T) := rfl
end
theorem ty1 : tyLe "str" .str = true := rfl
@[simp] theorem ty_lit (t : String) (T : Ty) : tyLe t T = (t == T.nm || (t == "bool" && T.nm == "int")) := rfl
@[simp] theorem ty_nm1 : Ty.nm .str = "str" := rfl
@[simp] theorem ty_nm2 : Ty.nm .int = "int" := rfl
@[simp] theorem ty_nm3 : Ty.nm .bool = "bool" := rfl
@[simp] theorem ty_nm4 : Ty.nm .tuple = "tuple" := rfl
@[simp] theorem ty_nm5 : Ty.nm .list = "list" := rfl
@[simp] theorem ty_nm6 : Ty.nm .dict = "dict" := rfl
@[simp ↓] theorem ex_bl {x : Bool} {P : Bool → Prop} : (∃ b, D.bl x = D.bl b ∧ P b) = P x := propext ⟨fun ⟨_, e, p⟩ => by cases e; exact p, fun p => ⟨x, rfl, p⟩⟩
@[simp ↓] theorem ex_tr {x : Bool} {M : Mem} {P : Bool → Prop} : (∃ b, truD (D.bl x) M = some b ∧ P b) = P x := propext ⟨fun ⟨_, e, p⟩ => by cases e; exact p, fun p => ⟨x, rfl, p⟩⟩
@[simp ↓] theorem ex_some {x : Bool} {P : Bool → Prop} : (∃ b, some x = some b ∧ P b) = P x := propext ⟨fun ⟨_, e, p⟩ => by cases e; exact p, fun p => ⟨x, rfl, p⟩⟩
theorem msame {M : Mem} {a : Addr} {o : MO} : mset M a o a = some o := mset_same
end Fw

set_option Elab.async false
set_option linter.all false
set_option maxRecDepth 100000
set_option maxHeartbeats 4000000
/-! FwData: shared plain data: lines, kinds; comprehensions over encoded lists -/
namespace Fw
open PySem PySem.Spec PyProof.Rows L2
theorem comp_map {α : Type} {stab : Mem → Prop} {t : Tg} {ρ : Env} {wt : WT} {we : WE} {M : Mem} {Q : List D → Mem → Prop} (enc : α → D) (c : α → Bool) (g : α → D) (st : stab M) : ∀ (xs : List α) (acc : List D),
    (∀ a ∈ xs, wTg t (enc a) ρ fun ρ1 => ∀ N : Bool → Mem → Prop, N (c a) M → wt ρ1 M N) → (∀ a ∈ xs, c a = true → wTg t (enc a) ρ fun ρ1 => ∀ N : D → Mem → Prop, N (g a) M → we ρ1 M N) →
    acc.length + xs.length ≤ sizeLine → Q (acc ++ (xs.filter c).map g) M → compD stab t ρ wt we (xs.map enc) acc M Q
  | [], acc, _, _, _, q => by simp at q; exact ⟨M, .refl, st, q⟩
  | x :: xs, acc, h1, h2, hz, q => by
    rw [List.length_cons] at hz
    have ht := h1 x List.mem_cons_self
    have r1 : ∀ y ∈ xs, _ := fun y hy => h1 y (List.mem_cons_of_mem _ hy)
    have r2 : ∀ y ∈ xs, _ := fun y hy => h2 y (List.mem_cons_of_mem _ hy)
    refine ⟨M, .refl, st, ?_⟩
    cases hc : c x with
    | false =>
      have go := comp_map (wt := wt) (we := we) enc c g st xs acc r1 r2 (by omega) (by simpa [hc] using q)
      cases t with
      | nm i => exact ht _ (by rw [hc, if_neg Bool.false_ne_true]; exact go)
      | tp is => obtain ⟨ds, e, l, k⟩ := ht; exact ⟨ds, e, l, k _ (by rw [hc, if_neg Bool.false_ne_true]; exact go)⟩
    | true =>
      have he := h2 x List.mem_cons_self hc
      have go := comp_map (wt := wt) (we := we) enc c g st xs (acc ++ [g x]) r1 r2 (by rw [List.length_append, List.length_singleton]; omega) (by simpa [hc] using q)
      cases t with
      | nm i => exact ht _ (by rw [hc, if_pos rfl]; exact he _ ⟨by omega, go⟩)
      | tp is =>
        obtain ⟨ds, e, l, k⟩ := ht
        obtain ⟨ds2, e2, l2, k2⟩ := he
        obtain rfl : ds = ds2 := by rw [e] at e2; injection e2
        exact ⟨ds, e, l, k _ (by rw [hc, if_pos rfl]; exact k2 _ ⟨by omega, go⟩)⟩
/-- without a test, one name -/
theorem comp_all {α : Type} {stab : Mem → Prop} {i : Nat} {ρ : Env} {we : WE} {M : Mem} {Q : List D → Mem → Prop} (enc : α → D) (g : α → D) {xs : List α} (st : stab M)
    (h : ∀ a ∈ xs, ∀ N : D → Mem → Prop, N (g a) M → we (ρ.set i (some (enc a))) M N) (hz : xs.length ≤ sizeLine) (q : Q (xs.map g) M) : compD stab (.nm i) ρ wYes we (xs.map enc) [] M Q :=
  comp_map enc (fun _ => true) g st xs [] (fun a ha N n => n) (fun a ha _ => h a ha) (by simpa using hz) (by rw [List.nil_append, List.filter_eq_self.mpr fun _ _ => rfl]; exact q)
/-- with a test, one name -/
theorem comp_if {α : Type} {stab : Mem → Prop} {i : Nat} {ρ : Env} {wt : WT} {we : WE} {M : Mem} {Q : List D → Mem → Prop} (enc : α → D) (c : α → Bool) (g : α → D) {xs : List α} (st : stab M)
    (h1 : ∀ a ∈ xs, ∀ N : Bool → Mem → Prop, N (c a) M → wt (ρ.set i (some (enc a))) M N) (h : ∀ a ∈ xs, c a = true → ∀ N : D → Mem → Prop, N (g a) M → we (ρ.set i (some (enc a))) M N) (hz : xs.length ≤ sizeLine) (q : Q ((xs.filter c).map g) M) : compD stab (.nm i) ρ wt we (xs.map enc) [] M Q :=
  comp_map enc c g st xs [] (fun a ha => h1 a ha) (fun a ha hc => h a ha hc) (by simpa using hz) (by simpa using q)
/-- a comprehension with an invariant -/
theorem comp_inv {stab : Mem → Prop} {t : Tg} {ρ : Env} {wt : WT} {we : WE} {Q : List D → Mem → Prop} {xs : List D} (I : List D → List D → Mem → Prop)
    (turn : ∀ done x rest acc M, xs = done ++ x :: rest → I done acc M → ∃ M0, SubM M0 M ∧ stab M0 ∧ wTg t x ρ fun ρ1 => wt ρ1 M0 fun b M1 => if b = true then ∀ N : D → Mem → Prop, (∀ d M2, I (done ++ [x]) (acc ++ [d]) M2 → acc.length < sizeLine ∧ N d M2) → we ρ1 M1 N else I (done ++ [x]) acc M1)
    (fin : ∀ acc M, I xs acc M → ∃ M0, SubM M0 M ∧ stab M0 ∧ Q acc M0) (mono : ∀ ρ1 M0 (P P' : Bool → Mem → Prop), (∀ b M, P b M → P' b M) → wt ρ1 M0 P → wt ρ1 M0 P') : ∀ (ys done acc : List D) (M : Mem), xs = done ++ ys → I done acc M → acc.length ≤ done.length → xs.length ≤ sizeLine → compD stab t ρ wt we ys acc M Q
  | [], done, acc, M, h, hi, _, _ => by rw [List.append_nil] at h; subst h; exact fin acc M hi
  | y :: ys, done, acc, M, h, hi, hl, hz => by
    obtain ⟨M0, s, st, q⟩ := turn done y ys acc M h hi
    refine ⟨M0, s, st, ?_⟩
    have hz' : acc.length < sizeLine := by
      have : xs.length = done.length + (ys.length + 1) := by rw [h]; simp
      omega
    have ih := comp_inv I turn fin mono ys (done ++ [y])
    have body : ∀ ρ1, (wt ρ1 M0 fun b M1 => if b = true then ∀ N : D → Mem → Prop, (∀ d M2, I (done ++ [y]) (acc ++ [d]) M2 → acc.length < sizeLine ∧ N d M2) → we ρ1 M1 N else I (done ++ [y]) acc M1) → wt ρ1 M0 fun b M1 => if b = true then we ρ1 M1 fun d M2 => acc.length < sizeLine ∧ compD stab t ρ wt we ys (acc ++ [d]) M2 Q else compD stab t ρ wt we ys acc M1 Q := fun ρ1 => mono ρ1 M0 _ _ fun b M1 p => by
      cases b with
      | true =>
        rw [if_pos rfl] at p ⊢
        exact p _ fun d M2 hI => ⟨hz', hz', ih (acc ++ [d]) M2 (by rw [h]; simp) hI (by simp; omega) hz⟩
      | false =>
        rw [if_neg Bool.false_ne_true] at p ⊢
        exact ih acc M1 (by rw [h]; simp) p (by simp; omega) hz
    cases t with
    | nm i => exact body _ q
    | tp is => obtain ⟨ds, e, l, k⟩ := q; exact ⟨ds, e, l, body _ k⟩

theorem loop_map' {α : Type} {stab : Mem → Prop} {t : Tg} {wb : WS} {E : DEnds} {xs : List α} (enc : α → D) (I : List α → Env → Mem → Prop)
    (turn : ∀ done x rest, xs = done ++ x :: rest → ∀ ρ M, I done ρ M → ∀ N : Env → Mem → Prop, (∀ ρ M, I (done ++ [x]) ρ M → N ρ M) → ∃ ρ0 M0, SubE ρ0 ρ ∧ SubM M0 M ∧ stab M0 ∧ wTg t (enc x) ρ0 fun ρ1 => wb { nx := N, ct := N, bk := E.nx, rt := E.rt } ρ1 M0)
    (fin : ∀ ρ M, I xs ρ M → ∃ ρ0 M0, SubE ρ0 ρ ∧ SubM M0 M ∧ stab M0 ∧ E.nx ρ0 M0) : ∀ (ys done : List α), xs = done ++ ys → ∀ ρ M, I done ρ M → loopD stab t wb (ys.map enc) E ρ M
  | [], done, h, ρ, M, hi => by rw [List.append_nil] at h; subst h; exact fin ρ M hi
  | y :: ys, done, h, ρ, M, hi => by
    obtain ⟨ρ0, M0, s1, s2, st, q⟩ := turn done y ys h ρ M hi (loopD stab t wb (ys.map enc) E) fun ρ M hi => loop_map' enc I turn fin ys (done ++ [y]) (by rw [h]; simp) ρ M hi
    exact ⟨ρ0, M0, s1, s2, st, q⟩
/-- a loop over a list of encoded things, by what holds behind those that are done -/
theorem loop_map {α : Type} {stab : Mem → Prop} {t : Tg} {wb : WS} {E : DEnds} {xs : List α} (enc : α → D) (I : List α → Env → Mem → Prop) {ρ : Env} {M : Mem} (h0 : I [] ρ M)
    (turn : ∀ done x rest, xs = done ++ x :: rest → ∀ ρ M, I done ρ M → ∀ N : Env → Mem → Prop, (∀ ρ M, I (done ++ [x]) ρ M → N ρ M) → ∃ ρ0 M0, SubE ρ0 ρ ∧ SubM M0 M ∧ stab M0 ∧ wTg t (enc x) ρ0 fun ρ1 => wb { nx := N, ct := N, bk := E.nx, rt := E.rt } ρ1 M0)
    (fin : ∀ ρ M, I xs ρ M → ∃ ρ0 M0, SubE ρ0 ρ ∧ SubM M0 M ∧ stab M0 ∧ E.nx ρ0 M0) : loopD stab t wb (xs.map enc) E ρ M := loop_map' enc I turn fin xs [] rfl ρ M h0
theorem loop_go {stab : Mem → Prop} {t : Tg} {wb : WS} {E : DEnds} {xs : List D} (I : List D → Env → Mem → Prop) {ρ : Env} {M : Mem} (h0 : I [] ρ M)
    (turn : ∀ done x rest, xs = done ++ x :: rest → ∀ ρ M, I done ρ M → ∀ N : Env → Mem → Prop, (∀ ρ M, I (done ++ [x]) ρ M → N ρ M) → ∃ ρ0 M0, SubE ρ0 ρ ∧ SubM M0 M ∧ stab M0 ∧ wTg t x ρ0 fun ρ1 => wb { nx := N, ct := N, bk := E.nx, rt := E.rt } ρ1 M0)
    (fin : ∀ ρ M, I xs ρ M → ∃ ρ0 M0, SubE ρ0 ρ ∧ SubM M0 M ∧ stab M0 ∧ E.nx ρ0 M0) : loopD stab t wb xs E ρ M := loop_inv (xs := xs) I turn fin xs [] rfl ρ M h0
/-- a loop over range(lo, lo + n) -/
theorem loop_range {stab : Mem → Prop} {t : Tg} {wb : WS} {E : DEnds} {lo n : Nat} (I : Nat → Env → Mem → Prop) {ρ : Env} {M : Mem} (h0 : I 0 ρ M)
    (turn : ∀ i, i < n → ∀ ρ M, I i ρ M → ∀ N : Env → Mem → Prop, (∀ ρ M, I (i + 1) ρ M → N ρ M) → ∃ ρ0 M0, SubE ρ0 ρ ∧ SubM M0 M ∧ stab M0 ∧ wTg t (.int ((lo + i : Nat) : Int)) ρ0 fun ρ1 => wb { nx := N, ct := N, bk := E.nx, rt := E.rt } ρ1 M0)
    (fin : ∀ ρ M, I n ρ M → ∃ ρ0 M0, SubE ρ0 ρ ∧ SubM M0 M ∧ stab M0 ∧ E.nx ρ0 M0) : loopD stab t wb (ranged (lo : Int) n) E ρ M := by
  unfold ranged
  refine loop_map (fun i : Nat => D.int ((lo : Int) + (i : Int))) (fun done ρ M => I done.length ρ M) h0 (fun done x rest hx ρ M hi N hN => ?_) (fun ρ M hi => fin ρ M (by simpa using hi))
  have hl : done.length = x := by
    have h1 : (List.range n)[done.length]? = some x := by rw [hx]; simp
    rw [List.getElem?_range (by
      have := congrArg List.length hx
      simp at this
      omega)] at h1
    simpa using h1
  have hlt : x < n := by
    have := congrArg List.length hx
    simp at this
    omega
  subst hl
  have := turn done.length hlt ρ M hi N fun ρ M h => hN ρ M (by simpa using h)
  simpa using this

/-! ### lines -/
abbrev Line := List Int
def encL (l : Line) : D := .tup (l.map D.int)
theorem encL_inj {l m : Line} : encL l = encL m ↔ l = m := by
  unfold encL
  constructor
  · intro h
    injection h with h
    have : Function.Injective D.int := fun a b e => by injection e
    exact List.map_inj_right (fun a b e => this e) |>.mp h
  · rintro rfl; rfl
theorem ints_cl : ∀ l : Line, D.cls (l.map D.int) = true
  | [] => by simp [D.cls]
  | i :: l => by simp [D.cls, D.cl, ints_cl l]
theorem ints_dep : ∀ l : Line, D.deps (l.map D.int) = 0
  | [] => by simp [D.deps]
  | i :: l => by simp [D.deps, D.dep, ints_dep l]
theorem encL_cl (l : Line) : (encL l).cl = true := by simp [encL, D.cl, ints_cl]
theorem encL_dep (l : Line) : (encL l).dep = 1 := by simp [encL, D.dep, ints_dep]
mutual
theorem D.nk_cl : ∀ d : D, d.cl = true → ∃ k, d.nk = some k ∧ k.depth = d.dep
  | .non, _ => ⟨.none, by simp [D.nk], by simp [NestedKey.depth, D.dep]⟩
  | .int i, _ => ⟨.num i, by simp [D.nk], by simp [NestedKey.depth, D.dep]⟩
  | .str s, _ => ⟨.text s, by simp [D.nk], by simp [NestedKey.depth, D.dep]⟩
  | .bl b, h => by simp [D.cl] at h
  | .ref b, h => by simp [D.cl] at h
  | .tup ds, h => by
    obtain ⟨ks, e, d⟩ := D.nks_cl ds (by simpa [D.cl] using h)
    exact ⟨.tup ks, by simp [D.nk, e], by simp [NestedKey.depth, D.dep, d]⟩
theorem D.nks_cl : ∀ ds : List D, D.cls ds = true → ∃ ks, D.nks ds = some ks ∧ NestedKey.depthAll ks = D.deps ds
  | [], _ => ⟨[], by simp [D.nks], by simp [NestedKey.depthAll, D.deps]⟩
  | x :: xs, h => by
    simp only [D.cls, Bool.and_eq_true] at h
    obtain ⟨k, e, d⟩ := D.nk_cl x h.1
    obtain ⟨ks, e2, d2⟩ := D.nks_cl xs h.2
    exact ⟨k :: ks, by simp [D.nks, e, e2], by simp [NestedKey.depthAll, D.deps, d, d2]⟩
end
theorem tkey_cl {ds : List D} (h : (D.tup ds).cl = true) (hd : (D.tup ds).dep ≤ 8) : tkey (.tup ds) = true := by
  obtain ⟨ks, e, d⟩ := D.nks_cl ds (by simpa [D.cl] using h)
  unfold tkey
  simp only [e, decide_eq_true_eq, NestedKey.depth, d]
  simpa [D.dep] using hd
theorem encL_t (l : Line) : tkey (encL l) = true := tkey_cl (encL_cl l) (by rw [show (D.tup (l.map D.int)).dep = 1 from encL_dep l]; decide)
/-! slices -/
theorem cut_to {xs : List D} {n : Nat} : cutD xs none (some (n : Int)) = xs.take n := by
  unfold cutD
  rw [HT.sIx_none, HT.sIx_nat, List.drop_zero, Nat.sub_zero]
  by_cases h : n ≤ xs.length
  · rw [Nat.min_eq_left h]
  · rw [Nat.min_eq_right (by omega), List.take_length, List.take_of_length_le (by omega)]
theorem cut_from {xs : List D} {n : Nat} : cutD xs (some (n : Int)) none = xs.drop n := by
  unfold cutD
  rw [HT.sIx_none, HT.sIx_nat]
  by_cases h : n ≤ xs.length
  · rw [Nat.min_eq_left h, List.take_of_length_le (by rw [List.length_drop]; omega)]
  · rw [Nat.min_eq_right (by omega), List.drop_length, List.drop_of_length_le (by omega)]; simp
theorem cut_two {xs : List D} {n m : Nat} : cutD xs (some (n : Int)) (some (m : Int)) = (xs.take m).drop n := by
  unfold cutD
  rw [HT.sIx_nat, HT.sIx_nat]
  rw [List.drop_take]
  by_cases h : n ≤ xs.length
  · rw [Nat.min_eq_left h]
    by_cases h2 : m ≤ xs.length
    · rw [Nat.min_eq_left h2]
    · rw [Nat.min_eq_right (by omega), List.take_of_length_le (by rw [List.length_drop]; omega), List.take_of_length_le (by rw [List.length_drop]; omega)]
  · rw [Nat.min_eq_right (by omega : xs.length ≤ n), List.drop_length, List.drop_of_length_le (by omega)]; simp
theorem map_take {l : Line} {n : Nat} : (l.map D.int).take n = (l.take n).map D.int := (List.map_take).symm
theorem map_drop {l : Line} {n : Nat} : (l.map D.int).drop n = (l.drop n).map D.int := (List.map_drop).symm
theorem enc_take {l : Line} {n : Nat} : D.tup (cutD (l.map D.int) none (some (n : Int))) = encL (l.take n) := by rw [cut_to, map_take]; rfl
theorem enc_drop {l : Line} {n : Nat} : D.tup (cutD (l.map D.int) (some (n : Int)) none) = encL (l.drop n) := by rw [cut_from, map_drop]; rfl
theorem enc_cut {l : Line} {n m : Nat} : D.tup (cutD (l.map D.int) (some (n : Int)) (some (m : Int))) = encL ((l.take m).drop n) := by rw [cut_two, map_take, map_drop]; rfl
section
variable {l : Line} {n m : Nat} {M : Mem} {Q : DK}
@[simp] theorem y_slL1 : dSl (encL l) none (some (n : Int)) M Q = Q (encL (l.take n)) M := by rw [← enc_take]; rfl
@[simp] theorem y_slL2 : dSl (encL l) (some (n : Int)) none M Q = Q (encL (l.drop n)) M := by rw [← enc_drop]; rfl
@[simp] theorem y_slL3 : dSl (encL l) (some (n : Int)) (some (m : Int)) M Q = Q (encL ((l.take m).drop n)) M := by rw [← enc_cut]; rfl
@[simp] theorem y_slL4 : dSl (encL l) none (some 1) M Q = Q (encL (l.take 1)) M := y_slL1 (n := 1)
@[simp] theorem y_slL5 : dSl (encL l) (some 1) none M Q = Q (encL (l.drop 1)) M := y_slL2 (n := 1)
@[simp] theorem y_lenL' : dLen [encL l] M Q = Q (.int l.length) M := by show Q (.int ((l.map D.int).length : Nat)) M = _; rw [List.length_map]
@[simp] theorem y_srcL' {k : Src → Prop} : withSrc (encL l) M k = k ⟨l.map D.int, fun _ => True⟩ := rfl
@[simp] theorem y_isiL {T : Ty} : isiD T (encL l) M = some (tyLe "tuple" T) := rfl
theorem y_eqL {f : Bool → Bool} {l m : Line} (q : Q (.bl (f (decide (l = m)))) M) : dEq f (encL l) (encL m) M Q := dEq_cl (encL_cl l) (encL_cl m) (by rw [encL_dep]; decide) (by rw [encL_dep]; decide) (by rw [show decide (encL l = encL m) = decide (l = m) from decide_eq_decide.mpr encL_inj]; exact q)
end
end Fw

set_option Elab.async false
set_option linter.all false
set_option maxRecDepth 100000
set_option maxHeartbeats 4000000
/-! FwFill: loops that fill tables -/
namespace Fw
open PySem PySem.Spec PyProof.Rows L2
theorem kysLen {kvs : List (D × D)} : (kys kvs).length = kvs.length := by unfold kys; rw [List.length_map]
theorem szHun : 100000 < sizeLine := by rw [sizeLine_eq]; decide
/-! tables of keys of any kind -/
structure KT {α : Type} (enc : α → D) (kvs : List (D × D)) (S : α → Prop) : Prop where
  nd : (kys kvs).Nodup
  mem : ∀ d, d ∈ kys kvs ↔ ∃ l, S l ∧ d = enc l
structure EncOk {α : Type} (enc : α → D) : Prop where
  inj : ∀ a b, enc a = enc b → a = b
  key : ∀ a, tkey (enc a) = true
section
variable {α : Type} {enc : α → D} {kvs : List (D × D)} {S S' : α → Prop}
theorem KT.nil : KT enc [] fun _ => False := ⟨List.nodup_nil, fun d => by simp [kys]⟩
theorem KT.put {l : α} {v : D} (t : KT enc kvs S) : KT enc (putD kvs (enc l) v) fun m => S m ∨ m = l :=
  ⟨kys_nodup t.nd, fun d => by
    rw [kys_put, t.mem]
    constructor
    · rintro (⟨m, h, rfl⟩ | rfl)
      · exact ⟨m, .inl h, rfl⟩
      · exact ⟨l, .inr rfl, rfl⟩
    · rintro ⟨m, h | rfl, rfl⟩
      · exact .inl ⟨m, h, rfl⟩
      · exact .inr rfl⟩
theorem KT.congr (t : KT enc kvs S) (h : ∀ l, S l ↔ S' l) : KT enc kvs S' := ⟨t.nd, fun d => by rw [t.mem]; exact ⟨fun ⟨l, a, b⟩ => ⟨l, (h l).mp a, b⟩, fun ⟨l, a, b⟩ => ⟨l, (h l).mpr a, b⟩⟩⟩
theorem KT.len (t : KT enc kvs S) {U : List α} (h : ∀ l, S l → l ∈ U) : kvs.length ≤ U.length := by
  rw [← kysLen, ← List.length_map (f := enc) (as := U)]
  exact nodup_le t.nd fun d hd => by
    obtain ⟨l, hl, rfl⟩ := (t.mem d).mp hd
    exact List.mem_map_of_mem (h l hl)
theorem KT.ok (e : EncOk enc) (t : KT enc kvs S) (l : α) : keyOk kvs (enc l) := keyOk_t (e.key l) fun d hd => by
  obtain ⟨m, _, rfl⟩ := (t.mem d).mp hd
  exact e.key m
theorem KT.has (e : EncOk enc) (t : KT enc kvs S) (l : α) : (valD kvs (enc l)).isSome = true ↔ S l := by
  rw [valD_some, decide_eq_true_eq]
  show enc l ∈ kys kvs ↔ _
  rw [t.mem]
  exact ⟨fun ⟨m, h, q⟩ => (e.inj _ _ q) ▸ h, fun h => ⟨l, h, rfl⟩⟩
theorem encL_ok : EncOk encL := ⟨fun _ _ h => encL_inj.mp h, encL_t⟩
/-- the state while a table is filled: the names, the memory, the table, what may be in it -/
structure St (R : Fw.Env → Prop) (p : Addr) (M : Mem) (enc : α → D) (U : List α) (S : α → Prop) (ρ : Fw.Env) (M' : Mem) : Prop where
  env : R ρ
  sub : SubM M M'
  tab : ∃ kvs t, M' p = some (.dict kvs t) ∧ KT enc kvs S
  bnd : ∀ l, S l → l ∈ U
theorem St.congr {R : Fw.Env → Prop} {p : Addr} {M : Mem} {U : List α} {ρ : Fw.Env} {M' : Mem} (s : St R p M enc U S ρ M') (h : ∀ l, S l ↔ S' l) : St R p M enc U S' ρ M' :=
  ⟨s.env, s.sub, let ⟨k, t, e, q⟩ := s.tab; ⟨k, t, e, q.congr h⟩, fun l hl => s.bnd l ((h l).mpr hl)⟩
theorem St.env' {R R' : Fw.Env → Prop} {p : Addr} {M : Mem} {U : List α} {ρ : Fw.Env} {M' : Mem} (s : St R p M enc U S ρ M') (h : ∀ ρ, R ρ → R' ρ) : St R' p M enc U S ρ M' := ⟨h ρ s.env, s.sub, s.tab, s.bnd⟩
/-- one more key -/
theorem St.put {R R' : Fw.Env → Prop} {p : Addr} {M : Mem} {U : List α} {ρ ρ' : Fw.Env} {M' : Mem} {l : α} {v : D} {Q : Mem → Prop} (e : EncOk enc) (hU : U.length ≤ 100000) (hp : M p = none) (s : St R p M enc U S ρ M') (hl : l ∈ U) (hr : R' ρ')
    (k : ∀ M'', St R' p M enc U (fun m => S m ∨ m = l) ρ' M'' → Q M'') : dSetA (.ref p) (enc l) v M' Q := by
  obtain ⟨kvs, t, hm, kt⟩ := s.tab
  rw [y_putD hm]
  have h5 := szHun
  have := kt.len s.bnd
  exact ⟨kt.ok e l, by omega, fun t => k _ ⟨hr, s.sub.set hp, ⟨_, _, mset_same, kt.put⟩, fun m hm => hm.elim (s.bnd m) fun e => e ▸ hl⟩⟩
/-- a loop that fills a table -/
theorem fill_map {β : Type} {stab : Mem → Prop} {tg : Tg} {wb : WS} {E : DEnds} {xs : List β} {R : Fw.Env → Prop} {p : Addr} {M : Mem} {U : List α} {ρ : Fw.Env} {M' : Mem} (encX : β → D) (Add : β → α → Prop) (hst : ∀ M', SubM M M' → stab M') (h0 : St R p M enc U S ρ M')
    (turn : ∀ x ∈ xs, ∀ S' ρ M', St R p M enc U S' ρ M' → ∀ N : Fw.Env → Mem → Prop, (∀ ρ M', St R p M enc U (fun l => S' l ∨ Add x l) ρ M' → N ρ M') → wTg tg (encX x) ρ fun ρ1 => wb { nx := N, ct := N, bk := E.nx, rt := E.rt } ρ1 M')
    (fin : ∀ ρ M', St R p M enc U (fun l => S l ∨ ∃ x ∈ xs, Add x l) ρ M' → E.nx ρ M') : loopD stab tg wb (xs.map encX) E ρ M' := by
  refine loop_map encX (fun done ρ M' => St R p M enc U (fun l => S l ∨ ∃ x ∈ done, Add x l) ρ M') (h0.congr fun l => by simp) ?_ ?_
  · intro done x rest hx ρ M' s N hN
    refine ⟨ρ, M', .refl, .refl, hst _ s.sub, turn x (by rw [hx]; simp) _ ρ M' s N fun ρ2 M2 s2 => hN ρ2 M2 (s2.congr fun l => ?_)⟩
    rw [or_assoc]
    refine or_congr Iff.rfl ?_
    constructor
    · rintro (⟨y, h1, h2⟩ | h)
      · exact ⟨y, by simp [h1], h2⟩
      · exact ⟨x, by simp, h⟩
    · rintro ⟨y, h1, h2⟩
      rw [List.mem_append, List.mem_singleton] at h1
      rcases h1 with h1 | rfl
      · exact .inl ⟨y, h1, h2⟩
      · exact .inr h2
  · intro ρ M' s
    exact ⟨ρ, M', .refl, .refl, hst _ s.sub, fin ρ M' s⟩
theorem fill_range {stab : Mem → Prop} {tg : Tg} {wb : WS} {E : DEnds} {lo n : Nat} {R : Fw.Env → Prop} {p : Addr} {M : Mem} {U : List α} {ρ : Fw.Env} {M' : Mem} (Add : Nat → α → Prop) (hst : ∀ M', SubM M M' → stab M') (h0 : St R p M enc U S ρ M')
    (turn : ∀ i, lo ≤ i → i < lo + n → ∀ S' ρ M', St R p M enc U S' ρ M' → ∀ N : Fw.Env → Mem → Prop, (∀ ρ M', St R p M enc U (fun l => S' l ∨ Add i l) ρ M' → N ρ M') → wTg tg (.int (i : Int)) ρ fun ρ1 => wb { nx := N, ct := N, bk := E.nx, rt := E.rt } ρ1 M')
    (fin : ∀ ρ M', St R p M enc U (fun l => S l ∨ ∃ i, lo ≤ i ∧ i < lo + n ∧ Add i l) ρ M' → E.nx ρ M') : loopD stab tg wb (ranged (lo : Int) n) E ρ M' := by
  have e : ranged (lo : Int) n = (List.range n).map fun i : Nat => D.int ((lo + i : Nat) : Int) := by unfold ranged; simp
  rw [e]
  refine fill_map (fun i : Nat => D.int ((lo + i : Nat) : Int)) (fun i => Add (lo + i)) hst h0 (fun i hi S' ρ M' s N hN => turn (lo + i) (by omega) (by rw [List.mem_range] at hi; omega) S' ρ M' s N hN) fun ρ M' s => fin ρ M' (s.congr fun l => or_congr Iff.rfl ?_)
  constructor
  · rintro ⟨i, h1, h2⟩; rw [List.mem_range] at h1; exact ⟨lo + i, by omega, by omega, h2⟩
  · rintro ⟨i, h1, h2, h3⟩; exact ⟨i - lo, by rw [List.mem_range]; omega, by rw [show lo + (i - lo) = i by omega]; exact h3⟩
theorem St.start {R : Fw.Env → Prop} {p : Addr} {M : Mem} {U : List α} {ρ : Fw.Env} {t : Tk} (hr : R ρ) (hp : M p = none) : St R p M enc U (fun _ => False) ρ (mset M p (.dict [] t)) := ⟨hr, SubM.new hp, ⟨_, _, mset_same, KT.nil⟩, fun _ h => h.elim⟩
end
end Fw

set_option Elab.async false
set_option linter.all false
set_option maxRecDepth 100000
set_option maxHeartbeats 4000000
/-! FwSortK: sorted(.., key=f), f a def -/
namespace Fw
open PySem PySem.Spec PyProof.Rows L2
section
variable {X : Cx} {pins : List (Addr × Obj)} {σ : L2.St} {H : Hp} {s : Shared}
/-- an untracked object of one's own is tracked -/
theorem turnedAt {h' : Heap} {t' : Nat} {ch : List Addr} {T : Addr} {ob : HO} (I : Inv X pins σ H s) (k : ∀ b o, b ∉ ch → s.heap.get? b = some o → h'.get? b = some o) (hf : ∀ b ∈ ch, FpOk X pins H b) (hT : T ∈ ch)
    (new : ObjOk X.prog X.w (upd H T ob) h' T ob) : Inv X pins σ (upd H T ob) { s with heap := h', toks := t' } := by
  have hn : H T = none := (hf T hT).1
  have nit : ∀ b u, H b = some u → b ∉ ch := fun b u e z => by
    have q := (hf b z).1
    rw [q] at e; cases e
  refine I.step (g' := s.gens) (d' := s.drawn) (ch := ch) (fun b hb => ⟨(hf b hb).2.2.2.1, (hf b hb).2.1, (hf b hb).2.2.2.2.1, (hf b hb).2.2.2.2.2⟩) (fun b o _ _ hc e _ => k b o hc e) (fun b o _ _ hc e _ => ⟨o.slots, k b o hc e⟩)
    (fun b o hc e n => ?_) (fun b o hc e => ⟨o, k b o hc e⟩) (fun b xs e => ?_) (fun b o u e => ?_) (fun b ps e => ⟨#[], ?_⟩) (fun m hm => ?_) (fun b u e => ?_) I.bare
  · rw [upd_ne (fun z => hc (by rw [z]; exact hT))]; exact n
  · rw [upd_ne (ne_of_none e hn)]; exact e
  · rw [upd_ne (ne_of_none e hn)]; exact e
  · rw [upd_ne (ne_of_none e hn), e]; simp
  · obtain ⟨o, es, ep, ho, r⟩ := hm
    exact ⟨o, es, ep, k _ o (fun z => (hf _ z).2.1 rfl) ho, r⟩
  · by_cases hb : b = T
    · subst hb; rw [upd_same] at e; cases e; exact new
    · rw [upd_ne hb] at e
      exact (I.hok b u e).stay (fun c v q1 q => k c v (by rcases q1 with z | z; (rw [z]; exact nit b u e); exact nit c _ z) q) (fun c q => by rw [upd_ne (ne_of_none q hn)]; exact q) fun c xs q => by rw [upd_ne (ne_of_none q hn)]; exact q
theorem fp_to {H' : Hp} {b : Addr} (f : FpOk X pins H b) (h : H' b = none) : FpOk X pins H' b := ⟨h, f.2⟩
/-- the key function's promise, where it is used -/
def KeyFn (X : Cx) (f : Addr) (M : Mem) (xs : List D) (key : D → D) : Prop :=
  ∀ (pins : List (Addr × Obj)) (σ : L2.St) (H : Hp) (s : Shared) (v : V) (u : Value) (d : D), d ∈ xs → Inv X pins σ H s → MRel X.prog X.w X.K H M → Rep X.K H d v → RelV v u →
    wpAny (model X.prog X.w) X.A.in1.in1 (call (.ref f) [u]) (EP X pins σ fun v' H' => Rep X.K H' (key d) v' ∧ MRel X.prog X.w X.K H' M ∧ Keep H M H' M) (fun _ _ => False) s
theorem key_rest {f a kS : Addr} {e1 : Nat} {us : List Value} {xs : List D} {key : D → D} {M : Mem} {P : PySem.Fin → Shared → Prop} {E : Value → Shared → Prop} (hu : X.A.units + 64 < cLine) (I : Inv X pins σ H s) (m : MRel X.prog X.w X.K H M) (kf : KeyFn X f M xs key)
    (ea : PySem.W.EachIs (RD X H) us xs) (hz : us.length ≤ sizeLine) (so : SortOk (xs.map key)) (fa : FpOk X pins H a) (fk : FpOk X pins H kS) (hka : kS ≠ a) (na : s.heap.get? a = some (seqObj "list" #[] e1)) (nk : s.heap.get? kS = some (seqObj "list" #[] 0))
    (h : ∀ s' H' vs, Inv X pins σ (upd H' a (.lst vs)) s' → MRel X.prog X.w X.K H' M → Keep H M H' M → H' a = none → Reps X.K H' (xs.mergeSort (PySem.W.dataLe false fun d => (key d).pyd)) vs → P (.done (.ret .none)) s') :
    wpAny (model X.prog X.w) X.A.in1.in1 (ksk_rest a (.ref f) false us.toArray e1 (.ref kS)) P E s := by
  have hl := ea.length
  unfold ksk_rest
  refine wpAny_bind (wpAny_rule ?_)
  first
    | rw [List.forIn_toArray]
    | (rw [← Array.forIn_toList]; simp only [List.toList_toArray])
    | rw [← Array.forIn_toList]
  refine wpAny_bind (ksk_fold (fun i s' => ∃ H' kA e, Inv X pins σ H' s' ∧ MRel X.prog X.w X.K H' M ∧ Keep H M H' M ∧ FpOk X pins H' a ∧ FpOk X pins H' kS ∧ s'.heap.get? kS = some (seqObj "list" kA e) ∧ s'.heap.get? a = some (seqObj "list" #[] e1) ∧ PySem.W.EachIs (RD X H') kA.toList ((xs.take i).map key)) us 0 s
    ⟨H, #[], 0, I, m, .refl, fa, fk, nk, na, by rw [List.take_zero]; exact PySem.W.EachIs.nil⟩ ?step ?done)
  case step =>
    rintro j x s' hx ⟨H', kA, e, I', m', k', fa', fk', nk', na', hk⟩
    simp only [Nat.zero_add] at hk ⊢
    have hj : j < us.length := (List.getElem?_eq_some_iff.mp hx).1
    obtain ⟨d, hd⟩ : ∃ d, xs[j]? = some d := ⟨_, List.getElem?_eq_getElem (by omega)⟩
    have hz2 : kA.size ≤ us.length := by
      have h1 := hk.length
      rw [Array.length_toList, List.length_map, List.length_take] at h1
      omega
    obtain ⟨v, rv, rx⟩ : RD X H x d := ea.zip (x, d) (List.mem_of_getElem? (i := j) (by rw [List.getElem?_zip_eq_some]; exact ⟨hx, hd⟩))
    have rv' := Rep.keep (k'.tup m) _ _ rv
    have Ip := I'.pinned (fp := [a, kS]) (fun b hb => by
      rcases List.mem_cons.mp hb with rfl | hb
      · exact fa'
      · rw [List.mem_singleton] at hb; subst hb; exact fk') (fun b hb => by
      rcases List.mem_cons.mp hb with rfl | hb
      · exact ⟨_, na', fun v => nofun⟩
      · rw [List.mem_singleton] at hb; subst hb; exact ⟨_, nk', fun v => nofun⟩)
    refine wpAny_bind (wpAny_attempt (wpAny_mono (kf _ σ H' s' v x d (List.mem_of_getElem? hd) Ip m' rv' rx) (fun w s'' he => ?_) fun _ _ hF => hF.elim))
    obtain ⟨v2, H2, I2, r2, q1, m2, k2⟩ := he
    have pa := I2.pin (a, seqObj "list" #[] e1) (List.mem_append_right _ (List.mem_append_right _ (mem_pinsAt (by simp) na')))
    have pk := I2.pin (kS, seqObj "list" kA e) (List.mem_append_right _ (List.mem_append_right _ (mem_pinsAt (by simp) nk')))
    have I3 : Inv X pins σ H2 s'' := I2.unpinned
    try dsimp only
    have fa2 := fp_to fa' pa.2.1
    have fk2 := fp_to fk' pk.2.1
    have s1 := Heap.SameBut.update s''.heap kS (Obj.mapSeq (·.push w))
    obtain ⟨c2, hc2⟩ : ∃ c2, (s''.heap.update kS (Obj.mapSeq (·.push w))).get? kS = some (seqObj "list" (kA.push w) c2) := ⟨_, get?_update_seq pk.1 (·.push w)⟩
    have ek : (xs.take (j + 1)).map key = (xs.take j).map key ++ [key d] := by rw [List.take_add_one, hd]; simp
    have eA : (kA.push w).toList = kA.toList ++ [w] := by simp
    obtain ⟨f0, f1, f2, f3, f4, f5⟩ := fk2
    refine wpAny_bind (listUpdate_at pk.1 rfl ?_ (Nat.le_trans hz2 hz) (Nat.le_trans (Nat.le_of_eq (Array.size_push ..)) (Nat.succ_le_succ (Nat.le_trans hz2 hz))))
    refine wpAny_pure ⟨rfl, H2, kA.push w, c2, I3.turned (t' := s''.toks) (fun b o hb e => (s1.2 b hb).trans e) f0 f1 f3 f4 f5, m2, k'.trans k2, fa2, ⟨f0, f1, f2, f3, f4, f5⟩, hc2, (s1.2 a hka.symm).trans pa.1, ?_⟩
    rw [eA, ek]
    refine PySem.W.each_snoc (R := RD X H2) ⟨v2, q1, r2⟩ (hk.mono fun u d ⟨v, h1, h2⟩ => ⟨v, Rep.keep (k2.tup m') _ _ h1, h2⟩)
  case done =>
    rintro s' ⟨H', kA, e, I', m', k', fa', fk', nk', na', hk⟩
    have e3 : xs.take (0 + us.length) = xs := List.take_of_length_le (by omega)
    rw [e3] at hk
    obtain ⟨ps, h1, al, sb, dp⟩ := so
    have em : (xs.map key).map D.pyd = ps := pys_map h1
    have em2 : xs.map (fun d => (key d).pyd) = ps := by rw [← em, List.map_map]; rfl
    have hk2 := each_reads I' h1 hk
    have hk3 : PySem.W.EachIs (fun v k => ∃ as, Reads s'.heap v k as) kA.toList ps := by
      rw [← em]
      exact PySem.W.each_map D.pyd (hk2.mono fun u d q => ⟨[], q⟩)
    have hsz : kA.size = us.length := by
      have h1 := hk.length
      rw [Array.length_toList, List.length_map] at h1
      omega
    try dsimp only
    refine wpAny_bind (listItems_at nk' rfl ?_)
    have sbu := Heap.SameBut.update s'.heap kS (fun o => { o with data := .freed })
    have gone : (s'.heap.update kS (fun o => { o with data := .freed })).get? kS = none := by
      have h2 := nk'
      revert h2
      cases s'.heap with
      | mk objs life =>
        simp only [Heap.update, Heap.get?, Array.getElem?_modify]
        cases objs[kS]? <;> simp
    refine PySem.W.keyH_end (κ := PySem.W.dataKind s'.heap ps) (h₁ := s'.heap.update kS (fun o => { o with data := .freed })) (fun b o hb q => ?_) gone nk' na' hka (PySem.W.SortsAt.data hk3 al sb fun d hd => ?_) hsz hz fun h3 tk3 c k3 n3 => ?_
    · by_cases hbk : b = kS
      · subst hbk; rw [gone] at q; cases q
      · rw [← sbu.2 b hbk]; exact q
    · have := dp d hd
      show X.A.units + 1 + 1 + d.depth < cLine
      omega
    · have eo := PySem.W.keyedOut_each (R := RD X H') (bs := xs) (vs := us) (rev := false) (fun d => (key d).pyd) (out := PySem.W.sortVals (PySem.W.dataKind s'.heap ps) false kA.toList us) ⟨s'.heap, kA.toList, by rw [em2]; exact al, by rw [em2], by rw [em2]; exact hk3⟩ (ea.mono fun u d ⟨v, h1, h2⟩ => ⟨v, Rep.keep (k'.tup m) _ _ h1, h2⟩)
      obtain ⟨vs, r1, r2⟩ := of_each eo
      have hlo : (PySem.W.sortVals (PySem.W.dataKind s'.heap ps) false kA.toList us).length = us.length := PySem.W.sortVals_length false (by rw [Array.length_toList]; exact hsz)
      refine h _ H' vs (turnedAt (ch := [a, kS]) I' (fun b o hb q => ?_) (fun b hb => ?_) (by simp) ?_) m' k' fa'.1 r1
      · rw [List.mem_cons, List.mem_singleton, not_or] at hb
        exact k3 b o hb.1 ((sbu.2 b hb.2).trans q)
      · rcases List.mem_cons.mp hb with rfl | hb
        · exact fa'
        · rw [List.mem_singleton] at hb; subst hb; exact fk'
      · exact ⟨by rw [r2.length, hlo]; exact hz, _, c, r2, n3⟩
/-- the new list's own sort -/
theorem key_tree {f : Addr} {us : List Value} {xs : List D} {key : D → D} {M : Mem} {R : Value → Shared → Prop} {E : Value → Shared → Prop} (hu : X.A.units + 64 < cLine) (I : Inv X pins σ H s) (m : MRel X.prog X.w X.K H M) (kf : KeyFn X f M xs key)
    (ea : PySem.W.EachIs (RD X H) us xs) (hz : us.length ≤ sizeLine) (so : SortOk (xs.map key))
    (h : ∀ s' H' vs, Inv X pins σ (upd H' s.heap.objs.size (.lst vs)) s' → MRel X.prog X.w X.K H' M → Keep H M H' M → H' s.heap.objs.size = none → Reps X.K H' (xs.mergeSort (PySem.W.dataLe false fun d => (key d).pyd)) vs → R .none s') :
    wpAny (model X.prog X.w) X.A.in1 (call (.builtin "list.sort") [.ref s.heap.objs.size] [(Str.ofString "key", .ref f)]) R E { s with heap := s.heap.push { cls := .type "list", data := .seq us.toArray } } := by
  have ho : (s.heap.push { cls := .type "list", data := .seq us.toArray }).get? s.heap.objs.size = some (seqObj "list" us.toArray 0) := Heap.get?_push_size _ rfl
  have kp : ∀ b o, s.heap.get? b = some o → (s.heap.push { cls := .type "list", data := .seq us.toArray }).get? b = some o := fun b o q => Heap.get?_push_of_some _ q
  have hne : ∀ b o, s.heap.get? b = some o → b ≠ s.heap.objs.size := fun b o q => Nat.ne_of_lt (Heap.lt_size q)
  have hsz : s.heap.objs.size ≤ s.heap.objs.size := Nat.le_refl _
  generalize hg : s.heap.push { cls := .type "list", data := .seq us.toArray } = g at ho kp ⊢
  have hgs : g.objs.size = s.heap.objs.size + 1 := by rw [← hg]; exact Heap.size_push ..
  refine PyProof.Rows.wpAny_call_entry_kw PyProof.Rows.slot_list_sort ⟨_, ho, rfl⟩ PyProof.Rows.entry_list_sort ?_ (ksk_l1 _ _)
  rw [ksk_t1]
  have ha : s.heap.objs.size < g.objs.size := by omega
  obtain ⟨e1, ho1⟩ : ∃ e1, (g.update s.heap.objs.size (Obj.mapSeq fun _ => (#[] : Array Value))).get? s.heap.objs.size = some (seqObj "list" #[] e1) := ⟨_, get?_update_seq ho fun _ => #[]⟩
  have hkS : ((g.update s.heap.objs.size (Obj.mapSeq fun _ => (#[] : Array Value))).push (seqObj "tuple" us.toArray 0)).objs.size = g.objs.size + 1 := by rw [size_push', Heap.size_update]
  unfold ksk_tree
  refine wpAny_bind (listItems_at ho rfl ?_)
  refine wpAny_bind (listUpdate_at ho rfl ?_ (by rw [List.size_toArray]; exact hz) (Nat.zero_le _))
  refine wpAny_bind (seqEpoch_at ho1 rfl ?_)
  refine wpAny_bind (wpAny_newTuple ?_ (by show us.length ≤ _; exact hz))
  refine wpAny_bind (wpAny_newList ?_ (Nat.zero_le _))
  refine wpAny_holding ?_
  have k2 : ∀ b o, s.heap.get? b = some o → (PySem.W.sortingHeap g s.heap.objs.size us).get? b = some o := fun b o q => PySem.W.sortingHeap_old (hne b o q) (kp b o q)
  have I1 : Inv X pins σ H { s with heap := PySem.W.sortingHeap g s.heap.objs.size us, toks := s.toks } := I.kept k2
  have na : H s.heap.objs.size = none := I.hok.fresh hsz
  have nk : H ((g.update s.heap.objs.size (Obj.mapSeq fun _ => (#[] : Array Value))).push (seqObj "tuple" us.toArray 0)).objs.size = none := I.hok.fresh (by rw [hkS]; omega)
  have hk1 : s.heap.objs.size ≤ ((g.update s.heap.objs.size (Obj.mapSeq fun _ => (#[] : Array Value))).push (seqObj "tuple" us.toArray 0)).objs.size := by rw [hkS]; omega
  have hk2 : ((g.update s.heap.objs.size (Obj.mapSeq fun _ => (#[] : Array Value))).push (seqObj "tuple" us.toArray 0)).objs.size ≠ s.heap.objs.size := by rw [hkS]; omega
  have ff : ∀ b, s.heap.objs.size ≤ b → H b = none → FpOk X pins H b := fun b h1 h2 => I.fpOk h1 h2
  refine key_rest (s := { s with heap := PySem.W.sortingHeap g s.heap.objs.size us, toks := s.toks }) hu I1 m kf ea hz so (ff _ hsz na) (ff _ hk1 nk) hk2 (Heap.get?_push_of_some _ (Heap.get?_push_of_some _ ho1)) (Heap.get?_push_size _ rfl) fun s' H' vs I' m' kk n r => ⟨.none, rfl, h s' H' vs I' m' kk n r⟩
/-! ### sorted(d, key=f) -/
def seqD (d : D) (M : Mem) : Option (List D) := match d with
  | .ref a => match M a with
    | some (.lst xs) => some xs
    | some (.dict kvs _) => some (kvs.map (·.1))
    | _ => none
  | _ => none
def wSortK (sp : List D → Mem → DK → Prop) (we : WE) : WE := fun ρ M Q => we ρ M fun d M1 => ∃ xs, ∃ key : D → D, seqD d M1 = some xs ∧ SortOk (xs.map key) ∧ (∀ x ∈ xs, ∀ Q' : DK, Q' (key x) M1 → sp [x] M1 Q') ∧ ∀ p, M1 p = none → Q (.ref p) (mset M1 p (.lst (xs.mergeSort (PySem.W.dataLe false fun d => (key d).pyd))))
theorem sortedK_run {f : Addr} {xs : List D} {us : List Value} {r : Value} {key : D → D} {M : Mem} {Q : VK} {Q' : DK} (hu : X.A.units + 64 < cLine) (I : Inv X pins σ H s) (m : MRel X.prog X.w X.K H M) (kf : KeyFn X f M xs key) (ea : PySem.W.EachIs (RD X H) us xs) (ok : SortOk (xs.map key)) (hz : us.length ≤ sizeLine)
    (hcol : ∀ (R : List Value → Shared → Prop) (E' : Value → Shared → Prop), (∀ (h' : Heap) (tk : Nat), (∀ b o, s.heap.get? b = some o → h'.get? b = some o) → R us { s with heap := h', toks := tk }) → wpAny (model X.prog X.w) X.A.in1 (collect r) R E' s)
    (q : ∀ p, M p = none → Q' (.ref p) (mset M p (.lst (xs.mergeSort (PySem.W.dataLe false fun d => (key d).pyd))))) (k : ∀ v H' d' M', Rep X.K H' d' v → MRel X.prog X.w X.K H' M' → Keep H M H' M' → Q' d' M' → Q v H') :
    wpAny (model X.prog X.w) X.A (call (.builtin "sorted") [r] [(Str.ofString "key", .ref f)]) (EP X pins σ Q) X.xe s := by
  refine sorted_gen (ksk_s1 _ _) hz hcol fun E' h' tk hk => ?_
  have I0 : Inv X pins σ H { s with heap := h', toks := tk } := I.kept hk
  refine key_tree (s := { s with heap := h', toks := tk }) hu I0 m kf ea hz ok fun s' H' vs I' m' k' n r => ?_
  obtain ⟨m2, k2, n2⟩ := m'.alloc (o := .lst vs) (mo := .lst (xs.mergeSort (PySem.W.dataLe false fun d => (key d).pyd))) n fun t => ⟨_, upd_same, Reps.keep t _ _ r⟩
  exact ⟨.ref h'.objs.size, _, I', rfl, k _ _ (.ref h'.objs.size) _ rfl m2 (k'.trans k2) (q _ n2)⟩
/-- the key's promise, of a def -/
theorem key_fn {k : Nat} {x : Str} {sp : DSp} {M : Mem} {xs : List D} {key : D → D} {f : Addr} (c : CalD X.prog X.w X.K X.mg X.base k x sp) (hr : Room (k + 2) X.A) (hm : X.mg x = some (.ref f)) (h : ∀ d ∈ xs, ∀ Q' : DK, Q' (key d) M → sp [d] M Q') : KeyFn X f M xs key := by
  obtain ⟨f', fd, ps, ds, F, hm', kp, b, dv⟩ := c.ex
  rw [hm] at hm'
  cases hm'
  cases dv
  intro pins σ H s v u d hd I m rd rv
  have hsp : lSp X.prog X.w X.K sp [v] H (fun v' H' => Rep X.K H' (key d) v' ∧ MRel X.prog X.w X.K H' M ∧ Keep H M H' M) C8.E0 := ⟨[d], M, fun d' M' => d' = key d ∧ M' = M, .cons rd rfl, m, h d hd _ ⟨rfl, rfl⟩, fun v' H' d' M' r' m' k' ⟨e1, e2⟩ => by subst e1 e2; exact ⟨r', m', k'⟩⟩
  have hl : ([u] ++ ([] : List Value)).length = ps.length := F.len _ _ _ _ hsp
  refine wpAny_call (codeAny_mono (F.run X.A.in1.in1 X.stack s H ⟨[u], []⟩ ([u] ++ []) [v] _ C8.E0 hr.in1.in1 I.env0.in1.in1 (b s [u] I.kIn hl) (.cons rv .nil) hsp) fun r s' hq => ?_)
  cases r with
  | error e => exact hq
  | ok fl =>
    cases fl with
    | ret u => exact I.after hq
    | next => exact False.elim hq
    | brk => exact False.elim hq
    | cont => exact False.elim hq
theorem xSortK {k : Nat} {x : Str} {sp : DSp} {e : Expr} {we : WE} {p p2 pk pos : Pos} (hm : X.mg "sorted" = none) (c : CalD X.prog X.w X.K X.mg X.base k x sp) (hr : Room (k + 2) X.A) (he : DEx X e we) (hc : X.calm = true := by rfl) (hg : Gl X "sorted" := by rfl) (hgx : Gl X x := by rfl) (hdx : (x == ("__debug__" : Str)) = false := by decide)
    (hs : starEach [e] X.env = (false, eval e X.env) :: starEach [] X.env := by rfl)
    (h1 : backTo pos (starEach [e] X.env) = (false, eval e X.env) :: backTo pos (starEach [] X.env) := by rfl) (h2 : (backTo pos (starEach [e] X.env)).any (·.1) = false := by rfl)
    (h3 : (backToKw pos (keywordEach [⟨some (Str.ofString "key"), .Name x p2, pk⟩] X.env)).all (·.1.isSome) = true := by rfl) (h4 : (backToKw pos (keywordEach [⟨some (Str.ofString "key"), .Name x p2, pk⟩] X.env)).any (·.1.isNone) = false := by rfl) (h5 : (backToKw pos (keywordEach [⟨some (Str.ofString "key"), .Name x p2, pk⟩] X.env)).filterMap (·.1) = [Str.ofString "key"] := by rfl) :
    DEx X (.Call (.Name "sorted" p) [e] [⟨some (Str.ofString "key"), .Name x p2, pk⟩] pos) (wSortK sp we) := by
  obtain ⟨f, fd, ps, ds, F, hmx, kp, b, dv⟩ := c.ex
  refine pe_imp (pe_callBK (ks := [Str.ofString "key"]) (r := fun vs zs H Q => zs = [.ref f] ∧ rOfL X (fun ds M Q => ∃ d, ds = [d] ∧ ∃ xs, ∃ key : D → D, seqD d M = some xs ∧ SortOk (xs.map key) ∧ (∀ x ∈ xs, ∀ Q' : DK, Q' (key x) M → sp [x] M Q') ∧ ∀ p, M p = none → Q (.ref p) (mset M p (.lst (xs.mergeSort (PySem.W.dataLe false fun d => (key d).pyd))))) vs H Q) ?_ hg hm bt_sorted (pa_cons he pa_nil hs) (pk_cons (pe_glob (v := .ref f) hgx hmx rfl hdx) pk_nil) (by decide) (by decide) h1 h2 h3 h4 h5) ?_
  · intro pins s σ H vs zs us ws Q I rv rz ⟨ez, hq⟩
    subst ez
    obtain ⟨w1, rfl, e1⟩ := vals1 rz
    cases (show w1 = Value.ref f from e1)
    obtain ⟨M, ds, Q', m, rs, ⟨d, rfl, xs, key, hs, so, hk, q⟩, k⟩ := hq
    obtain ⟨v, rfl, rd⟩ := reps1 rs
    obtain ⟨u, rfl, ru⟩ := vals1 rv
    have kf := key_fn c hr hmx hk
    unfold seqD at hs
    cases d with
    | ref a =>
      cases (show v = .ref a from rd)
      cases (show u = Value.ref a from ru)
      simp only at hs
      cases cM : M a with
      | none => rw [cM] at hs; cases hs
      | some mo =>
        rw [cM] at hs
        cases mo with
        | lst ys =>
          cases hs
          obtain ⟨vs, hh, r⟩ := m a _ cM
          obtain ⟨its, rv, pl, hz⟩ := I.list (.of hh)
          have l := rv.length
          exact sortedK_run hr.units I m kf (each_of r rv) so (by omega) (fun R E' h => collect_kept_list pl.isList (by omega) h) q k
        | dict kvs t =>
          cases hs
          have ce := m a _ cM
          obtain ⟨o, ho, hx, hd⟩ := dict_raw I ce
          obtain ⟨ea, hz⟩ := keys_each ce
          exact sortedK_run hr.units I m kf ea so (by rw [List.length_map, Array.length_toList]; exact hz) (fun R E' h => collect_kept_dict (I.ok.hd hc) (dict_neq ce) ho hx hd hz h) q k
        | rl _ => cases hs
        | ins _ _ => cases hs
    | _ => cases hs
  · intro σ H Q ⟨ρ, M, Q', R, q, k⟩
    exact ⟨ρ, M, _, R, q, fun v H1 d M1 r1 m1 k1 ⟨xs, key, h1, h2, h3, h4⟩ => ⟨rfl, M1, [d], Q', m1, .cons r1 rfl, ⟨d, rfl, xs, key, h1, h2, h3, h4⟩, fun v H2 d2 M2 r2 m2 k2 q2 => k v H2 d2 M2 r2 m2 (k1.trans k2) q2⟩⟩
end
end Fw

set_option Elab.async false
set_option linter.all false
set_option maxRecDepth 100000
set_option maxHeartbeats 4000000
/-! FwForL: for a, b in a list of lists -/
namespace Fw
open PySem PySem.Spec PyProof.Rows L2
def loopL (stab : Mem → Prop) (is : List Nat) (wb : WS) : List D → DEnds → Env → Mem → Prop
  | [], E, ρ, M => ∃ ρ0 M0, SubE ρ0 ρ ∧ SubM M0 M ∧ stab M0 ∧ E.nx ρ0 M0
  | x :: xs, E, ρ, M => ∃ ρ0 M0 a ds, SubE ρ0 ρ ∧ SubM M0 M ∧ stab M0 ∧ x = .ref a ∧ M0 a = some (.lst ds) ∧ ds.length = is.length ∧ wb { nx := loopL stab is wb xs E, ct := loopL stab is wb xs E, bk := E.nx, rt := E.rt } (setL is ds ρ0) M0
def wForL (wi : WI) (is : List Nat) (wb : WS) : WS := fun E ρ M => wi ρ M fun src M1 => loopL src.stab is wb src.items E ρ M1
@[simp] theorem y_forL {wi : WI} {is : List Nat} {w : WS} {E : DEnds} {ρ : Env} {M : Mem} : wForL wi is w E ρ M = wi ρ M fun src M1 => loopL src.stab is w src.items E ρ M1 := rfl
section
variable {X : Cx}
theorem ds_forL {tg iter : Expr} {body : List Stmt} {pos : Pos} {wi : WI} {is : List Nat} {wb : WS} (hp : PassesOwn (model X.prog X.w) X.A X.env X.xe) (hc : X.calm = true) (hi : DI X tg iter wi) (hg : PG X tg (gLst X.K is.length (lvT is))) (hb : DSs X body wb)
    (hs : ∀ x, foldedSetIterable iter X.env x = pure x) : DSt X (.For tg iter body [] pos) (wForL wi is wb) := ps_imp (ps_for hp hc hi hg hb hs) fun D σ H ⟨ρ, M, D', R, q, le⟩ =>
  ⟨ρ, M, _, R, q, fun J H1 src M1 m1 k1 ok q1 => by
    refine ⟨fun i m σ H => m = src.items.length - i ∧ i ≤ src.items.length ∧ ∃ ρ M, Rl X σ H ρ M ∧ Keep H1 M1 H M ∧ loopL src.stab is wb (src.items.drop i) D' ρ M, ⟨_, rfl, Nat.zero_le _, ρ, M1, R.next m1 k1, .refl, by rw [List.drop_zero]; exact q1⟩, ?_⟩
    rintro i m σ H ⟨rfl, hi, ρ, M, R2, k2, q2⟩
    by_cases hlt : i < src.items.length
    · rw [drop_cons hlt] at q2
      obtain ⟨ρ0, M0, a, ds, s1, s2, st, ex, ha, hl, q2⟩ := q2
      have R3 := R2.sub s1 s2
      have k3 : Keep H1 M1 H M0 := k2.subR s2
      refine .inr ⟨ok.go i H M0 R3.mem k3 st hlt, fun σ' H' => ∃ ρ' M', Rl X σ' H' ρ' M' ∧ Keep H1 M1 H' M' ∧ loopL src.stab is wb (src.items.drop (i + 1)) D' ρ' M', fun σ' H' p => ⟨_, by omega, rfl, hlt, p⟩, fun x H' y => ?_⟩
      obtain ⟨d, hd, rd, m', k'⟩ := ok.yld i H M0 x H' R3.mem k3 st hlt y
      rw [List.getElem?_eq_getElem hlt] at hd
      cases hd
      rw [ex] at rd
      cases (show x = .ref a from rd)
      obtain ⟨vs, hh, rs⟩ := m' a _ ha
      have k4 : Keep H1 M1 H' M0 := k3.trans k'
      have rl := rs.length
      refine ⟨a, vs, rfl, .of hh, by omega, by omega, ?_⟩
      exact ⟨_, M0, _, (R3.next m' k').setL rs, q2, ⟨fun σ' H'' ρ' M' r k q => ⟨ρ', M', r, k4.trans k, q⟩, fun v H'' d M' r m k q => le.rt _ _ _ _ r m (k1.trans (k4.trans k)) q, fun σ' H'' ρ' M' r k q => le.nx _ _ _ _ r (k1.trans (k4.trans k)) q, fun σ' H'' ρ' M' r k q => ⟨ρ', M', r, k4.trans k, q⟩⟩⟩
    · have e : i = src.items.length := by omega
      subst e
      rw [List.drop_length] at q2
      obtain ⟨ρ0, M0, s1, s2, st, q2⟩ := q2
      have R3 := R2.sub s1 s2
      have k3 : Keep H1 M1 H M0 := k2.subR s2
      exact .inl ⟨ok.stop H M0 R3.mem k3 st, le.nx _ _ _ _ R3 (k1.trans k3) q2⟩⟩
theorem sForL {tg iter : Expr} {body : List Stmt} {pos : Pos} {wi : WI} {is : List Nat} {wb : WS} (hi : DI X tg iter wi) (hg : PG X tg (gLst X.K is.length (lvT is))) (hb : DSs X body wb) (hp : PassesOwn (model X.prog X.w) X.A X.env X.xe := by exact PySem.PassesOwn.never) (hc : X.calm = true := by rfl) (hs : ∀ x, foldedSetIterable iter X.env x = pure x := by intro _; rfl) : DSt X (.For tg iter body [] pos) (wForL wi is wb) := ds_forL hp hc hi hg hb hs
theorem gL {ts : List Expr} {j : Nat} {is : List Nat} {pos : Pos} (h : PGs X ts (lvT is)) (hc : X.calm = true := by rfl) (hn : (assignEach ts X.env).length = is.length := by rfl) (hst : (assignEach ts X.env).findIdx? (·.1) = none := by rfl) : PG X (.Tuple ts j pos) (gLst X.K is.length (lvT is)) := pg_lst hc h hn hst
end
theorem loop_mapL' {stab : Mem → Prop} {is : List Nat} {wb : WS} {E : DEnds} {xs : List D} (I : List D → Env → Mem → Prop)
    (turn : ∀ done x rest, xs = done ++ x :: rest → ∀ ρ M, I done ρ M → ∀ N : Env → Mem → Prop, (∀ ρ M, I (done ++ [x]) ρ M → N ρ M) → ∃ ρ0 M0 a ds, SubE ρ0 ρ ∧ SubM M0 M ∧ stab M0 ∧ x = .ref a ∧ M0 a = some (.lst ds) ∧ ds.length = is.length ∧ wb { nx := N, ct := N, bk := E.nx, rt := E.rt } (setL is ds ρ0) M0)
    (fin : ∀ ρ M, I xs ρ M → ∃ ρ0 M0, SubE ρ0 ρ ∧ SubM M0 M ∧ stab M0 ∧ E.nx ρ0 M0) : ∀ (ys done : List D), xs = done ++ ys → ∀ ρ M, I done ρ M → loopL stab is wb ys E ρ M
  | [], done, h, ρ, M, hi => by rw [List.append_nil] at h; subst h; exact fin ρ M hi
  | y :: ys, done, h, ρ, M, hi => by
    obtain ⟨ρ0, M0, a, ds, s1, s2, st, e1, e2, e3, q⟩ := turn done y ys h ρ M hi (loopL stab is wb ys E) fun ρ M hi => loop_mapL' I turn fin ys (done ++ [y]) (by rw [h]; simp) ρ M hi
    exact ⟨ρ0, M0, a, ds, s1, s2, st, e1, e2, e3, q⟩
theorem loop_L {stab : Mem → Prop} {is : List Nat} {wb : WS} {E : DEnds} {xs : List D} {ρ : Env} {M : Mem} (I : List D → Env → Mem → Prop) (h0 : I [] ρ M)
    (turn : ∀ done x rest, xs = done ++ x :: rest → ∀ ρ M, I done ρ M → ∀ N : Env → Mem → Prop, (∀ ρ M, I (done ++ [x]) ρ M → N ρ M) → ∃ ρ0 M0 a ds, SubE ρ0 ρ ∧ SubM M0 M ∧ stab M0 ∧ x = .ref a ∧ M0 a = some (.lst ds) ∧ ds.length = is.length ∧ wb { nx := N, ct := N, bk := E.nx, rt := E.rt } (setL is ds ρ0) M0)
    (fin : ∀ ρ M, I xs ρ M → ∃ ρ0 M0, SubE ρ0 ρ ∧ SubM M0 M ∧ stab M0 ∧ E.nx ρ0 M0) : loopL stab is wb xs E ρ M := loop_mapL' I turn fin xs [] rfl ρ M h0
end Fw

set_option Elab.async false
set_option linter.all false
set_option maxRecDepth 100000
set_option maxHeartbeats 4000000
/-! FwHead: the head's facts, no list of the module's own; the script -/
namespace Fw
open PySem PySem.Spec PyProof.Rows L2

def isLst (o : Obj) : Bool := match o.cls with
  | .type c => decide (c = "list")
  | _ => false
def noLst (K : PySem.W.Frag) : Bool := K.all fun p => !isLst p.2
theorem noLst_ok {K : PySem.W.Frag} (h : noLst K = true) {a : Addr} {o : Obj} (e : K.lookup a = some o) (hc : o.cls = .type "list") : False := by
  have m : (a, o) ∈ K := by
    have : ∀ L : List (Addr × Obj), L.lookup a = some o → (a, o) ∈ L := fun L => by
      induction L with
      | nil => intro z; cases z
      | cons p r ih =>
        intro z
        obtain ⟨b, q⟩ := p
        rw [List.lookup_cons] at z
        cases c : a == b with
        | true => rw [c] at z; cases z; rw [eq_of_beq c]; exact List.mem_cons_self
        | false => rw [c] at z; exact List.mem_cons_of_mem _ (ih z)
    exact this K e
  have h1 := List.all_eq_true.mp h _ m
  simp only at h1
  unfold isLst at h1
  rw [hc] at h1
  simp at h1
def obsB (fa : List He.Fa) (fn : List He.DefD) (K : PySem.W.Frag) : Bool × He.AlD := (noLst K, He.obsD fa fn K)
def obsN (n : Nat) (fa : List He.Fa) (fn : List He.DefD) (g : Addr → Option Obj) : Bool × He.AlD := obsB fa fn (He.frG g (He.asD g n))
def hookN (n : Nat) (fa : List He.Fa) (fn : List He.DefD) : PySem.W.Hook where
  α := Bool × He.AlD
  obs := fun s => obsN n fa fn s.heap.get?
  val := fun _ => (true, He.valD fn)
  says := fun _ h => ∃ K : PySem.W.Frag, K.In h ∧ noLst K = true ∧ He.SaysD fa fn K
  of := fun _ _ e => ⟨_, He.frG_in, congrArg (fun z : Bool × He.AlD => z.1) e, congrArg (fun z : Bool × He.AlD => z.2) e⟩
  keeps := fun _ _ _ ⟨K, hK, c⟩ k => ⟨K, PySem.W.Frag.In.keeps hK k, c⟩
theorem obsN_eq {n : Nat} {fa : List He.Fa} {fn : List He.DefD} {g : Addr → Option Obj} {s : Shared} (h : ∀ a, g a = s.heap.get? a) : obsN n fa fn g = (hookN n fa fn).obs s := by
  have e : g = s.heap.get? := funext h
  rw [e] <;> rfl

theorem MetD.mono {P : Program} {w : World} {K : PySem.W.Frag} {mg : Str → Option Value} {base : Heap} {C : Addr} {m : Str} {sp : DSp} {j k : Nat} (c : MetD P w K mg base j C m sp) (h : j ≤ k) : MetD P w K mg base k C m sp :=
  let ⟨f, fd, ps, ds, c1, c2, F, b, d⟩ := c.ex; ⟨f, fd, ps, ds, c1, c2, F.mono h, b, d⟩
theorem MakD.mono {P : Program} {w : World} {K : PySem.W.Frag} {mg : Str → Option Value} {base : Heap} {C : Addr} {x : Str} {sp : DSp} {j k : Nat} (c : MakD P w K mg base j x C sp) (h : j ≤ k) : MakD P w K mg base k x C sp :=
  let ⟨f, fd, ps, ds, c1, F, c2, b, d⟩ := c.ex; ⟨f, fd, ps, ds, c1, F.mono h, c2, b, d⟩
theorem vac {X : Cx} {st : List Stmt} : DSs X st fun _ _ _ => False := ⟨fun _ _ _ _ _ _ ⟨_, _, _, _, f, _⟩ => f.elim⟩

def sp_law : DSp := fun ds M Q => ∃ (a : Addr) (ns : List Int), ds = [.ref a] ∧ M a = some (.rl (ns.map D.int)) ∧ ∀ M', Q (.bl true) M'
theorem sp_script {P : Program} {w : World} {K : PySem.W.Frag} {H : Hp} {a : Addr} {ns : List Int} {E : XK} (nl : noLst K = true) (hO : Only H) (hS : SqL K H a (ns.map V.int)) : lSp P w K sp_law [.ref a] H (fun v _ => v = .bl true) E := by
  have hf : ∃ o, H a = some (.frz o (.lst (ns.map V.int))) := by
    rcases hS with (r | r) | ⟨o, _, _, e, hc, _⟩
    · rcases hO a with z | ⟨o, xs, z⟩
      · rw [r] at z; cases z
      · rw [r] at z; cases z
    · exact r
    · exact (noLst_ok nl e hc).elim
  obtain ⟨o, hf⟩ := hf
  refine ⟨[.ref a], fun b => if b = a then some (.rl (ns.map D.int)) else none, fun d _ => d = .bl true, .cons rfl .nil, fun b mo e => ?_, ⟨a, ns, rfl, if_pos rfl, fun _ => rfl⟩, fun v H' d M' r _ _ q => ?_⟩
  · by_cases h : b = a
    · subst h
      have e : (if b = b then some (MO.rl (ns.map D.int)) else none) = some mo := e
      rw [if_pos rfl] at e
      cases e
      exact ⟨o, _, hf, Reps.ints⟩
    · have e : (if b = a then some (MO.rl (ns.map D.int)) else none) = some mo := e
      rw [if_neg h] at e
      cases e
  · subst q
    exact r
end Fw

set_option Elab.async false
set_option linter.all false
set_option maxRecDepth 100000
set_option maxHeartbeats 4000000
/-! printed by gen.py: the walks of fractionwords_k83_banned_lines -/
namespace F83
open PySem PySem.Spec PyProof.Rows L2 Fw
def top (i : Nat) : Stmt := PySem.Challenge.pw_fractionwords_k83_banned_lines.main.body.getD i (.Pass ⟨0, 0, 0, 0⟩)
def mth (i j : Nat) : Stmt := (C8.clsBody (top i)).getD j (.Pass ⟨0, 0, 0, 0⟩)
structure G (K : PySem.W.Frag) (mg : PySem.Str → Option Value) (C : Addr) : Prop where
  b_abs : mg "abs" = none
  b_all : mg "all" = none
  b_any : mg "any" = none
  b_bool : mg "bool" = none
  b_int : mg "int" = none
  b_isinstance : mg "isinstance" = none
  b_len : mg "len" = none
  b_list : mg "list" = none
  b_range : mg "range" = none
  b_sorted : mg "sorted" = none
  b_str : mg "str" = none
  b_tuple : mg "tuple" = none
  c_LETTERS : ∃ t, mg "LETTERS" = some (.str "abcdefghijklmnopqrstuvwxyz" t)
  c_DIGITS : ∃ t, mg "DIGITS" = some (.str "0123456789" t)
  c_MOST_IN_NAME : ∃ t, mg "MOST_IN_NAME" = some (.int 8 t)
  c_MOST_IN_NUMBER : ∃ t, mg "MOST_IN_NUMBER" = some (.int 6 t)
  c_MOST_LINES : ∃ t, mg "MOST_LINES" = some (.int 100 t)
  c_MOST_MARKS : ∃ t, mg "MOST_MARKS" = some (.int 80 t)
  c_LAST_MARK : ∃ t, mg "LAST_MARK" = some (.int 999999 t)
  cls : Cls K C
  n_banned : NoAttr K C "banned"
  n_bans : NoAttr K C "bans"
/-! is_atom_number -/
abbrev st_is_atom_number : Stmt := top 5
abbrev sc_is_atom_number : Scope := defScope st_is_atom_number
abbrev nm_is_atom_number : List PySem.Str := [("text" : PySem.Str), ("char" : PySem.Str)]
abbrev ps_is_atom_number : List PySem.Str := [("text" : PySem.Str)]
theorem nd_is_atom_number : nm_is_atom_number.Nodup := by decide +kernel
theorem fs_is_atom_number : FnScope nm_is_atom_number ps_is_atom_number sc_is_atom_number := ⟨rfl, rfl, rfl, nd_is_atom_number, rfl, by decide +kernel, by decide +kernel⟩
def w_is_atom_number : WS :=
  (wSeq (wIf (wOrT (wNotT (wB (wChain dLe dLe (wC (.int 1)) (wCall dLen (wCons (wVar 0) wNil)) (wC (.int 6))))) (wB (wBin (dEq id) (wBin dIxA (wVar 0) (wC (.int 0))) (wC (.str "0"))))) (wRet (wC (.bl false))) wNext)
    (wRet (wCall (dAll fun bs => bs.all id) (wCons (wLc (wIt (wVar 0)) (.nm 1) [1] wYes (wBin (dIn id) (wVar 1) (wC (.str "0123456789")))) wNil))))
theorem b_is_atom_number {P : Program} {w : World} {K : PySem.W.Frag} {mg : PySem.Str → Option Value} {base : Heap} {k : Nat} {f : Addr} {C : Addr} (g : G K mg C) (cdv : Value) (A : Around) (outer : List PySem.Env) (s : Shared) (H : Hp) (E : XK) (hr : Room k (A.deeper (envOfC "is_atom_number" sc_is_atom_number s.heap.objs.size f cdv))) :
    DSs (cx P w K mg base nm_is_atom_number "is_atom_number" sc_is_atom_number f cdv A outer s H E) (defBody st_is_atom_number) (w_is_atom_number) :=
  (dss_cons (ds_if (tW (dw_or (dt_not (tLeLe xInt (xBi call_lenR lift_len boot_len g.b_len (xArg (xV 0) da_nil)) (xGI g.c_MOST_IN_NUMBER))) (dw_or1 (tEq hr (xIx hr (xV 0) xInt) xStr)))) (dss_one (ds_ret xBl)) dss_nil)
    (dss_one (ds_ret (xBi (cr_all rfl) lift_all bt_all g.b_all (xArg (xLc (own := [(("char" : PySem.Str), 1)]) nd_is_atom_number (show BlkOk nm_is_atom_number sc_is_atom_number _ [(("char" : PySem.Str), 1)] from blk (by decide +kernel)) (di_expr (xV 0)) (fun _ _ _ _ _ => (gN 1 nd_is_atom_number)) (fun _ _ _ _ _ => dts_nil) (fun _ _ _ _ _ => (xIn hr (xV 1) (xGS g.c_DIGITS)))) da_nil)))))
/-! is_atom -/
abbrev st_is_atom : Stmt := top 6
abbrev sc_is_atom : Scope := defScope st_is_atom
abbrev nm_is_atom : List PySem.Str := [("thing" : PySem.Str), ("base" : PySem.Str), ("dot" : PySem.Str), ("number" : PySem.Str), ("char" : PySem.Str)]
abbrev ps_is_atom : List PySem.Str := [("thing" : PySem.Str)]
theorem nd_is_atom : nm_is_atom.Nodup := by decide +kernel
theorem fs_is_atom : FnScope nm_is_atom ps_is_atom sc_is_atom := ⟨rfl, rfl, rfl, nd_is_atom, rfl, by decide +kernel, by decide +kernel⟩
def w_is_atom (sp_is_atom_number : DSp) : WS :=
  (wSeq (wIf (wNotT (wTru (wIsi .str (wVar 0)))) (wRet (wC (.bl false))) wNext)
    (wSeq (wAsg (.tp [1, 2, 3]) (wPtn (wVar 0) (wC (.str "."))))
    (wSeq (wIf (wOrT (wNotT (wB (wChain dLe dLe (wC (.int 1)) (wCall dLen (wCons (wVar 1) wNil)) (wC (.int 8))))) (wB (wBin (dIn not) (wBin dIxA (wVar 1) (wC (.int 0))) (wC (.str "abcdefghijklmnopqrstuvwxyz"))))) (wRet (wC (.bl false))) wNext)
    (wSeq (wIf (wNotT (wTru (wCall (dAll fun bs => bs.all id) (wCons (wLc (wIt (wVar 1)) (.nm 4) [4] wYes (wOrV (wBin (dIn id) (wVar 4) (wC (.str "abcdefghijklmnopqrstuvwxyz"))) (wBin (dIn id) (wVar 4) (wC (.str "0123456789"))))) wNil)))) (wRet (wC (.bl false))) wNext)
    (wRet (wOrV (wBin (dEq id) (wVar 2) (wC (.str ""))) (wCall sp_is_atom_number (wCons (wVar 3) wNil))))))))
theorem b_is_atom {P : Program} {w : World} {K : PySem.W.Frag} {mg : PySem.Str → Option Value} {base : Heap} {k : Nat} {f : Addr} {C : Addr} (g : G K mg C) {sp_is_atom_number : DSp} (h_is_atom_number : CalD P w K mg base k "is_atom_number" sp_is_atom_number) (cdv : Value) (A : Around) (outer : List PySem.Env) (s : Shared) (H : Hp) (E : XK) (hr : Room k (A.deeper (envOfC "is_atom" sc_is_atom s.heap.objs.size f cdv))) :
    DSs (cx P w K mg base nm_is_atom "is_atom" sc_is_atom f cdv A outer s H E) (defBody st_is_atom) (w_is_atom sp_is_atom_number) :=
  (dss_cons (ds_if (dt_not (tV (xIsi .str g.b_isinstance g.b_str (xV 0)))) (dss_one (ds_ret xBl)) dss_nil)
    (dss_cons (sAsg (de_partition (xV 0) xStr) (gG (pgs1 (gN 1 nd_is_atom) (pgs1 (gN 2 nd_is_atom) (pgs1 (gN 3 nd_is_atom) pgs0)))))
    (dss_cons (ds_if (tW (dw_or (dt_not (tLeLe xInt (xBi call_lenR lift_len boot_len g.b_len (xArg (xV 1) da_nil)) (xGI g.c_MOST_IN_NAME))) (dw_or1 (tNIn hr (xIx hr (xV 1) xInt) (xGS g.c_LETTERS))))) (dss_one (ds_ret xBl)) dss_nil)
    (dss_cons (ds_if (dt_not (tV (xBi (cr_all rfl) lift_all bt_all g.b_all (xArg (xLc (own := [(("char" : PySem.Str), 4)]) nd_is_atom (show BlkOk nm_is_atom sc_is_atom _ [(("char" : PySem.Str), 4)] from blk (by decide +kernel)) (di_expr (xV 1)) (fun _ _ _ _ _ => (gN 4 nd_is_atom)) (fun _ _ _ _ _ => dts_nil) (fun _ _ _ _ _ => (de_or (xIn hr (xV 4) (xGS g.c_LETTERS)) (de_one (xIn hr (xV 4) (xGS g.c_DIGITS)))))) da_nil)))) (dss_one (ds_ret xBl)) dss_nil)
    (dss_one (ds_ret (de_or (xEq hr (xV 2) xStr) (de_one (xF h_is_atom_number hr (xArg (xV 3) da_nil))))))))))
/-! is_line -/
abbrev st_is_line : Stmt := top 11
abbrev sc_is_line : Scope := defScope st_is_line
abbrev nm_is_line : List PySem.Str := [("thing" : PySem.Str), ("mark" : PySem.Str)]
abbrev ps_is_line : List PySem.Str := [("thing" : PySem.Str)]
theorem nd_is_line : nm_is_line.Nodup := by decide +kernel
theorem fs_is_line : FnScope nm_is_line ps_is_line sc_is_line := ⟨rfl, rfl, rfl, nd_is_line, rfl, by decide +kernel, by decide +kernel⟩
def w_is_line_1 : WS :=
  (wIf (wOrT (wNotT (wTru (wIsi .int (wVar 1)))) (wOrT (wTru (wIsi .bool (wVar 1))) (wNotT (wB (wChain dLe dLe (wC (.int 0)) (wVar 1) (wC (.int 999999))))))) (wRet (wC (.bl false))) wNext)
def w_is_line : WS :=
  (wSeq (wIf (wOrT (wNotT (wTru (wIsi .tuple (wVar 0)))) (wNotT (wB (wChain dLe dLe (wC (.int 1)) (wCall dLen (wCons (wVar 0) wNil)) (wC (.int 80)))))) (wRet (wC (.bl false))) wNext)
    (wSeq (wFor (wIt (wVar 0)) (.nm 1) (w_is_line_1))
    (wRet (wC (.bl true)))))
theorem b_is_line {P : Program} {w : World} {K : PySem.W.Frag} {mg : PySem.Str → Option Value} {base : Heap} {k : Nat} {f : Addr} {C : Addr} (g : G K mg C) (cdv : Value) (A : Around) (outer : List PySem.Env) (s : Shared) (H : Hp) (E : XK) (hr : Room k (A.deeper (envOfC "is_line" sc_is_line s.heap.objs.size f cdv))) :
    DSs (cx P w K mg base nm_is_line "is_line" sc_is_line f cdv A outer s H E) (defBody st_is_line) (w_is_line) :=
  (dss_cons (ds_if (tW (dw_or (dt_not (tV (xIsi .tuple g.b_isinstance g.b_tuple (xV 0)))) (dw_or1 (dt_not (tLeLe xInt (xBi call_lenR lift_len boot_len g.b_len (xArg (xV 0) da_nil)) (xGI g.c_MOST_MARKS)))))) (dss_one (ds_ret xBl)) dss_nil)
    (dss_cons (sFor (di_expr (xV 0)) (gN 1 nd_is_line) (dss_one (ds_if (tW (dw_or (dt_not (tV (xIsi .int g.b_isinstance g.b_int (xV 1)))) (dw_or (tV (xIsi .bool g.b_isinstance g.b_bool (xV 1))) (dw_or1 (dt_not (tLeLe xInt (xV 1) (xGI g.c_LAST_MARK))))))) (dss_one (ds_ret xBl)) dss_nil)))
    (dss_one (ds_ret xBl))))
/-! are_unlike_lines -/
abbrev st_are_unlike_lines : Stmt := top 12
abbrev sc_are_unlike_lines : Scope := defScope st_are_unlike_lines
abbrev nm_are_unlike_lines : List PySem.Str := [("thing" : PySem.Str), ("line" : PySem.Str), ("found" : PySem.Str)]
abbrev ps_are_unlike_lines : List PySem.Str := [("thing" : PySem.Str)]
theorem nd_are_unlike_lines : nm_are_unlike_lines.Nodup := by decide +kernel
theorem fs_are_unlike_lines : FnScope nm_are_unlike_lines ps_are_unlike_lines sc_are_unlike_lines := ⟨rfl, rfl, rfl, nd_are_unlike_lines, rfl, by decide +kernel, by decide +kernel⟩
def w_are_unlike_lines_1 (sp_is_line : DSp) : WS :=
  (wPut (wC (.bl true)) (wVar 2) (wVar 1))
def w_are_unlike_lines (sp_is_line : DSp) : WS :=
  (wSeq (wIf (wOrT (wNotT (wTru (wIsi .tuple (wVar 0)))) (wNotT (wTru (wCall (dAll fun bs => bs.all id) (wCons (wLc (wIt (wVar 0)) (.nm 1) [1] wYes (wCall sp_is_line (wCons (wVar 1) wNil))) wNil))))) (wRet (wC (.bl false))) wNext)
    (wSeq (wSet 2 wDnew)
    (wSeq (wFor (wIt (wVar 0)) (.nm 1) (w_are_unlike_lines_1 sp_is_line))
    (wRet (wBin (dEq id) (wCall dLen (wCons (wVar 2) wNil)) (wCall dLen (wCons (wVar 0) wNil)))))))
theorem b_are_unlike_lines {P : Program} {w : World} {K : PySem.W.Frag} {mg : PySem.Str → Option Value} {base : Heap} {k : Nat} {f : Addr} {C : Addr} (g : G K mg C) {sp_is_line : DSp} (h_is_line : CalD P w K mg base k "is_line" sp_is_line) (cdv : Value) (A : Around) (outer : List PySem.Env) (s : Shared) (H : Hp) (E : XK) (hr : Room k (A.deeper (envOfC "are_unlike_lines" sc_are_unlike_lines s.heap.objs.size f cdv))) :
    DSs (cx P w K mg base nm_are_unlike_lines "are_unlike_lines" sc_are_unlike_lines f cdv A outer s H E) (defBody st_are_unlike_lines) (w_are_unlike_lines sp_is_line) :=
  (dss_cons (ds_if (tW (dw_or (dt_not (tV (xIsi .tuple g.b_isinstance g.b_tuple (xV 0)))) (dw_or1 (dt_not (tV (xBi (cr_all rfl) lift_all bt_all g.b_all (xArg (xLc (own := [(("line" : PySem.Str), 1)]) nd_are_unlike_lines (show BlkOk nm_are_unlike_lines sc_are_unlike_lines _ [(("line" : PySem.Str), 1)] from blk (by decide +kernel)) (di_expr (xV 0)) (fun _ _ _ _ _ => (gN 1 nd_are_unlike_lines)) (fun _ _ _ _ _ => dts_nil) (fun _ _ _ _ _ => (xF h_is_line hr (xArg (xV 1) da_nil)))) da_nil))))))) (dss_one (ds_ret xBl)) dss_nil)
    (dss_cons (sSet 2 nd_are_unlike_lines de_dnew)
    (dss_cons (sFor (di_expr (xV 0)) (gN 1 nd_are_unlike_lines) (dss_one (sPut hr xBl (xV 2) (xV 1))))
    (dss_one (ds_ret (xEq hr (xBi call_lenR lift_len boot_len g.b_len (xArg (xV 2) da_nil)) (xBi call_lenR lift_len boot_len g.b_len (xArg (xV 0) da_nil))))))))
/-! is_ban_list -/
abbrev st_is_ban_list : Stmt := top 13
abbrev sc_is_ban_list : Scope := defScope st_is_ban_list
abbrev nm_is_ban_list : List PySem.Str := [("thing" : PySem.Str), ("met" : PySem.Str), ("count" : PySem.Str), ("pair" : PySem.Str), ("atom" : PySem.Str), ("lines" : PySem.Str)]
abbrev ps_is_ban_list : List PySem.Str := [("thing" : PySem.Str)]
theorem nd_is_ban_list : nm_is_ban_list.Nodup := by decide +kernel
theorem fs_is_ban_list : FnScope nm_is_ban_list ps_is_ban_list sc_is_ban_list := ⟨rfl, rfl, rfl, nd_is_ban_list, rfl, by decide +kernel, by decide +kernel⟩
def w_is_ban_list_1 (sp_is_atom sp_are_unlike_lines : DSp) : WS :=
  (wSeq (wIf (wOrT (wNotT (wTru (wIsi .tuple (wVar 3)))) (wB (wBin (dEq not) (wCall dLen (wCons (wVar 3) wNil)) (wC (.int 2))))) (wRet (wC (.bl false))) wNext)
    (wSeq (wAsg (.tp [4, 5]) (wVar 3))
    (wSeq (wIf (wOrT (wNotT (wTru (wCall sp_is_atom (wCons (wVar 4) wNil)))) (wOrT (wB (wBin (dIn id) (wVar 4) (wVar 1))) (wNotT (wTru (wCall sp_are_unlike_lines (wCons (wVar 5) wNil)))))) (wRet (wC (.bl false))) wNext)
    (wSeq (wPut (wC (.bl true)) (wVar 1) (wVar 4))
    (wAug 2 dIAdd (wCall dLen (wCons (wVar 5) wNil)))))))
def w_is_ban_list (sp_is_atom sp_are_unlike_lines : DSp) : WS :=
  (wSeq (wIf (wOrT (wNotT (wTru (wIsi .tuple (wVar 0)))) (wB (wBin dGt (wCall dLen (wCons (wVar 0) wNil)) (wC (.int 100))))) (wRet (wC (.bl false))) wNext)
    (wSeq (wSet 1 wDnew)
    (wSeq (wSet 2 (wC (.int 0)))
    (wSeq (wFor (wIt (wVar 0)) (.nm 3) (w_is_ban_list_1 sp_is_atom sp_are_unlike_lines))
    (wRet (wBin dLe (wVar 2) (wC (.int 100))))))))
theorem b_is_ban_list {P : Program} {w : World} {K : PySem.W.Frag} {mg : PySem.Str → Option Value} {base : Heap} {k : Nat} {f : Addr} {C : Addr} (g : G K mg C) {sp_is_atom sp_are_unlike_lines : DSp} (h_is_atom : CalD P w K mg base k "is_atom" sp_is_atom) (h_are_unlike_lines : CalD P w K mg base k "are_unlike_lines" sp_are_unlike_lines) (cdv : Value) (A : Around) (outer : List PySem.Env) (s : Shared) (H : Hp) (E : XK) (hr : Room k (A.deeper (envOfC "is_ban_list" sc_is_ban_list s.heap.objs.size f cdv))) :
    DSs (cx P w K mg base nm_is_ban_list "is_ban_list" sc_is_ban_list f cdv A outer s H E) (defBody st_is_ban_list) (w_is_ban_list sp_is_atom sp_are_unlike_lines) :=
  (dss_cons (ds_if (tW (dw_or (dt_not (tV (xIsi .tuple g.b_isinstance g.b_tuple (xV 0)))) (dw_or1 (tGt (xBi call_lenR lift_len boot_len g.b_len (xArg (xV 0) da_nil)) (xGI g.c_MOST_LINES))))) (dss_one (ds_ret xBl)) dss_nil)
    (dss_cons (sSet 1 nd_is_ban_list de_dnew)
    (dss_cons (sSet 2 nd_is_ban_list xInt)
    (dss_cons (sFor (di_expr (xV 0)) (gN 3 nd_is_ban_list) (dss_cons (ds_if (tW (dw_or (dt_not (tV (xIsi .tuple g.b_isinstance g.b_tuple (xV 3)))) (dw_or1 (tNe hr (xBi call_lenR lift_len boot_len g.b_len (xArg (xV 3) da_nil)) xInt)))) (dss_one (ds_ret xBl)) dss_nil)
    (dss_cons (sAsg (xV 3) (gG (pgs1 (gN 4 nd_is_ban_list) (pgs1 (gN 5 nd_is_ban_list) pgs0))))
    (dss_cons (ds_if (tW (dw_or (dt_not (tV (xF h_is_atom hr (xArg (xV 4) da_nil)))) (dw_or (tIn hr (xV 4) (xV 1)) (dw_or1 (dt_not (tV (xF h_are_unlike_lines hr (xArg (xV 5) da_nil)))))))) (dss_one (ds_ret xBl)) dss_nil)
    (dss_cons (sPut hr xBl (xV 1) (xV 4))
    (dss_one (sAugAdd 2 nd_is_ban_list (xBi call_lenR lift_len boot_len g.b_len (xArg (xV 5) da_nil)))))))))
    (dss_one (ds_ret (xLe (xV 2) (xGI g.c_MOST_LINES))))))))
/-! atom_banned -/
abbrev st_atom_banned : Stmt := top 14
abbrev sc_atom_banned : Scope := defScope st_atom_banned
abbrev nm_atom_banned : List PySem.Str := [("bans" : PySem.Str), ("atom" : PySem.Str), ("found" : PySem.Str), ("other" : PySem.Str), ("lines" : PySem.Str), ("line" : PySem.Str)]
abbrev ps_atom_banned : List PySem.Str := [("bans" : PySem.Str), ("atom" : PySem.Str)]
theorem nd_atom_banned : nm_atom_banned.Nodup := by decide +kernel
theorem fs_atom_banned : FnScope nm_atom_banned ps_atom_banned sc_atom_banned := ⟨rfl, rfl, rfl, nd_atom_banned, rfl, by decide +kernel, by decide +kernel⟩
def w_atom_banned_1 : WS :=
  (wPut (wC (.bl true)) (wVar 2) (wVar 5))
def w_atom_banned_2 : WS :=
  (wIf (wB (wBin (dEq id) (wVar 3) (wVar 1))) (wFor (wIt (wVar 4)) (.nm 5) (w_atom_banned_1)) wNext)
def w_atom_banned : WS :=
  (wSeq (wSet 2 wDnew)
    (wSeq (wFor (wIt (wVar 0)) (.tp [3, 4]) (w_atom_banned_2))
    (wRet (wVar 2))))
theorem b_atom_banned {P : Program} {w : World} {K : PySem.W.Frag} {mg : PySem.Str → Option Value} {base : Heap} {k : Nat} {f : Addr} {C : Addr} (g : G K mg C) (cdv : Value) (A : Around) (outer : List PySem.Env) (s : Shared) (H : Hp) (E : XK) (hr : Room k (A.deeper (envOfC "atom_banned" sc_atom_banned s.heap.objs.size f cdv))) :
    DSs (cx P w K mg base nm_atom_banned "atom_banned" sc_atom_banned f cdv A outer s H E) (defBody st_atom_banned) (w_atom_banned) :=
  (dss_cons (sSet 2 nd_atom_banned de_dnew)
    (dss_cons (sFor (di_expr (xV 0)) (gG (pgs1 (gN 3 nd_atom_banned) (pgs1 (gN 4 nd_atom_banned) pgs0))) (dss_one (ds_if (tEq hr (xV 3) (xV 1)) (dss_one (sFor (di_expr (xV 4)) (gN 5 nd_atom_banned) (dss_one (sPut hr xBl (xV 2) (xV 5))))) dss_nil)))
    (dss_one (ds_ret (xV 2)))))
/-! over_banned -/
abbrev st_over_banned : Stmt := top 15
abbrev sc_over_banned : Scope := defScope st_over_banned
abbrev nm_over_banned : List PySem.Str := [("result" : PySem.Str), ("argument" : PySem.Str), ("found" : PySem.Str), ("line" : PySem.Str), ("cut" : PySem.Str)]
abbrev ps_over_banned : List PySem.Str := [("result" : PySem.Str), ("argument" : PySem.Str)]
theorem nd_over_banned : nm_over_banned.Nodup := by decide +kernel
theorem fs_over_banned : FnScope nm_over_banned ps_over_banned sc_over_banned := ⟨rfl, rfl, rfl, nd_over_banned, rfl, by decide +kernel, by decide +kernel⟩
def w_over_banned_1 : WS :=
  (wIf (wB (wBin (dIn not) (wSl (wVar 3) (wPart (wVar 4)) wNoPart) (wVar 1))) (wPut (wC (.bl true)) (wVar 2) (wSl (wVar 3) wNoPart (wPart (wVar 4)))) wNext)
def w_over_banned_2 : WS :=
  (wFor (wRange2 (wC (.int 1)) (wCall dLen (wCons (wVar 3) wNil))) (.nm 4) (w_over_banned_1))
def w_over_banned : WS :=
  (wSeq (wSet 2 wDnew)
    (wSeq (wFor (wIt (wVar 0)) (.nm 3) (w_over_banned_2))
    (wRet (wVar 2))))
theorem b_over_banned {P : Program} {w : World} {K : PySem.W.Frag} {mg : PySem.Str → Option Value} {base : Heap} {k : Nat} {f : Addr} {C : Addr} (g : G K mg C) (cdv : Value) (A : Around) (outer : List PySem.Env) (s : Shared) (H : Hp) (E : XK) (hr : Room k (A.deeper (envOfC "over_banned" sc_over_banned s.heap.objs.size f cdv))) :
    DSs (cx P w K mg base nm_over_banned "over_banned" sc_over_banned f cdv A outer s H E) (defBody st_over_banned) (w_over_banned) :=
  (dss_cons (sSet 2 nd_over_banned de_dnew)
    (dss_cons (sFor (di_expr (xV 0)) (gN 3 nd_over_banned) (dss_one (sFor (iR2 g.b_range xInt (xBi call_lenR lift_len boot_len g.b_len (xArg (xV 3) da_nil))) (gN 4 nd_over_banned) (dss_one (ds_if (tNIn hr (de_slice (xV 3) (do_some (xV 4)) do_none) (xV 1)) (dss_one (sPut hr xBl (xV 2) (de_slice (xV 3) do_none (do_some (xV 4))))) dss_nil)))))
    (dss_one (ds_ret (xV 2)))))
/-! under_banned -/
abbrev st_under_banned : Stmt := top 16
abbrev sc_under_banned : Scope := defScope st_under_banned
abbrev nm_under_banned : List PySem.Str := [("argument" : PySem.Str), ("result" : PySem.Str), ("found" : PySem.Str), ("line" : PySem.Str), ("cut" : PySem.Str)]
abbrev ps_under_banned : List PySem.Str := [("argument" : PySem.Str), ("result" : PySem.Str)]
theorem nd_under_banned : nm_under_banned.Nodup := by decide +kernel
theorem fs_under_banned : FnScope nm_under_banned ps_under_banned sc_under_banned := ⟨rfl, rfl, rfl, nd_under_banned, rfl, by decide +kernel, by decide +kernel⟩
def w_under_banned_1 : WS :=
  (wIf (wB (wBin (dIn not) (wSl (wVar 3) wNoPart (wPart (wVar 4))) (wVar 0))) (wPut (wC (.bl true)) (wVar 2) (wSl (wVar 3) (wPart (wVar 4)) wNoPart)) wNext)
def w_under_banned_2 : WS :=
  (wFor (wRange2 (wC (.int 1)) (wCall dLen (wCons (wVar 3) wNil))) (.nm 4) (w_under_banned_1))
def w_under_banned : WS :=
  (wSeq (wSet 2 wDnew)
    (wSeq (wFor (wIt (wVar 1)) (.nm 3) (w_under_banned_2))
    (wRet (wVar 2))))
theorem b_under_banned {P : Program} {w : World} {K : PySem.W.Frag} {mg : PySem.Str → Option Value} {base : Heap} {k : Nat} {f : Addr} {C : Addr} (g : G K mg C) (cdv : Value) (A : Around) (outer : List PySem.Env) (s : Shared) (H : Hp) (E : XK) (hr : Room k (A.deeper (envOfC "under_banned" sc_under_banned s.heap.objs.size f cdv))) :
    DSs (cx P w K mg base nm_under_banned "under_banned" sc_under_banned f cdv A outer s H E) (defBody st_under_banned) (w_under_banned) :=
  (dss_cons (sSet 2 nd_under_banned de_dnew)
    (dss_cons (sFor (di_expr (xV 1)) (gN 3 nd_under_banned) (dss_one (sFor (iR2 g.b_range xInt (xBi call_lenR lift_len boot_len g.b_len (xArg (xV 3) da_nil))) (gN 4 nd_under_banned) (dss_one (ds_if (tNIn hr (de_slice (xV 3) do_none (do_some (xV 4))) (xV 0)) (dss_one (sPut hr xBl (xV 2) (de_slice (xV 3) (do_some (xV 4)) do_none))) dss_nil)))))
    (dss_one (ds_ret (xV 2)))))
/-! is_allowed_row -/
abbrev st_is_allowed_row : Stmt := top 17
abbrev sc_is_allowed_row : Scope := defScope st_is_allowed_row
abbrev nm_is_allowed_row : List PySem.Str := [("line" : PySem.Str), ("first" : PySem.Str), ("second" : PySem.Str), ("cut" : PySem.Str)]
abbrev ps_is_allowed_row : List PySem.Str := [("line" : PySem.Str), ("first" : PySem.Str), ("second" : PySem.Str)]
theorem nd_is_allowed_row : nm_is_allowed_row.Nodup := by decide +kernel
theorem fs_is_allowed_row : FnScope nm_is_allowed_row ps_is_allowed_row sc_is_allowed_row := ⟨rfl, rfl, rfl, nd_is_allowed_row, rfl, by decide +kernel, by decide +kernel⟩
def w_is_allowed_row : WS :=
  (wRet (wCall (dAll fun bs => bs.any id) (wCons (wLc (wRange2 (wC (.int 1)) (wCall dLen (wCons (wVar 0) wNil))) (.nm 3) [3] wYes (wAndV (wBin (dIn not) (wSl (wVar 0) wNoPart (wPart (wVar 3))) (wVar 1)) (wBin (dIn not) (wSl (wVar 0) (wPart (wVar 3)) wNoPart) (wVar 2)))) wNil)))
theorem b_is_allowed_row {P : Program} {w : World} {K : PySem.W.Frag} {mg : PySem.Str → Option Value} {base : Heap} {k : Nat} {f : Addr} {C : Addr} (g : G K mg C) (cdv : Value) (A : Around) (outer : List PySem.Env) (s : Shared) (H : Hp) (E : XK) (hr : Room k (A.deeper (envOfC "is_allowed_row" sc_is_allowed_row s.heap.objs.size f cdv))) :
    DSs (cx P w K mg base nm_is_allowed_row "is_allowed_row" sc_is_allowed_row f cdv A outer s H E) (defBody st_is_allowed_row) (w_is_allowed_row) :=
  (dss_one (ds_ret (xBi (cr_any rfl) lift_any bt_any g.b_any (xArg (xLc (own := [(("cut" : PySem.Str), 3)]) nd_is_allowed_row (show BlkOk nm_is_allowed_row sc_is_allowed_row _ [(("cut" : PySem.Str), 3)] from blk (by decide +kernel)) (iR2 g.b_range xInt (xBi call_lenR lift_len boot_len g.b_len (xArg (xV 0) da_nil))) (fun _ _ _ _ _ => (gN 3 nd_is_allowed_row)) (fun _ _ _ _ _ => dts_nil) (fun _ _ _ _ _ => (de_and (xNIn hr (de_slice (xV 0) do_none (do_some (xV 3))) (xV 1)) (de_one (xNIn hr (de_slice (xV 0) (do_some (xV 3)) do_none) (xV 2)))))) da_nil))))
/-! allowed_frames -/
abbrev st_allowed_frames : Stmt := top 18
abbrev sc_allowed_frames : Scope := defScope st_allowed_frames
abbrev nm_allowed_frames : List PySem.Str := [("lines" : PySem.Str), ("first" : PySem.Str), ("second" : PySem.Str), ("found" : PySem.Str), ("line" : PySem.Str), ("start" : PySem.Str), ("stop" : PySem.Str)]
abbrev ps_allowed_frames : List PySem.Str := [("lines" : PySem.Str), ("first" : PySem.Str), ("second" : PySem.Str)]
theorem nd_allowed_frames : nm_allowed_frames.Nodup := by decide +kernel
theorem fs_allowed_frames : FnScope nm_allowed_frames ps_allowed_frames sc_allowed_frames := ⟨rfl, rfl, rfl, nd_allowed_frames, rfl, by decide +kernel, by decide +kernel⟩
def w_allowed_frames_1 (sp_is_allowed_row : DSp) : WS :=
  (wIf (wTru (wCall sp_is_allowed_row (wCons (wSl (wVar 4) (wPart (wVar 5)) (wPart (wVar 6))) (wCons (wVar 1) (wCons (wVar 2) wNil))))) (wPut (wC (.bl true)) (wVar 3) (wTup (wCons (wSl (wVar 4) wNoPart (wPart (wVar 5))) (wCons (wSl (wVar 4) (wPart (wVar 6)) wNoPart) wNil)))) wNext)
def w_allowed_frames_2 (sp_is_allowed_row : DSp) : WS :=
  (wFor (wRange2 (wBin dAdd (wVar 5) (wC (.int 2))) (wBin dAdd (wCall dLen (wCons (wVar 4) wNil)) (wC (.int 1)))) (.nm 6) (w_allowed_frames_1 sp_is_allowed_row))
def w_allowed_frames_3 (sp_is_allowed_row : DSp) : WS :=
  (wFor (wRange1 (wCall dLen (wCons (wVar 4) wNil))) (.nm 5) (w_allowed_frames_2 sp_is_allowed_row))
def w_allowed_frames (sp_is_allowed_row : DSp) : WS :=
  (wSeq (wSet 3 wDnew)
    (wSeq (wFor (wIt (wVar 0)) (.nm 4) (w_allowed_frames_3 sp_is_allowed_row))
    (wRet (wVar 3))))
theorem b_allowed_frames {P : Program} {w : World} {K : PySem.W.Frag} {mg : PySem.Str → Option Value} {base : Heap} {k : Nat} {f : Addr} {C : Addr} (g : G K mg C) {sp_is_allowed_row : DSp} (h_is_allowed_row : CalD P w K mg base k "is_allowed_row" sp_is_allowed_row) (cdv : Value) (A : Around) (outer : List PySem.Env) (s : Shared) (H : Hp) (E : XK) (hr : Room k (A.deeper (envOfC "allowed_frames" sc_allowed_frames s.heap.objs.size f cdv))) :
    DSs (cx P w K mg base nm_allowed_frames "allowed_frames" sc_allowed_frames f cdv A outer s H E) (defBody st_allowed_frames) (w_allowed_frames sp_is_allowed_row) :=
  (dss_cons (sSet 3 nd_allowed_frames de_dnew)
    (dss_cons (sFor (di_expr (xV 0)) (gN 4 nd_allowed_frames) (dss_one (sFor (iR1 g.b_range (xBi call_lenR lift_len boot_len g.b_len (xArg (xV 4) da_nil))) (gN 5 nd_allowed_frames) (dss_one (sFor (iR2 g.b_range (xAdd (xV 5) xInt) (xAdd (xBi call_lenR lift_len boot_len g.b_len (xArg (xV 4) da_nil)) xInt)) (gN 6 nd_allowed_frames) (dss_one (ds_if (tV (xF h_is_allowed_row hr (xArg (de_slice (xV 4) (do_some (xV 5)) (do_some (xV 6))) (xArg (xV 1) (xArg (xV 2) da_nil))))) (dss_one (sPut hr xBl (xV 3) (de_tup (xArg (de_slice (xV 4) do_none (do_some (xV 5))) (xArg (de_slice (xV 4) (do_some (xV 6)) do_none) da_nil))))) dss_nil)))))))
    (dss_one (ds_ret (xV 3)))))
/-! pair_banned -/
abbrev st_pair_banned : Stmt := top 19
abbrev sc_pair_banned : Scope := defScope st_pair_banned
abbrev nm_pair_banned : List PySem.Str := [("bans" : PySem.Str), ("first" : PySem.Str), ("second" : PySem.Str), ("found" : PySem.Str), ("_" : PySem.Str), ("lines" : PySem.Str), ("frames" : PySem.Str), ("line" : PySem.Str), ("start" : PySem.Str), ("stop" : PySem.Str)]
abbrev ps_pair_banned : List PySem.Str := [("bans" : PySem.Str), ("first" : PySem.Str), ("second" : PySem.Str)]
theorem nd_pair_banned : nm_pair_banned.Nodup := by decide +kernel
theorem fs_pair_banned : FnScope nm_pair_banned ps_pair_banned sc_pair_banned := ⟨rfl, rfl, rfl, nd_pair_banned, rfl, by decide +kernel, by decide +kernel⟩
def w_pair_banned_1 (sp_allowed_frames : DSp) : WS :=
  (wIf (wB (wBin (dIn not) (wTup (wCons (wSl (wVar 7) wNoPart (wPart (wVar 8))) (wCons (wSl (wVar 7) (wPart (wVar 9)) wNoPart) wNil))) (wVar 6))) (wPut (wC (.bl true)) (wVar 3) (wSl (wVar 7) (wPart (wVar 8)) (wPart (wVar 9)))) wNext)
def w_pair_banned_2 (sp_allowed_frames : DSp) : WS :=
  (wFor (wRange2 (wBin dAdd (wVar 8) (wC (.int 1))) (wBin dAdd (wCall dLen (wCons (wVar 7) wNil)) (wC (.int 1)))) (.nm 9) (w_pair_banned_1 sp_allowed_frames))
def w_pair_banned_3 (sp_allowed_frames : DSp) : WS :=
  (wFor (wRange1 (wCall dLen (wCons (wVar 7) wNil))) (.nm 8) (w_pair_banned_2 sp_allowed_frames))
def w_pair_banned_4 (sp_allowed_frames : DSp) : WS :=
  (wSeq (wSet 6 (wCall sp_allowed_frames (wCons (wVar 5) (wCons (wVar 1) (wCons (wVar 2) wNil)))))
    (wFor (wIt (wVar 5)) (.nm 7) (w_pair_banned_3 sp_allowed_frames)))
def w_pair_banned (sp_allowed_frames : DSp) : WS :=
  (wSeq (wSet 3 wDnew)
    (wSeq (wFor (wIt (wVar 0)) (.tp [4, 5]) (w_pair_banned_4 sp_allowed_frames))
    (wRet (wVar 3))))
theorem b_pair_banned {P : Program} {w : World} {K : PySem.W.Frag} {mg : PySem.Str → Option Value} {base : Heap} {k : Nat} {f : Addr} {C : Addr} (g : G K mg C) {sp_allowed_frames : DSp} (h_allowed_frames : CalD P w K mg base k "allowed_frames" sp_allowed_frames) (cdv : Value) (A : Around) (outer : List PySem.Env) (s : Shared) (H : Hp) (E : XK) (hr : Room k (A.deeper (envOfC "pair_banned" sc_pair_banned s.heap.objs.size f cdv))) :
    DSs (cx P w K mg base nm_pair_banned "pair_banned" sc_pair_banned f cdv A outer s H E) (defBody st_pair_banned) (w_pair_banned sp_allowed_frames) :=
  (dss_cons (sSet 3 nd_pair_banned de_dnew)
    (dss_cons (sFor (di_expr (xV 0)) (gG (pgs1 (gN 4 nd_pair_banned) (pgs1 (gN 5 nd_pair_banned) pgs0))) (dss_cons (sSet 6 nd_pair_banned (xF h_allowed_frames hr (xArg (xV 5) (xArg (xV 1) (xArg (xV 2) da_nil)))))
    (dss_one (sFor (di_expr (xV 5)) (gN 7 nd_pair_banned) (dss_one (sFor (iR1 g.b_range (xBi call_lenR lift_len boot_len g.b_len (xArg (xV 7) da_nil))) (gN 8 nd_pair_banned) (dss_one (sFor (iR2 g.b_range (xAdd (xV 8) xInt) (xAdd (xBi call_lenR lift_len boot_len g.b_len (xArg (xV 7) da_nil)) xInt)) (gN 9 nd_pair_banned) (dss_one (ds_if (tNIn hr (de_tup (xArg (de_slice (xV 7) do_none (do_some (xV 8))) (xArg (de_slice (xV 7) (do_some (xV 9)) do_none) da_nil))) (xV 6)) (dss_one (sPut hr xBl (xV 3) (de_slice (xV 7) (do_some (xV 8)) (do_some (xV 9))))) dss_nil))))))))))
    (dss_one (ds_ret (xV 3)))))
/-! kind_banned -/
abbrev st_kind_banned : Stmt := top 20
abbrev sc_kind_banned : Scope := defScope st_kind_banned
abbrev nm_kind_banned : List PySem.Str := [("bans" : PySem.Str), ("kind" : PySem.Str), ("sign" : PySem.Str), ("first" : PySem.Str), ("second" : PySem.Str), ("first_banned" : PySem.Str), ("second_banned" : PySem.Str)]
abbrev ps_kind_banned : List PySem.Str := [("bans" : PySem.Str), ("kind" : PySem.Str)]
theorem nd_kind_banned : nm_kind_banned.Nodup := by decide +kernel
theorem fs_kind_banned : FnScope nm_kind_banned ps_kind_banned sc_kind_banned := ⟨rfl, rfl, rfl, nd_kind_banned, rfl, by decide +kernel, by decide +kernel⟩
def w_kind_banned (sp_atom_banned sp_kind_banned sp_over_banned sp_under_banned sp_pair_banned : DSp) : WS :=
  (wSeq (wIf (wTru (wIsi .str (wVar 1))) (wRet (wCall sp_atom_banned (wCons (wVar 0) (wCons (wVar 1) wNil)))) wNext)
    (wSeq (wAsg (.tp [2, 3, 4]) (wVar 1))
    (wSeq (wSet 5 (wCall sp_kind_banned (wCons (wVar 0) (wCons (wVar 3) wNil))))
    (wSeq (wSet 6 (wCall sp_kind_banned (wCons (wVar 0) (wCons (wVar 4) wNil))))
    (wSeq (wIf (wB (wBin (dEq id) (wVar 2) (wC (.str "/")))) (wRet (wCall sp_over_banned (wCons (wVar 5) (wCons (wVar 6) wNil)))) wNext)
    (wSeq (wIf (wB (wBin (dEq id) (wVar 2) (wC (.str ">")))) (wRet (wCall sp_under_banned (wCons (wVar 5) (wCons (wVar 6) wNil)))) wNext)
    (wRet (wCall sp_pair_banned (wCons (wVar 0) (wCons (wVar 5) (wCons (wVar 6) wNil)))))))))))
theorem b_kind_banned {P : Program} {w : World} {K : PySem.W.Frag} {mg : PySem.Str → Option Value} {base : Heap} {k : Nat} {f : Addr} {C : Addr} (g : G K mg C) {sp_atom_banned sp_kind_banned sp_over_banned sp_under_banned sp_pair_banned : DSp} (h_atom_banned : CalD P w K mg base k "atom_banned" sp_atom_banned) (h_kind_banned : CalD P w K mg base k "kind_banned" sp_kind_banned) (h_over_banned : CalD P w K mg base k "over_banned" sp_over_banned) (h_under_banned : CalD P w K mg base k "under_banned" sp_under_banned) (h_pair_banned : CalD P w K mg base k "pair_banned" sp_pair_banned) (cdv : Value) (A : Around) (outer : List PySem.Env) (s : Shared) (H : Hp) (E : XK) (hr : Room k (A.deeper (envOfC "kind_banned" sc_kind_banned s.heap.objs.size f cdv))) :
    DSs (cx P w K mg base nm_kind_banned "kind_banned" sc_kind_banned f cdv A outer s H E) (defBody st_kind_banned) (w_kind_banned sp_atom_banned sp_kind_banned sp_over_banned sp_under_banned sp_pair_banned) :=
  (dss_cons (ds_if (tV (xIsi .str g.b_isinstance g.b_str (xV 1))) (dss_one (ds_ret (xF h_atom_banned hr (xArg (xV 0) (xArg (xV 1) da_nil))))) dss_nil)
    (dss_cons (sAsg (xV 1) (gG (pgs1 (gN 2 nd_kind_banned) (pgs1 (gN 3 nd_kind_banned) (pgs1 (gN 4 nd_kind_banned) pgs0)))))
    (dss_cons (sSet 5 nd_kind_banned (xF h_kind_banned hr (xArg (xV 0) (xArg (xV 3) da_nil))))
    (dss_cons (sSet 6 nd_kind_banned (xF h_kind_banned hr (xArg (xV 0) (xArg (xV 4) da_nil))))
    (dss_cons (ds_if (tEq hr (xV 2) xStr) (dss_one (ds_ret (xF h_over_banned hr (xArg (xV 5) (xArg (xV 6) da_nil))))) dss_nil)
    (dss_cons (ds_if (tEq hr (xV 2) xStr) (dss_one (ds_ret (xF h_under_banned hr (xArg (xV 5) (xArg (xV 6) da_nil))))) dss_nil)
    (dss_one (ds_ret (xF h_pair_banned hr (xArg (xV 0) (xArg (xV 5) (xArg (xV 6) da_nil))))))))))))
/-! line_key -/
abbrev st_line_key : Stmt := top 21
abbrev sc_line_key : Scope := defScope st_line_key
abbrev nm_line_key : List PySem.Str := [("line" : PySem.Str)]
abbrev ps_line_key : List PySem.Str := [("line" : PySem.Str)]
theorem nd_line_key : nm_line_key.Nodup := by decide +kernel
theorem fs_line_key : FnScope nm_line_key ps_line_key sc_line_key := ⟨rfl, rfl, rfl, nd_line_key, rfl, by decide +kernel, by decide +kernel⟩
def w_line_key : WS :=
  (wRet (wTup (wCons (wCall dLen (wCons (wVar 0) wNil)) (wCons (wVar 0) wNil))))
theorem b_line_key {P : Program} {w : World} {K : PySem.W.Frag} {mg : PySem.Str → Option Value} {base : Heap} {k : Nat} {f : Addr} {C : Addr} (g : G K mg C) (cdv : Value) (A : Around) (outer : List PySem.Env) (s : Shared) (H : Hp) (E : XK) (hr : Room k (A.deeper (envOfC "line_key" sc_line_key s.heap.objs.size f cdv))) :
    DSs (cx P w K mg base nm_line_key "line_key" sc_line_key f cdv A outer s H E) (defBody st_line_key) (w_line_key) :=
  (dss_one (ds_ret (de_tup (xArg (xBi call_lenR lift_len boot_len g.b_len (xArg (xV 0) da_nil)) (xArg (xV 0) da_nil)))))
/-! banned_lines -/
abbrev st_banned_lines : Stmt := top 22
abbrev sc_banned_lines : Scope := defScope st_banned_lines
abbrev nm_banned_lines : List PySem.Str := [("bans" : PySem.Str), ("kind" : PySem.Str)]
abbrev ps_banned_lines : List PySem.Str := [("bans" : PySem.Str), ("kind" : PySem.Str)]
theorem nd_banned_lines : nm_banned_lines.Nodup := by decide +kernel
theorem fs_banned_lines : FnScope nm_banned_lines ps_banned_lines sc_banned_lines := ⟨rfl, rfl, rfl, nd_banned_lines, rfl, by decide +kernel, by decide +kernel⟩
def w_banned_lines (sp_kind_banned sp_line_key : DSp) : WS :=
  (wRet (wCall dTuple (wCons (wSortK sp_line_key (wCall sp_kind_banned (wCons (wVar 0) (wCons (wVar 1) wNil)))) wNil)))
theorem b_banned_lines {P : Program} {w : World} {K : PySem.W.Frag} {mg : PySem.Str → Option Value} {base : Heap} {k : Nat} {f : Addr} {C : Addr} (g : G K mg C) {sp_kind_banned sp_line_key : DSp} (h_kind_banned : CalD P w K mg base (k + 2) "kind_banned" sp_kind_banned) (h_line_key : CalD P w K mg base k "line_key" sp_line_key) (cdv : Value) (A : Around) (outer : List PySem.Env) (s : Shared) (H : Hp) (E : XK) (hr : Room (k + 2) (A.deeper (envOfC "banned_lines" sc_banned_lines s.heap.objs.size f cdv))) :
    DSs (cx P w K mg base nm_banned_lines "banned_lines" sc_banned_lines f cdv A outer s H E) (defBody st_banned_lines) (w_banned_lines sp_kind_banned sp_line_key) :=
  (dss_one (ds_ret (xTy call_tuple_of lift_tuple bt_tuple g.b_tuple (xArg (xSortK g.b_sorted h_line_key hr (xF h_kind_banned hr (xArg (xV 0) (xArg (xV 1) da_nil)))) da_nil))))
/-! format_part -/
abbrev st_format_part : Stmt := top 24
abbrev sc_format_part : Scope := defScope st_format_part
abbrev nm_format_part : List PySem.Str := [("kind" : PySem.Str)]
abbrev ps_format_part : List PySem.Str := [("kind" : PySem.Str)]
theorem nd_format_part : nm_format_part.Nodup := by decide +kernel
theorem fs_format_part : FnScope nm_format_part ps_format_part sc_format_part := ⟨rfl, rfl, rfl, nd_format_part, rfl, by decide +kernel, by decide +kernel⟩
def w_format_part (sp_format_kind : DSp) : WS :=
  (wSeq (wIf (wTru (wIsi .str (wVar 0))) (wRet (wVar 0)) wNext)
    (wRet (wBin dAdd (wBin dAdd (wC (.str "(")) (wCall sp_format_kind (wCons (wVar 0) wNil))) (wC (.str ")")))))
theorem b_format_part {P : Program} {w : World} {K : PySem.W.Frag} {mg : PySem.Str → Option Value} {base : Heap} {k : Nat} {f : Addr} {C : Addr} (g : G K mg C) {sp_format_kind : DSp} (h_format_kind : CalD P w K mg base k "format_kind" sp_format_kind) (cdv : Value) (A : Around) (outer : List PySem.Env) (s : Shared) (H : Hp) (E : XK) (hr : Room k (A.deeper (envOfC "format_part" sc_format_part s.heap.objs.size f cdv))) :
    DSs (cx P w K mg base nm_format_part "format_part" sc_format_part f cdv A outer s H E) (defBody st_format_part) (w_format_part sp_format_kind) :=
  (dss_cons (ds_if (tV (xIsi .str g.b_isinstance g.b_str (xV 0))) (dss_one (ds_ret (xV 0))) dss_nil)
    (dss_one (ds_ret (xAdd (xAdd xStr (xF h_format_kind hr (xArg (xV 0) da_nil))) xStr))))
/-! format_kind -/
abbrev st_format_kind : Stmt := top 25
abbrev sc_format_kind : Scope := defScope st_format_kind
abbrev nm_format_kind : List PySem.Str := [("kind" : PySem.Str), ("sign" : PySem.Str), ("first" : PySem.Str), ("second" : PySem.Str)]
abbrev ps_format_kind : List PySem.Str := [("kind" : PySem.Str)]
theorem nd_format_kind : nm_format_kind.Nodup := by decide +kernel
theorem fs_format_kind : FnScope nm_format_kind ps_format_kind sc_format_kind := ⟨rfl, rfl, rfl, nd_format_kind, rfl, by decide +kernel, by decide +kernel⟩
def w_format_kind (sp_format_part : DSp) : WS :=
  (wSeq (wIf (wTru (wIsi .str (wVar 0))) (wRet (wVar 0)) wNext)
    (wSeq (wAsg (.tp [1, 2, 3]) (wVar 0))
    (wRet (wBin dAdd (wBin dAdd (wBin dAdd (wBin dAdd (wCall sp_format_part (wCons (wVar 2) wNil)) (wC (.str " "))) (wVar 1)) (wC (.str " "))) (wCall sp_format_part (wCons (wVar 3) wNil))))))
theorem b_format_kind {P : Program} {w : World} {K : PySem.W.Frag} {mg : PySem.Str → Option Value} {base : Heap} {k : Nat} {f : Addr} {C : Addr} (g : G K mg C) {sp_format_part : DSp} (h_format_part : CalD P w K mg base k "format_part" sp_format_part) (cdv : Value) (A : Around) (outer : List PySem.Env) (s : Shared) (H : Hp) (E : XK) (hr : Room k (A.deeper (envOfC "format_kind" sc_format_kind s.heap.objs.size f cdv))) :
    DSs (cx P w K mg base nm_format_kind "format_kind" sc_format_kind f cdv A outer s H E) (defBody st_format_kind) (w_format_kind sp_format_part) :=
  (dss_cons (ds_if (tV (xIsi .str g.b_isinstance g.b_str (xV 0))) (dss_one (ds_ret (xV 0))) dss_nil)
    (dss_cons (sAsg (xV 0) (gG (pgs1 (gN 1 nd_format_kind) (pgs1 (gN 2 nd_format_kind) (pgs1 (gN 3 nd_format_kind) pgs0)))))
    (dss_one (ds_ret (xAdd (xAdd (xAdd (xAdd (xF h_format_part hr (xArg (xV 2) da_nil)) xStr) (xV 1)) xStr) (xF h_format_part hr (xArg (xV 3) da_nil)))))))
/-! pieces_of -/
abbrev st_pieces_of : Stmt := top 27
abbrev sc_pieces_of : Scope := defScope st_pieces_of
abbrev nm_pieces_of : List PySem.Str := [("line" : PySem.Str), ("banned" : PySem.Str), ("reached" : PySem.Str), ("lines" : PySem.Str), ("further" : PySem.Str), ("start" : PySem.Str), ("pieces" : PySem.Str), ("stop" : PySem.Str)]
abbrev ps_pieces_of : List PySem.Str := [("line" : PySem.Str), ("banned" : PySem.Str)]
theorem nd_pieces_of : nm_pieces_of.Nodup := by decide +kernel
theorem fs_pieces_of : FnScope nm_pieces_of ps_pieces_of sc_pieces_of := ⟨rfl, rfl, rfl, nd_pieces_of, rfl, by decide +kernel, by decide +kernel⟩
def w_pieces_of_1 : WS :=
  (wIf (wAndT (wB (wBin (dIn not) (wSl (wVar 0) (wPart (wVar 5)) (wPart (wVar 7))) (wVar 3))) (wB (wBin (dIn not) (wVar 7) (wVar 4)))) (wPut (wBin dAdd (wVar 6) (wTup (wCons (wSl (wVar 0) (wPart (wVar 5)) (wPart (wVar 7))) wNil))) (wVar 4) (wVar 7)) wNext)
def w_pieces_of_2 : WS :=
  (wFor (wRange2 (wBin dAdd (wVar 5) (wC (.int 1))) (wBin dAdd (wCall dLen (wCons (wVar 0) wNil)) (wC (.int 1)))) (.nm 7) (w_pieces_of_1))
def w_pieces_of_3 : WS :=
  (wSeq (wSet 4 wDnew)
    (wSeq (wFor (wItems (wVar 2)) (.tp [5, 6]) (w_pieces_of_2))
    (wSet 2 (wVar 4))))
def w_pieces_of : WS :=
  (wSeq (wSet 2 (wDisp1 (wC (.int 0)) (wTup wNil)))
    (wSeq (wFor (wIt (wVar 1)) (.nm 3) (w_pieces_of_3))
    (wRet (wGet1 (wVar 2) (wCall dLen (wCons (wVar 0) wNil))))))
theorem b_pieces_of {P : Program} {w : World} {K : PySem.W.Frag} {mg : PySem.Str → Option Value} {base : Heap} {k : Nat} {f : Addr} {C : Addr} (g : G K mg C) (cdv : Value) (A : Around) (outer : List PySem.Env) (s : Shared) (H : Hp) (E : XK) (hr : Room k (A.deeper (envOfC "pieces_of" sc_pieces_of s.heap.objs.size f cdv))) :
    DSs (cx P w K mg base nm_pieces_of "pieces_of" sc_pieces_of f cdv A outer s H E) (defBody st_pieces_of) (w_pieces_of) :=
  (dss_cons (sSet 2 nd_pieces_of (de_disp1 xInt (de_tup da_nil)))
    (dss_cons (sFor (di_expr (xV 1)) (gN 3 nd_pieces_of) (dss_cons (sSet 4 nd_pieces_of de_dnew)
    (dss_cons (sFor (di_items (xV 2) rfl rfl) (gG (pgs1 (gN 5 nd_pieces_of) (pgs1 (gN 6 nd_pieces_of) pgs0))) (dss_one (sFor (iR2 g.b_range (xAdd (xV 5) xInt) (xAdd (xBi call_lenR lift_len boot_len g.b_len (xArg (xV 0) da_nil)) xInt)) (gN 7 nd_pieces_of) (dss_one (ds_if (tW (dw_and (tNIn hr (de_slice (xV 0) (do_some (xV 5)) (do_some (xV 7))) (xV 3)) (dw_and1 (tNIn hr (xV 7) (xV 4))))) (dss_one (sPut hr (xAdd (xV 6) (de_tup (xArg (de_slice (xV 0) (do_some (xV 5)) (do_some (xV 7))) da_nil))) (xV 4) (xV 7))) dss_nil)))))
    (dss_one (sSet 2 nd_pieces_of (xV 4))))))
    (dss_one (ds_ret (xGet1 hr (xV 2) (xBi call_lenR lift_len boot_len g.b_len (xArg (xV 0) da_nil)))))))
/-! Truth.__init__ -/
abbrev st_Truth___init__ : Stmt := mth 28 0
abbrev sc_Truth___init__ : Scope := defScope st_Truth___init__
abbrev nm_Truth___init__ : List PySem.Str := [("self" : PySem.Str), ("bans" : PySem.Str)]
abbrev ps_Truth___init__ : List PySem.Str := [("self" : PySem.Str), ("bans" : PySem.Str)]
theorem nd_Truth___init__ : nm_Truth___init__.Nodup := by decide +kernel
theorem fs_Truth___init__ : FnScope nm_Truth___init__ ps_Truth___init__ sc_Truth___init__ := ⟨rfl, rfl, rfl, nd_Truth___init__, rfl, by decide +kernel, by decide +kernel⟩
def w_Truth___init__ (C : Addr) : WS :=
  (wSeq (wSetFld C "bans" (wVar 0) (wVar 1))
    (wSetFld C "banned" (wVar 0) wDnew))
theorem b_Truth___init__ {P : Program} {w : World} {K : PySem.W.Frag} {mg : PySem.Str → Option Value} {base : Heap} {k : Nat} {f : Addr} {C : Addr} (g : G K mg C) (cdv : Value) (A : Around) (outer : List PySem.Env) (s : Shared) (H : Hp) (E : XK) (hr : Room k (A.deeper (envOfC "Truth.__init__" sc_Truth___init__ s.heap.objs.size f cdv))) :
    DSs (cx P w K mg base nm_Truth___init__ "Truth.__init__" sc_Truth___init__ f cdv A outer s H E) (defBody st_Truth___init__) (w_Truth___init__ C) :=
  (dss_cons (ds_fld g.cls g.n_bans (xV 0) (xV 1) rfl)
    (dss_one (ds_fld g.cls g.n_banned (xV 0) de_dnew rfl)))
/-! Truth.banned_by -/
abbrev st_Truth_banned_by : Stmt := mth 28 1
abbrev sc_Truth_banned_by : Scope := defScope st_Truth_banned_by
abbrev nm_Truth_banned_by : List PySem.Str := [("self" : PySem.Str), ("kind" : PySem.Str), ("key" : PySem.Str)]
abbrev ps_Truth_banned_by : List PySem.Str := [("self" : PySem.Str), ("kind" : PySem.Str)]
theorem nd_Truth_banned_by : nm_Truth_banned_by.Nodup := by decide +kernel
theorem fs_Truth_banned_by : FnScope nm_Truth_banned_by ps_Truth_banned_by sc_Truth_banned_by := ⟨rfl, rfl, rfl, nd_Truth_banned_by, rfl, by decide +kernel, by decide +kernel⟩
def w_Truth_banned_by (C : Addr) (sp_format_kind sp_kind_banned : DSp) : WS :=
  (wSeq (wSet 2 (wCall sp_format_kind (wCons (wVar 1) wNil)))
    (wSeq (wIf (wB (wBin (dIn not) (wVar 2) (wFld C "banned" (wVar 0)))) (wPut (wCall sp_kind_banned (wCons (wFld C "bans" (wVar 0)) (wCons (wVar 1) wNil))) (wFld C "banned" (wVar 0)) (wVar 2)) wNext)
    (wRet (wBin dIxA (wFld C "banned" (wVar 0)) (wVar 2)))))
theorem b_Truth_banned_by {P : Program} {w : World} {K : PySem.W.Frag} {mg : PySem.Str → Option Value} {base : Heap} {k : Nat} {f : Addr} {C : Addr} (g : G K mg C) {sp_format_kind sp_kind_banned : DSp} (h_format_kind : CalD P w K mg base k "format_kind" sp_format_kind) (h_kind_banned : CalD P w K mg base k "kind_banned" sp_kind_banned) (cdv : Value) (A : Around) (outer : List PySem.Env) (s : Shared) (H : Hp) (E : XK) (hr : Room k (A.deeper (envOfC "Truth.banned_by" sc_Truth_banned_by s.heap.objs.size f cdv))) :
    DSs (cx P w K mg base nm_Truth_banned_by "Truth.banned_by" sc_Truth_banned_by f cdv A outer s H E) (defBody st_Truth_banned_by) (w_Truth_banned_by C sp_format_kind sp_kind_banned) :=
  (dss_cons (sSet 2 nd_Truth_banned_by (xF h_format_kind hr (xArg (xV 1) da_nil)))
    (dss_cons (ds_if (tNIn hr (xV 2) (de_fld g.cls g.n_banned (xV 0))) (dss_one (sPut hr (xF h_kind_banned hr (xArg (de_fld g.cls g.n_bans (xV 0)) (xArg (xV 1) da_nil))) (de_fld g.cls g.n_banned (xV 0)) (xV 2))) dss_nil)
    (dss_one (ds_ret (xIx hr (de_fld g.cls g.n_banned (xV 0)) (xV 2))))))
/-! Truth.failing -/
abbrev st_Truth_failing : Stmt := mth 28 2
abbrev sc_Truth_failing : Scope := defScope st_Truth_failing
abbrev nm_Truth_failing : List PySem.Str := [("self" : PySem.Str), ("sequent" : PySem.Str), ("premises" : PySem.Str), ("goal" : PySem.Str), ("banned" : PySem.Str), ("premise" : PySem.Str), ("line" : PySem.Str), ("pieces" : PySem.Str)]
abbrev ps_Truth_failing : List PySem.Str := [("self" : PySem.Str), ("sequent" : PySem.Str)]
theorem nd_Truth_failing : nm_Truth_failing.Nodup := by decide +kernel
theorem fs_Truth_failing : FnScope nm_Truth_failing ps_Truth_failing sc_Truth_failing := ⟨rfl, rfl, rfl, nd_Truth_failing, rfl, by decide +kernel, by decide +kernel⟩
def w_Truth_failing_1 (C : Addr) (sp_Truth_banned_by sp_pieces_of : DSp) : WS :=
  (wSeq (wSet 7 (wCall sp_pieces_of (wCons (wVar 6) (wCons (wVar 4) wNil))))
    (wIf (wB (wBin (dIs not) (wVar 7) (wC .non))) (wRet (wVar 7)) wNext))
def w_Truth_failing (C : Addr) (sp_Truth_banned_by sp_pieces_of : DSp) : WS :=
  (wSeq (wAsg (.tp [2, 3]) (wVar 1))
    (wSeq (wSet 4 (wLc (wIt (wVar 2)) (.nm 5) [5] wYes (wMeth C "banned_by" sp_Truth_banned_by (wVar 0) (wCons (wVar 5) wNil))))
    (wSeq (wFor (wIt (wMeth C "banned_by" sp_Truth_banned_by (wVar 0) (wCons (wVar 3) wNil))) (.nm 6) (w_Truth_failing_1 C sp_Truth_banned_by sp_pieces_of))
    (wRet (wC .non)))))
theorem b_Truth_failing {P : Program} {w : World} {K : PySem.W.Frag} {mg : PySem.Str → Option Value} {base : Heap} {k : Nat} {f : Addr} {C : Addr} (g : G K mg C) {sp_Truth_banned_by sp_pieces_of : DSp} (h_Truth_banned_by : MetD P w K mg base k C "banned_by" sp_Truth_banned_by) (h_pieces_of : CalD P w K mg base k "pieces_of" sp_pieces_of) (cdv : Value) (A : Around) (outer : List PySem.Env) (s : Shared) (H : Hp) (E : XK) (hr : Room k (A.deeper (envOfC "Truth.failing" sc_Truth_failing s.heap.objs.size f cdv))) :
    DSs (cx P w K mg base nm_Truth_failing "Truth.failing" sc_Truth_failing f cdv A outer s H E) (defBody st_Truth_failing) (w_Truth_failing C sp_Truth_banned_by sp_pieces_of) :=
  (dss_cons (sAsg (xV 1) (gG (pgs1 (gN 2 nd_Truth_failing) (pgs1 (gN 3 nd_Truth_failing) pgs0))))
    (dss_cons (sSetLc 4 (own := [(("premise" : PySem.Str), 5)]) nd_Truth_failing (show BlkOk nm_Truth_failing sc_Truth_failing _ [(("premise" : PySem.Str), 5)] from blk (by decide +kernel)) (di_expr (xV 2)) (fun _ _ _ _ _ => (gN 5 nd_Truth_failing)) (fun _ _ _ _ _ => dts_nil) (fun _ _ _ _ _ => (de_meth h_Truth_banned_by hr (by omega) (xV 0) (xArg (xV 5) da_nil))))
    (dss_cons (sFor (di_expr (de_meth h_Truth_banned_by hr (by omega) (xV 0) (xArg (xV 3) da_nil))) (gN 6 nd_Truth_failing) (dss_cons (sSet 7 nd_Truth_failing (xF h_pieces_of hr (xArg (xV 6) (xArg (xV 4) da_nil))))
    (dss_one (ds_if (tIsN (xV 7) xNon) (dss_one (ds_ret (xV 7))) dss_nil))))
    (dss_one (ds_ret xNon)))))
/-! failing_lines -/
abbrev st_failing_lines : Stmt := top 29
abbrev sc_failing_lines : Scope := defScope st_failing_lines
abbrev nm_failing_lines : List PySem.Str := [("bans" : PySem.Str), ("sequent" : PySem.Str)]
abbrev ps_failing_lines : List PySem.Str := [("bans" : PySem.Str), ("sequent" : PySem.Str)]
theorem nd_failing_lines : nm_failing_lines.Nodup := by decide +kernel
theorem fs_failing_lines : FnScope nm_failing_lines ps_failing_lines sc_failing_lines := ⟨rfl, rfl, rfl, nd_failing_lines, rfl, by decide +kernel, by decide +kernel⟩
def w_failing_lines (C : Addr) (sp_Truth___init__ sp_Truth_failing : DSp) : WS :=
  (wRet (wMeth C "failing" sp_Truth_failing (wMake C sp_Truth___init__ (wCons (wVar 0) wNil)) (wCons (wVar 1) wNil)))
theorem b_failing_lines {P : Program} {w : World} {K : PySem.W.Frag} {mg : PySem.Str → Option Value} {base : Heap} {k : Nat} {f : Addr} {C : Addr} (g : G K mg C) {sp_Truth___init__ sp_Truth_failing : DSp} (h_Truth___init__ : MakD P w K mg base k "Truth" C sp_Truth___init__) (h_Truth_failing : MetD P w K mg base k C "failing" sp_Truth_failing) (cdv : Value) (A : Around) (outer : List PySem.Env) (s : Shared) (H : Hp) (E : XK) (hr : Room (k + 1) (A.deeper (envOfC "failing_lines" sc_failing_lines s.heap.objs.size f cdv))) :
    DSs (cx P w K mg base nm_failing_lines "failing_lines" sc_failing_lines f cdv A outer s H E) (defBody st_failing_lines) (w_failing_lines C sp_Truth___init__ sp_Truth_failing) :=
  (dss_one (ds_ret (de_meth h_Truth_failing hr (by omega) (de_make h_Truth___init__ hr (Nat.le_refl _) rfl (xArg (xV 0) da_nil)) (xArg (xV 1) da_nil))))
/-! holds -/
abbrev st_holds : Stmt := top 30
abbrev sc_holds : Scope := defScope st_holds
abbrev nm_holds : List PySem.Str := [("bans" : PySem.Str), ("sequent" : PySem.Str)]
abbrev ps_holds : List PySem.Str := [("bans" : PySem.Str), ("sequent" : PySem.Str)]
theorem nd_holds : nm_holds.Nodup := by decide +kernel
theorem fs_holds : FnScope nm_holds ps_holds sc_holds := ⟨rfl, rfl, rfl, nd_holds, rfl, by decide +kernel, by decide +kernel⟩
def w_holds (sp_failing_lines : DSp) : WS :=
  (wRet (wBin (dIs id) (wCall sp_failing_lines (wCons (wVar 0) (wCons (wVar 1) wNil))) (wC .non)))
theorem b_holds {P : Program} {w : World} {K : PySem.W.Frag} {mg : PySem.Str → Option Value} {base : Heap} {k : Nat} {f : Addr} {C : Addr} (g : G K mg C) {sp_failing_lines : DSp} (h_failing_lines : CalD P w K mg base k "failing_lines" sp_failing_lines) (cdv : Value) (A : Around) (outer : List PySem.Env) (s : Shared) (H : Hp) (E : XK) (hr : Room k (A.deeper (envOfC "holds" sc_holds s.heap.objs.size f cdv))) :
    DSs (cx P w K mg base nm_holds "holds" sc_holds f cdv A outer s H E) (defBody st_holds) (w_holds sp_failing_lines) :=
  (dss_one (ds_ret (xIs (xF h_failing_lines hr (xArg (xV 0) (xArg (xV 1) da_nil))) xNon)))
/-! _law_cell -/
abbrev st__law_cell : Stmt := top 32
abbrev sc__law_cell : Scope := defScope st__law_cell
abbrev nm__law_cell : List PySem.Str := [("script" : PySem.Str), ("k" : PySem.Str)]
abbrev ps__law_cell : List PySem.Str := [("script" : PySem.Str), ("k" : PySem.Str)]
theorem nd__law_cell : nm__law_cell.Nodup := by decide +kernel
theorem fs__law_cell : FnScope nm__law_cell ps__law_cell sc__law_cell := ⟨rfl, rfl, rfl, nd__law_cell, rfl, by decide +kernel, by decide +kernel⟩
def w__law_cell : WS :=
  (wSeq (wIf (wB (wBin dLt (wVar 1) (wCall dLen (wCons (wVar 0) wNil)))) (wRet (wCall dInt1 (wCons (wBin dIxA (wVar 0) (wVar 1)) wNil))) wNext)
    (wRet (wC (.int 0))))
theorem b__law_cell {P : Program} {w : World} {K : PySem.W.Frag} {mg : PySem.Str → Option Value} {base : Heap} {k : Nat} {f : Addr} {C : Addr} (g : G K mg C) (cdv : Value) (A : Around) (outer : List PySem.Env) (s : Shared) (H : Hp) (E : XK) (hr : Room k (A.deeper (envOfC "_law_cell" sc__law_cell s.heap.objs.size f cdv))) :
    DSs (cx P w K mg base nm__law_cell "_law_cell" sc__law_cell f cdv A outer s H E) (defBody st__law_cell) (w__law_cell) :=
  (dss_cons (ds_if (tLt (xV 1) (xBi call_lenR lift_len boot_len g.b_len (xArg (xV 0) da_nil))) (dss_one (ds_ret (xTy call_int1 lift_int1 bt_int g.b_int (xArg (xIx hr (xV 0) (xV 1)) da_nil)))) dss_nil)
    (dss_one (ds_ret xInt)))
/-! _law_mix -/
abbrev st__law_mix : Stmt := top 33
abbrev sc__law_mix : Scope := defScope st__law_mix
abbrev nm__law_mix : List PySem.Str := [("x" : PySem.Str)]
abbrev ps__law_mix : List PySem.Str := [("x" : PySem.Str)]
theorem nd__law_mix : nm__law_mix.Nodup := by decide +kernel
theorem fs__law_mix : FnScope nm__law_mix ps__law_mix sc__law_mix := ⟨rfl, rfl, rfl, nd__law_mix, rfl, by decide +kernel, by decide +kernel⟩
def w__law_mix : WS :=
  (wSeq (wSet 0 (wBin dMod (wCall dInt1 (wCons (wBin dAdd (wBin dAdd (wBin dMul (wVar 0) (wVar 0)) (wBin dMul (wC (.int 3)) (wVar 0))) (wC (.int 7919))) wNil)) (wC (.int 1000003))))
    (wRet (wBin dMod (wCall dInt1 (wCons (wBin dAdd (wBin dAdd (wBin dMul (wVar 0) (wVar 0)) (wBin dMul (wC (.int 5)) (wVar 0))) (wC (.int 104729))) wNil)) (wC (.int 998244353)))))
theorem b__law_mix {P : Program} {w : World} {K : PySem.W.Frag} {mg : PySem.Str → Option Value} {base : Heap} {k : Nat} {f : Addr} {C : Addr} (g : G K mg C) (cdv : Value) (A : Around) (outer : List PySem.Env) (s : Shared) (H : Hp) (E : XK) (hr : Room k (A.deeper (envOfC "_law_mix" sc__law_mix s.heap.objs.size f cdv))) :
    DSs (cx P w K mg base nm__law_mix "_law_mix" sc__law_mix f cdv A outer s H E) (defBody st__law_mix) (w__law_mix) :=
  (dss_cons (sSet 0 nd__law_mix (xMod (xTy call_int1 lift_int1 bt_int g.b_int (xArg (xAdd (xAdd (xMul (xV 0) (xV 0)) (xMul xInt (xV 0))) xInt) da_nil)) xInt))
    (dss_one (ds_ret (xMod (xTy call_int1 lift_int1 bt_int g.b_int (xArg (xAdd (xAdd (xMul (xV 0) (xV 0)) (xMul xInt (xV 0))) xInt) da_nil)) xInt))))
/-! _law_pool -/
abbrev st__law_pool : Stmt := top 34
abbrev sc__law_pool : Scope := defScope st__law_pool
abbrev nm__law_pool : List PySem.Str := [("script" : PySem.Str), ("k" : PySem.Str), ("cell" : PySem.Str)]
abbrev ps__law_pool : List PySem.Str := [("script" : PySem.Str), ("k" : PySem.Str)]
theorem nd__law_pool : nm__law_pool.Nodup := by decide +kernel
theorem fs__law_pool : FnScope nm__law_pool ps__law_pool sc__law_pool := ⟨rfl, rfl, rfl, nd__law_pool, rfl, by decide +kernel, by decide +kernel⟩
def w__law_pool (sp__law_cell : DSp) : WS :=
  (wSeq (wSet 2 (wCall sp__law_cell (wCons (wVar 0) (wCons (wVar 1) wNil))))
    (wSeq (wIf (wB (wBin dGe (wVar 2) (wBin dPow (wC (.int 10)) (wC (.int 18))))) (wRet (wLst (wCons (wBin dSub (wVar 2) (wBin dPow (wC (.int 10)) (wC (.int 18)))) (wCons (wBin dMul (wC (.int 40009)) (wBin dAdd (wVar 1) (wC (.int 1)))) (wCons (wC (.int 0)) wNil))))) wNext)
    (wRet (wLst (wCons (wC (.int 0)) (wCons (wBin dAdd (wBin dMod (wCall dInt1 (wCons (wCall dAbs (wCons (wVar 2) wNil)) wNil)) (wC (.int 2000000011))) (wBin dMul (wC (.int 7919)) (wVar 1))) (wCons (wC (.int 0)) wNil)))))))
theorem b__law_pool {P : Program} {w : World} {K : PySem.W.Frag} {mg : PySem.Str → Option Value} {base : Heap} {k : Nat} {f : Addr} {C : Addr} (g : G K mg C) {sp__law_cell : DSp} (h__law_cell : CalD P w K mg base k "_law_cell" sp__law_cell) (cdv : Value) (A : Around) (outer : List PySem.Env) (s : Shared) (H : Hp) (E : XK) (hr : Room k (A.deeper (envOfC "_law_pool" sc__law_pool s.heap.objs.size f cdv))) :
    DSs (cx P w K mg base nm__law_pool "_law_pool" sc__law_pool f cdv A outer s H E) (defBody st__law_pool) (w__law_pool sp__law_cell) :=
  (dss_cons (sSet 2 nd__law_pool (xF h__law_cell hr (xArg (xV 0) (xArg (xV 1) da_nil))))
    (dss_cons (ds_if (tGe (xV 2) (xPow xInt xInt)) (dss_one (ds_ret (de_lst (xArg (xSub (xV 2) (xPow xInt xInt)) (xArg (xMul xInt (xAdd (xV 1) xInt)) (xArg xInt da_nil)))))) dss_nil)
    (dss_one (ds_ret (de_lst (xArg xInt (xArg (xAdd (xMod (xTy call_int1 lift_int1 bt_int g.b_int (xArg (xBi call_abs lift_abs bt_abs g.b_abs (xArg (xV 2) da_nil)) da_nil)) xInt) (xMul xInt (xV 1))) (xArg xInt da_nil))))))))
/-! _law_draw -/
abbrev st__law_draw : Stmt := top 35
abbrev sc__law_draw : Scope := defScope st__law_draw
abbrev nm__law_draw : List PySem.Str := [("pool" : PySem.Str), ("many" : PySem.Str), ("digit" : PySem.Str)]
abbrev ps__law_draw : List PySem.Str := [("pool" : PySem.Str), ("many" : PySem.Str)]
theorem nd__law_draw : nm__law_draw.Nodup := by decide +kernel
theorem fs__law_draw : FnScope nm__law_draw ps__law_draw sc__law_draw := ⟨rfl, rfl, rfl, nd__law_draw, rfl, by decide +kernel, by decide +kernel⟩
def w__law_draw (sp__law_mix : DSp) : WS :=
  (wSeq (wIf (wB (wBin dGt (wBin dIxA (wVar 0) (wC (.int 0))) (wC (.int 0)))) (wSeq (wSet 2 (wBin dMod (wCall dInt1 (wCons (wBin dIxA (wVar 0) (wC (.int 0))) wNil)) (wVar 1)))
    (wSeq (wPut (wBin dFdiv (wBin dIxA (wVar 0) (wC (.int 0))) (wVar 1)) (wVar 0) (wC (.int 0)))
    (wRet (wVar 2)))) wNext)
    (wSeq (wPut (wBin dAdd (wBin dIxA (wVar 0) (wC (.int 2))) (wC (.int 1))) (wVar 0) (wC (.int 2)))
    (wRet (wBin dMod (wCall dInt1 (wCons (wBin dFdiv (wCall sp__law_mix (wCons (wBin dAdd (wBin dIxA (wVar 0) (wC (.int 1))) (wBin dMul (wC (.int 7368787)) (wBin dIxA (wVar 0) (wC (.int 2))))) wNil)) (wC (.int 8))) wNil)) (wVar 1)))))
theorem b__law_draw {P : Program} {w : World} {K : PySem.W.Frag} {mg : PySem.Str → Option Value} {base : Heap} {k : Nat} {f : Addr} {C : Addr} (g : G K mg C) {sp__law_mix : DSp} (h__law_mix : CalD P w K mg base k "_law_mix" sp__law_mix) (cdv : Value) (A : Around) (outer : List PySem.Env) (s : Shared) (H : Hp) (E : XK) (hr : Room k (A.deeper (envOfC "_law_draw" sc__law_draw s.heap.objs.size f cdv))) :
    DSs (cx P w K mg base nm__law_draw "_law_draw" sc__law_draw f cdv A outer s H E) (defBody st__law_draw) (w__law_draw sp__law_mix) :=
  (dss_cons (ds_if (tGt (xIx hr (xV 0) xInt) xInt) (dss_cons (sSet 2 nd__law_draw (xMod (xTy call_int1 lift_int1 bt_int g.b_int (xArg (xIx hr (xV 0) xInt) da_nil)) (xV 1)))
    (dss_cons (sPut hr (xFdiv (xIx hr (xV 0) xInt) (xV 1)) (xV 0) xInt)
    (dss_one (ds_ret (xV 2))))) dss_nil)
    (dss_cons (sPut hr (xAdd (xIx hr (xV 0) xInt) xInt) (xV 0) xInt)
    (dss_one (ds_ret (xMod (xTy call_int1 lift_int1 bt_int g.b_int (xArg (xFdiv (xF h__law_mix hr (xArg (xAdd (xIx hr (xV 0) xInt) (xMul xInt (xIx hr (xV 0) xInt))) da_nil)) xInt) da_nil)) (xV 1))))))
/-! _law_any_atom -/
abbrev st__law_any_atom : Stmt := top 36
abbrev sc__law_any_atom : Scope := defScope st__law_any_atom
abbrev nm__law_any_atom : List PySem.Str := [("pool" : PySem.Str), ("small" : PySem.Str), ("atom" : PySem.Str), ("k" : PySem.Str)]
abbrev ps__law_any_atom : List PySem.Str := [("pool" : PySem.Str)]
theorem nd__law_any_atom : nm__law_any_atom.Nodup := by decide +kernel
theorem fs__law_any_atom : FnScope nm__law_any_atom ps__law_any_atom sc__law_any_atom := ⟨rfl, rfl, rfl, nd__law_any_atom, rfl, by decide +kernel, by decide +kernel⟩
def w__law_any_atom_1 (sp__law_draw : DSp) : WS :=
  (wSet 2 (wBin dAdd (wVar 2) (wBin dIxA (wBin dAdd (wVar 1) (wC (.str "0123456789"))) (wCall sp__law_draw (wCons (wVar 0) (wCons (wC (.int 36)) wNil))))))
def w__law_any_atom (sp__law_draw : DSp) : WS :=
  (wSeq (wSet 1 (wC (.str "abcdefghijklmnopqrstuvwxyz")))
    (wSeq (wSet 2 (wBin dIxA (wVar 1) (wCall sp__law_draw (wCons (wVar 0) (wCons (wC (.int 26)) wNil)))))
    (wSeq (wFor (wRange1 (wCall sp__law_draw (wCons (wVar 0) (wCons (wC (.int 8)) wNil)))) (.nm 3) (w__law_any_atom_1 sp__law_draw))
    (wSeq (wIf (wB (wBin (dEq id) (wCall sp__law_draw (wCons (wVar 0) (wCons (wC (.int 4)) wNil))) (wC (.int 3)))) (wSet 2 (wBin dAdd (wBin dAdd (wVar 2) (wC (.str "."))) (wCall dStr1 (wCons (wBin dAdd (wC (.int 1)) (wCall sp__law_draw (wCons (wVar 0) (wCons (wC (.int 999999)) wNil)))) wNil)))) wNext)
    (wRet (wVar 2))))))
theorem b__law_any_atom {P : Program} {w : World} {K : PySem.W.Frag} {mg : PySem.Str → Option Value} {base : Heap} {k : Nat} {f : Addr} {C : Addr} (g : G K mg C) {sp__law_draw : DSp} (h__law_draw : CalD P w K mg base k "_law_draw" sp__law_draw) (cdv : Value) (A : Around) (outer : List PySem.Env) (s : Shared) (H : Hp) (E : XK) (hr : Room k (A.deeper (envOfC "_law_any_atom" sc__law_any_atom s.heap.objs.size f cdv))) :
    DSs (cx P w K mg base nm__law_any_atom "_law_any_atom" sc__law_any_atom f cdv A outer s H E) (defBody st__law_any_atom) (w__law_any_atom sp__law_draw) :=
  (dss_cons (sSet 1 nd__law_any_atom xStr)
    (dss_cons (sSet 2 nd__law_any_atom (xIx hr (xV 1) (xF h__law_draw hr (xArg (xV 0) (xArg xInt da_nil)))))
    (dss_cons (sFor (iR1 g.b_range (xF h__law_draw hr (xArg (xV 0) (xArg xInt da_nil)))) (gN 3 nd__law_any_atom) (dss_one (sSet 2 nd__law_any_atom (xAdd (xV 2) (xIx hr (xAdd (xV 1) xStr) (xF h__law_draw hr (xArg (xV 0) (xArg xInt da_nil))))))))
    (dss_cons (ds_if (tEq hr (xF h__law_draw hr (xArg (xV 0) (xArg xInt da_nil))) xInt) (dss_one (sSet 2 nd__law_any_atom (xAdd (xAdd (xV 2) xStr) (xTy call_str_int lift_str1 bt_str g.b_str (xArg (xAdd xInt (xF h__law_draw hr (xArg (xV 0) (xArg xInt da_nil)))) da_nil))))) dss_nil)
    (dss_one (ds_ret (xV 2)))))))
/-! _law_kind -/
abbrev st__law_kind : Stmt := top 37
abbrev sc__law_kind : Scope := defScope st__law_kind
abbrev nm__law_kind : List PySem.Str := [("pool" : PySem.Str), ("names" : PySem.Str), ("size" : PySem.Str), ("left" : PySem.Str), ("sign" : PySem.Str), ("first" : PySem.Str)]
abbrev ps__law_kind : List PySem.Str := [("pool" : PySem.Str), ("names" : PySem.Str), ("size" : PySem.Str)]
theorem nd__law_kind : nm__law_kind.Nodup := by decide +kernel
theorem fs__law_kind : FnScope nm__law_kind ps__law_kind sc__law_kind := ⟨rfl, rfl, rfl, nd__law_kind, rfl, by decide +kernel, by decide +kernel⟩
def w__law_kind (sp__law_draw sp__law_kind : DSp) : WS :=
  (wSeq (wIf (wB (wBin dLe (wVar 2) (wC (.int 1)))) (wRet (wBin dIxA (wVar 1) (wCall sp__law_draw (wCons (wVar 0) (wCons (wCall dLen (wCons (wVar 1) wNil)) wNil))))) wNext)
    (wSeq (wSet 3 (wBin dAdd (wC (.int 1)) (wCall sp__law_draw (wCons (wVar 0) (wCons (wBin dSub (wVar 2) (wC (.int 1))) wNil)))))
    (wSeq (wSet 4 (wBin dIxA (wC (.str "/>*")) (wCall sp__law_draw (wCons (wVar 0) (wCons (wC (.int 3)) wNil)))))
    (wSeq (wSet 5 (wCall sp__law_kind (wCons (wVar 0) (wCons (wVar 1) (wCons (wVar 3) wNil)))))
    (wRet (wTup (wCons (wVar 4) (wCons (wVar 5) (wCons (wCall sp__law_kind (wCons (wVar 0) (wCons (wVar 1) (wCons (wBin dSub (wVar 2) (wVar 3)) wNil)))) wNil)))))))))
theorem b__law_kind {P : Program} {w : World} {K : PySem.W.Frag} {mg : PySem.Str → Option Value} {base : Heap} {k : Nat} {f : Addr} {C : Addr} (g : G K mg C) {sp__law_draw sp__law_kind : DSp} (h__law_draw : CalD P w K mg base k "_law_draw" sp__law_draw) (h__law_kind : CalD P w K mg base k "_law_kind" sp__law_kind) (cdv : Value) (A : Around) (outer : List PySem.Env) (s : Shared) (H : Hp) (E : XK) (hr : Room k (A.deeper (envOfC "_law_kind" sc__law_kind s.heap.objs.size f cdv))) :
    DSs (cx P w K mg base nm__law_kind "_law_kind" sc__law_kind f cdv A outer s H E) (defBody st__law_kind) (w__law_kind sp__law_draw sp__law_kind) :=
  (dss_cons (ds_if (tLe (xV 2) xInt) (dss_one (ds_ret (xIx hr (xV 1) (xF h__law_draw hr (xArg (xV 0) (xArg (xBi call_lenR lift_len boot_len g.b_len (xArg (xV 1) da_nil)) da_nil)))))) dss_nil)
    (dss_cons (sSet 3 nd__law_kind (xAdd xInt (xF h__law_draw hr (xArg (xV 0) (xArg (xSub (xV 2) xInt) da_nil)))))
    (dss_cons (sSet 4 nd__law_kind (xIx hr xStr (xF h__law_draw hr (xArg (xV 0) (xArg xInt da_nil)))))
    (dss_cons (sSet 5 nd__law_kind (xF h__law_kind hr (xArg (xV 0) (xArg (xV 1) (xArg (xV 3) da_nil)))))
    (dss_one (ds_ret (de_tup (xArg (xV 4) (xArg (xV 5) (xArg (xF h__law_kind hr (xArg (xV 0) (xArg (xV 1) (xArg (xSub (xV 2) (xV 3)) da_nil)))) da_nil))))))))))
/-! _law_is_integer -/
abbrev st__law_is_integer : Stmt := top 38
abbrev sc__law_is_integer : Scope := defScope st__law_is_integer
abbrev nm__law_is_integer : List PySem.Str := [("told" : PySem.Str)]
abbrev ps__law_is_integer : List PySem.Str := [("told" : PySem.Str)]
theorem nd__law_is_integer : nm__law_is_integer.Nodup := by decide +kernel
theorem fs__law_is_integer : FnScope nm__law_is_integer ps__law_is_integer sc__law_is_integer := ⟨rfl, rfl, rfl, nd__law_is_integer, rfl, by decide +kernel, by decide +kernel⟩
def w__law_is_integer : WS :=
  (wRet (wAndV (wIsi .int (wVar 0)) (wNotV (wIsi .bool (wVar 0)))))
theorem b__law_is_integer {P : Program} {w : World} {K : PySem.W.Frag} {mg : PySem.Str → Option Value} {base : Heap} {k : Nat} {f : Addr} {C : Addr} (g : G K mg C) (cdv : Value) (A : Around) (outer : List PySem.Env) (s : Shared) (H : Hp) (E : XK) (hr : Room k (A.deeper (envOfC "_law_is_integer" sc__law_is_integer s.heap.objs.size f cdv))) :
    DSs (cx P w K mg base nm__law_is_integer "_law_is_integer" sc__law_is_integer f cdv A outer s H E) (defBody st__law_is_integer) (w__law_is_integer) :=
  (dss_one (ds_ret (de_and (xIsi .int g.b_isinstance g.b_int (xV 0)) (de_one (de_not (xIsi .bool g.b_isinstance g.b_bool (xV 0)))))))
/-! _law_is_places -/
abbrev st__law_is_places : Stmt := top 39
abbrev sc__law_is_places : Scope := defScope st__law_is_places
abbrev nm__law_is_places : List PySem.Str := [("told" : PySem.Str), ("due" : PySem.Str), ("k" : PySem.Str)]
abbrev ps__law_is_places : List PySem.Str := [("told" : PySem.Str), ("due" : PySem.Str)]
theorem nd__law_is_places : nm__law_is_places.Nodup := by decide +kernel
theorem fs__law_is_places : FnScope nm__law_is_places ps__law_is_places sc__law_is_places := ⟨rfl, rfl, rfl, nd__law_is_places, rfl, by decide +kernel, by decide +kernel⟩
def w__law_is_places_1 (sp__law_is_integer : DSp) : WS :=
  (wIf (wOrT (wNotT (wTru (wCall sp__law_is_integer (wCons (wBin dIxA (wVar 0) (wVar 2)) wNil)))) (wB (wBin (dEq not) (wBin dIxA (wVar 0) (wVar 2)) (wBin dIxA (wVar 1) (wVar 2))))) (wRet (wC (.bl false))) wNext)
def w__law_is_places (sp__law_is_integer : DSp) : WS :=
  (wSeq (wIf (wOrT (wNotT (wTru (wIsi .tuple (wVar 0)))) (wB (wBin (dEq not) (wCall dLen (wCons (wVar 0) wNil)) (wCall dLen (wCons (wVar 1) wNil))))) (wRet (wC (.bl false))) wNext)
    (wSeq (wFor (wRange1 (wCall dLen (wCons (wVar 1) wNil))) (.nm 2) (w__law_is_places_1 sp__law_is_integer))
    (wRet (wC (.bl true)))))
theorem b__law_is_places {P : Program} {w : World} {K : PySem.W.Frag} {mg : PySem.Str → Option Value} {base : Heap} {k : Nat} {f : Addr} {C : Addr} (g : G K mg C) {sp__law_is_integer : DSp} (h__law_is_integer : CalD P w K mg base k "_law_is_integer" sp__law_is_integer) (cdv : Value) (A : Around) (outer : List PySem.Env) (s : Shared) (H : Hp) (E : XK) (hr : Room k (A.deeper (envOfC "_law_is_places" sc__law_is_places s.heap.objs.size f cdv))) :
    DSs (cx P w K mg base nm__law_is_places "_law_is_places" sc__law_is_places f cdv A outer s H E) (defBody st__law_is_places) (w__law_is_places sp__law_is_integer) :=
  (dss_cons (ds_if (tW (dw_or (dt_not (tV (xIsi .tuple g.b_isinstance g.b_tuple (xV 0)))) (dw_or1 (tNe hr (xBi call_lenR lift_len boot_len g.b_len (xArg (xV 0) da_nil)) (xBi call_lenR lift_len boot_len g.b_len (xArg (xV 1) da_nil)))))) (dss_one (ds_ret xBl)) dss_nil)
    (dss_cons (sFor (iR1 g.b_range (xBi call_lenR lift_len boot_len g.b_len (xArg (xV 1) da_nil))) (gN 2 nd__law_is_places) (dss_one (ds_if (tW (dw_or (dt_not (tV (xF h__law_is_integer hr (xArg (xIx hr (xV 0) (xV 2)) da_nil)))) (dw_or1 (tNe hr (xIx hr (xV 0) (xV 2)) (xIx hr (xV 1) (xV 2)))))) (dss_one (ds_ret xBl)) dss_nil)))
    (dss_one (ds_ret xBl))))
/-! _law_is_truth -/
abbrev st__law_is_truth : Stmt := top 40
abbrev sc__law_is_truth : Scope := defScope st__law_is_truth
abbrev nm__law_is_truth : List PySem.Str := [("told" : PySem.Str), ("due" : PySem.Str)]
abbrev ps__law_is_truth : List PySem.Str := [("told" : PySem.Str), ("due" : PySem.Str)]
theorem nd__law_is_truth : nm__law_is_truth.Nodup := by decide +kernel
theorem fs__law_is_truth : FnScope nm__law_is_truth ps__law_is_truth sc__law_is_truth := ⟨rfl, rfl, rfl, nd__law_is_truth, rfl, by decide +kernel, by decide +kernel⟩
def w__law_is_truth : WS :=
  (wRet (wAndV (wIsi .bool (wVar 0)) (wBin (dEq id) (wVar 0) (wVar 1))))
theorem b__law_is_truth {P : Program} {w : World} {K : PySem.W.Frag} {mg : PySem.Str → Option Value} {base : Heap} {k : Nat} {f : Addr} {C : Addr} (g : G K mg C) (cdv : Value) (A : Around) (outer : List PySem.Env) (s : Shared) (H : Hp) (E : XK) (hr : Room k (A.deeper (envOfC "_law_is_truth" sc__law_is_truth s.heap.objs.size f cdv))) :
    DSs (cx P w K mg base nm__law_is_truth "_law_is_truth" sc__law_is_truth f cdv A outer s H E) (defBody st__law_is_truth) (w__law_is_truth) :=
  (dss_one (ds_ret (de_and (xIsi .bool g.b_isinstance g.b_bool (xV 0)) (de_one (xEq hr (xV 0) (xV 1))))))
/-! _law_stretches -/
abbrev st__law_stretches : Stmt := top 41
abbrev sc__law_stretches : Scope := defScope st__law_stretches
abbrev nm__law_stretches : List PySem.Str := [("bans" : PySem.Str), ("found" : PySem.Str), ("pair" : PySem.Str), ("line" : PySem.Str), ("start" : PySem.Str), ("stop" : PySem.Str)]
abbrev ps__law_stretches : List PySem.Str := [("bans" : PySem.Str)]
theorem nd__law_stretches : nm__law_stretches.Nodup := by decide +kernel
theorem fs__law_stretches : FnScope nm__law_stretches ps__law_stretches sc__law_stretches := ⟨rfl, rfl, rfl, nd__law_stretches, rfl, by decide +kernel, by decide +kernel⟩
def w__law_stretches_1 : WS :=
  (wPut (wC (.bl true)) (wVar 1) (wSl (wVar 3) (wPart (wVar 4)) (wPart (wVar 5))))
def w__law_stretches_2 : WS :=
  (wFor (wRange2 (wBin dAdd (wVar 4) (wC (.int 1))) (wBin dAdd (wCall dLen (wCons (wVar 3) wNil)) (wC (.int 1)))) (.nm 5) (w__law_stretches_1))
def w__law_stretches_3 : WS :=
  (wFor (wRange1 (wCall dLen (wCons (wVar 3) wNil))) (.nm 4) (w__law_stretches_2))
def w__law_stretches_4 : WS :=
  (wFor (wIt (wBin dIxA (wVar 2) (wC (.int 1)))) (.nm 3) (w__law_stretches_3))
def w__law_stretches : WS :=
  (wSeq (wSet 1 wDnew)
    (wSeq (wFor (wIt (wVar 0)) (.nm 2) (w__law_stretches_4))
    (wRet (wVar 1))))
theorem b__law_stretches {P : Program} {w : World} {K : PySem.W.Frag} {mg : PySem.Str → Option Value} {base : Heap} {k : Nat} {f : Addr} {C : Addr} (g : G K mg C) (cdv : Value) (A : Around) (outer : List PySem.Env) (s : Shared) (H : Hp) (E : XK) (hr : Room k (A.deeper (envOfC "_law_stretches" sc__law_stretches s.heap.objs.size f cdv))) :
    DSs (cx P w K mg base nm__law_stretches "_law_stretches" sc__law_stretches f cdv A outer s H E) (defBody st__law_stretches) (w__law_stretches) :=
  (dss_cons (sSet 1 nd__law_stretches de_dnew)
    (dss_cons (sFor (di_expr (xV 0)) (gN 2 nd__law_stretches) (dss_one (sFor (di_expr (xIx hr (xV 2) xInt)) (gN 3 nd__law_stretches) (dss_one (sFor (iR1 g.b_range (xBi call_lenR lift_len boot_len g.b_len (xArg (xV 3) da_nil))) (gN 4 nd__law_stretches) (dss_one (sFor (iR2 g.b_range (xAdd (xV 4) xInt) (xAdd (xBi call_lenR lift_len boot_len g.b_len (xArg (xV 3) da_nil)) xInt)) (gN 5 nd__law_stretches) (dss_one (sPut hr xBl (xV 1) (de_slice (xV 3) (do_some (xV 4)) (do_some (xV 5))))))))))))
    (dss_one (ds_ret (xV 1)))))
/-! _law_goes_on -/
abbrev st__law_goes_on : Stmt := top 42
abbrev sc__law_goes_on : Scope := defScope st__law_goes_on
abbrev nm__law_goes_on : List PySem.Str := [("line" : PySem.Str), ("first" : PySem.Str), ("second" : PySem.Str), ("cut" : PySem.Str)]
abbrev ps__law_goes_on : List PySem.Str := [("line" : PySem.Str), ("first" : PySem.Str), ("second" : PySem.Str)]
theorem nd__law_goes_on : nm__law_goes_on.Nodup := by decide +kernel
theorem fs__law_goes_on : FnScope nm__law_goes_on ps__law_goes_on sc__law_goes_on := ⟨rfl, rfl, rfl, nd__law_goes_on, rfl, by decide +kernel, by decide +kernel⟩
def w__law_goes_on_1 : WS :=
  (wIf (wAndT (wB (wBin (dIn not) (wSl (wVar 0) wNoPart (wPart (wVar 3))) (wVar 1))) (wB (wBin (dIn not) (wSl (wVar 0) (wPart (wVar 3)) wNoPart) (wVar 2)))) (wRet (wC (.bl true))) wNext)
def w__law_goes_on : WS :=
  (wSeq (wFor (wRange2 (wC (.int 1)) (wCall dLen (wCons (wVar 0) wNil))) (.nm 3) (w__law_goes_on_1))
    (wRet (wC (.bl false))))
theorem b__law_goes_on {P : Program} {w : World} {K : PySem.W.Frag} {mg : PySem.Str → Option Value} {base : Heap} {k : Nat} {f : Addr} {C : Addr} (g : G K mg C) (cdv : Value) (A : Around) (outer : List PySem.Env) (s : Shared) (H : Hp) (E : XK) (hr : Room k (A.deeper (envOfC "_law_goes_on" sc__law_goes_on s.heap.objs.size f cdv))) :
    DSs (cx P w K mg base nm__law_goes_on "_law_goes_on" sc__law_goes_on f cdv A outer s H E) (defBody st__law_goes_on) (w__law_goes_on) :=
  (dss_cons (sFor (iR2 g.b_range xInt (xBi call_lenR lift_len boot_len g.b_len (xArg (xV 0) da_nil))) (gN 3 nd__law_goes_on) (dss_one (ds_if (tW (dw_and (tNIn hr (de_slice (xV 0) do_none (do_some (xV 3))) (xV 1)) (dw_and1 (tNIn hr (de_slice (xV 0) (do_some (xV 3)) do_none) (xV 2))))) (dss_one (ds_ret xBl)) dss_nil)))
    (dss_one (ds_ret xBl)))
/-! _law_frame_free -/
abbrev st__law_frame_free : Stmt := top 43
abbrev sc__law_frame_free : Scope := defScope st__law_frame_free
abbrev nm__law_frame_free : List PySem.Str := [("lines" : PySem.Str), ("u" : PySem.Str), ("v" : PySem.Str), ("first" : PySem.Str), ("second" : PySem.Str), ("line" : PySem.Str)]
abbrev ps__law_frame_free : List PySem.Str := [("lines" : PySem.Str), ("u" : PySem.Str), ("v" : PySem.Str), ("first" : PySem.Str), ("second" : PySem.Str)]
theorem nd__law_frame_free : nm__law_frame_free.Nodup := by decide +kernel
theorem fs__law_frame_free : FnScope nm__law_frame_free ps__law_frame_free sc__law_frame_free := ⟨rfl, rfl, rfl, nd__law_frame_free, rfl, by decide +kernel, by decide +kernel⟩
def w__law_frame_free_1 (sp__law_goes_on : DSp) : WS :=
  (wIf (wAndT (wB (wBin dGt (wCall dLen (wCons (wVar 5) wNil)) (wBin dAdd (wCall dLen (wCons (wVar 1) wNil)) (wCall dLen (wCons (wVar 2) wNil))))) (wAndT (wB (wBin (dEq id) (wSl (wVar 5) wNoPart (wPart (wCall dLen (wCons (wVar 1) wNil)))) (wVar 1))) (wB (wBin (dEq id) (wSl (wVar 5) (wPart (wBin dSub (wCall dLen (wCons (wVar 5) wNil)) (wCall dLen (wCons (wVar 2) wNil)))) wNoPart) (wVar 2))))) (wIf (wTru (wCall sp__law_goes_on (wCons (wSl (wVar 5) (wPart (wCall dLen (wCons (wVar 1) wNil))) (wPart (wBin dSub (wCall dLen (wCons (wVar 5) wNil)) (wCall dLen (wCons (wVar 2) wNil))))) (wCons (wVar 3) (wCons (wVar 4) wNil))))) (wRet (wC (.bl false))) wNext) wNext)
def w__law_frame_free (sp__law_goes_on : DSp) : WS :=
  (wSeq (wFor (wIt (wVar 0)) (.nm 5) (w__law_frame_free_1 sp__law_goes_on))
    (wRet (wC (.bl true))))
theorem b__law_frame_free {P : Program} {w : World} {K : PySem.W.Frag} {mg : PySem.Str → Option Value} {base : Heap} {k : Nat} {f : Addr} {C : Addr} (g : G K mg C) {sp__law_goes_on : DSp} (h__law_goes_on : CalD P w K mg base k "_law_goes_on" sp__law_goes_on) (cdv : Value) (A : Around) (outer : List PySem.Env) (s : Shared) (H : Hp) (E : XK) (hr : Room k (A.deeper (envOfC "_law_frame_free" sc__law_frame_free s.heap.objs.size f cdv))) :
    DSs (cx P w K mg base nm__law_frame_free "_law_frame_free" sc__law_frame_free f cdv A outer s H E) (defBody st__law_frame_free) (w__law_frame_free sp__law_goes_on) :=
  (dss_cons (sFor (di_expr (xV 0)) (gN 5 nd__law_frame_free) (dss_one (ds_if (tW (dw_and (tGt (xBi call_lenR lift_len boot_len g.b_len (xArg (xV 5) da_nil)) (xAdd (xBi call_lenR lift_len boot_len g.b_len (xArg (xV 1) da_nil)) (xBi call_lenR lift_len boot_len g.b_len (xArg (xV 2) da_nil)))) (dw_and (tEq hr (de_slice (xV 5) do_none (do_some (xBi call_lenR lift_len boot_len g.b_len (xArg (xV 1) da_nil)))) (xV 1)) (dw_and1 (tEq hr (de_slice (xV 5) (do_some (xSub (xBi call_lenR lift_len boot_len g.b_len (xArg (xV 5) da_nil)) (xBi call_lenR lift_len boot_len g.b_len (xArg (xV 2) da_nil)))) do_none) (xV 2)))))) (dss_one (ds_if (tV (xF h__law_goes_on hr (xArg (de_slice (xV 5) (do_some (xBi call_lenR lift_len boot_len g.b_len (xArg (xV 1) da_nil))) (do_some (xSub (xBi call_lenR lift_len boot_len g.b_len (xArg (xV 5) da_nil)) (xBi call_lenR lift_len boot_len g.b_len (xArg (xV 2) da_nil))))) (xArg (xV 3) (xArg (xV 4) da_nil))))) (dss_one (ds_ret xBl)) dss_nil)) dss_nil)))
    (dss_one (ds_ret xBl)))
/-! _law_pair_bans -/
abbrev st__law_pair_bans : Stmt := top 44
abbrev sc__law_pair_bans : Scope := defScope st__law_pair_bans
abbrev nm__law_pair_bans : List PySem.Str := [("bans" : PySem.Str), ("x" : PySem.Str), ("first" : PySem.Str), ("second" : PySem.Str), ("pair" : PySem.Str), ("line" : PySem.Str), ("start" : PySem.Str), ("u" : PySem.Str), ("v" : PySem.Str)]
abbrev ps__law_pair_bans : List PySem.Str := [("bans" : PySem.Str), ("x" : PySem.Str), ("first" : PySem.Str), ("second" : PySem.Str)]
theorem nd__law_pair_bans : nm__law_pair_bans.Nodup := by decide +kernel
theorem fs__law_pair_bans : FnScope nm__law_pair_bans ps__law_pair_bans sc__law_pair_bans := ⟨rfl, rfl, rfl, nd__law_pair_bans, rfl, by decide +kernel, by decide +kernel⟩
def w__law_pair_bans_1 (sp__law_frame_free : DSp) : WS :=
  (wSeq (wPar 7 8 (wCons (wSl (wVar 5) wNoPart (wPart (wVar 6))) (wCons (wSl (wVar 5) (wPart (wBin dAdd (wVar 6) (wCall dLen (wCons (wVar 1) wNil)))) wNoPart) wNil)))
    (wIf (wAndT (wB (wBin (dEq id) (wSl (wVar 5) (wPart (wVar 6)) (wPart (wBin dAdd (wVar 6) (wCall dLen (wCons (wVar 1) wNil))))) (wVar 1))) (wTru (wCall sp__law_frame_free (wCons (wBin dIxA (wVar 4) (wC (.int 1))) (wCons (wVar 7) (wCons (wVar 8) (wCons (wVar 2) (wCons (wVar 3) wNil)))))))) (wRet (wC (.bl true))) wNext))
def w__law_pair_bans_2 (sp__law_frame_free : DSp) : WS :=
  (wFor (wRange1 (wBin dAdd (wBin dSub (wCall dLen (wCons (wVar 5) wNil)) (wCall dLen (wCons (wVar 1) wNil))) (wC (.int 1)))) (.nm 6) (w__law_pair_bans_1 sp__law_frame_free))
def w__law_pair_bans_3 (sp__law_frame_free : DSp) : WS :=
  (wFor (wIt (wBin dIxA (wVar 4) (wC (.int 1)))) (.nm 5) (w__law_pair_bans_2 sp__law_frame_free))
def w__law_pair_bans (sp__law_frame_free : DSp) : WS :=
  (wSeq (wFor (wIt (wVar 0)) (.nm 4) (w__law_pair_bans_3 sp__law_frame_free))
    (wRet (wC (.bl false))))
theorem b__law_pair_bans {P : Program} {w : World} {K : PySem.W.Frag} {mg : PySem.Str → Option Value} {base : Heap} {k : Nat} {f : Addr} {C : Addr} (g : G K mg C) {sp__law_frame_free : DSp} (h__law_frame_free : CalD P w K mg base k "_law_frame_free" sp__law_frame_free) (cdv : Value) (A : Around) (outer : List PySem.Env) (s : Shared) (H : Hp) (E : XK) (hr : Room k (A.deeper (envOfC "_law_pair_bans" sc__law_pair_bans s.heap.objs.size f cdv))) :
    DSs (cx P w K mg base nm__law_pair_bans "_law_pair_bans" sc__law_pair_bans f cdv A outer s H E) (defBody st__law_pair_bans) (w__law_pair_bans sp__law_frame_free) :=
  (dss_cons (sFor (di_expr (xV 0)) (gN 4 nd__law_pair_bans) (dss_one (sFor (di_expr (xIx hr (xV 4) xInt)) (gN 5 nd__law_pair_bans) (dss_one (sFor (iR1 g.b_range (xAdd (xSub (xBi call_lenR lift_len boot_len g.b_len (xArg (xV 5) da_nil)) (xBi call_lenR lift_len boot_len g.b_len (xArg (xV 1) da_nil))) xInt)) (gN 6 nd__law_pair_bans) (dss_cons (ds_par (i := 7) (j := 8) rfl nd__law_pair_bans rfl rfl (by decide) rfl rfl (xArg (de_slice (xV 5) do_none (do_some (xV 6))) (xArg (de_slice (xV 5) (do_some (xAdd (xV 6) (xBi call_lenR lift_len boot_len g.b_len (xArg (xV 1) da_nil)))) do_none) da_nil)) rfl rfl)
    (dss_one (ds_if (tW (dw_and (tEq hr (de_slice (xV 5) (do_some (xV 6)) (do_some (xAdd (xV 6) (xBi call_lenR lift_len boot_len g.b_len (xArg (xV 1) da_nil))))) (xV 1)) (dw_and1 (tV (xF h__law_frame_free hr (xArg (xIx hr (xV 4) xInt) (xArg (xV 7) (xArg (xV 8) (xArg (xV 2) (xArg (xV 3) da_nil)))))))))) (dss_one (ds_ret xBl)) dss_nil))))))))
    (dss_one (ds_ret xBl)))
/-! _law_banned -/
abbrev st__law_banned : Stmt := top 45
abbrev sc__law_banned : Scope := defScope st__law_banned
abbrev nm__law_banned : List PySem.Str := [("bans" : PySem.Str), ("kind" : PySem.Str), ("found" : PySem.Str), ("pair" : PySem.Str), ("line" : PySem.Str), ("first" : PySem.Str), ("second" : PySem.Str), ("x" : PySem.Str), ("ends" : PySem.Str), ("hit" : PySem.Str), ("y" : PySem.Str), ("heads" : PySem.Str)]
abbrev ps__law_banned : List PySem.Str := [("bans" : PySem.Str), ("kind" : PySem.Str)]
theorem nd__law_banned : nm__law_banned.Nodup := by decide +kernel
theorem fs__law_banned : FnScope nm__law_banned ps__law_banned sc__law_banned := ⟨rfl, rfl, rfl, nd__law_banned, rfl, by decide +kernel, by decide +kernel⟩
def w__law_banned_1 (sp__law_banned sp__law_stretches sp__law_pair_bans : DSp) : WS :=
  (wPut (wC (.bl true)) (wVar 2) (wVar 4))
def w__law_banned_2 (sp__law_banned sp__law_stretches sp__law_pair_bans : DSp) : WS :=
  (wFor (wIt (wBin dMul (wBin dIxA (wVar 3) (wC (.int 1))) (wCall dInt1 (wCons (wBin (dEq id) (wBin dIxA (wVar 3) (wC (.int 0))) (wVar 1)) wNil)))) (.nm 4) (w__law_banned_1 sp__law_banned sp__law_stretches sp__law_pair_bans))
def w__law_banned_3 (sp__law_banned sp__law_stretches sp__law_pair_bans : DSp) : WS :=
  (wSeq (wIf (wB (wBin (dEq id) (wBin dIxA (wVar 1) (wC (.int 0))) (wC (.str "/")))) (wSeq (wSet 8 (wLc (wIt (wVar 5)) (.nm 4) [4] (wAndT (wB (wBin dGt (wCall dLen (wCons (wVar 4) wNil)) (wCall dLen (wCons (wVar 7) wNil)))) (wB (wBin (dEq id) (wSl (wVar 4) wNoPart (wPart (wCall dLen (wCons (wVar 7) wNil)))) (wVar 7)))) (wSl (wVar 4) (wPart (wCall dLen (wCons (wVar 7) wNil))) wNoPart)))
    (wSet 9 (wBin dGt (wCall dLen (wCons (wLc (wIt (wVar 8)) (.nm 10) [10] (wB (wBin (dIn not) (wVar 10) (wVar 6))) (wVar 10)) wNil)) (wC (.int 0))))) (wIf (wB (wBin (dEq id) (wBin dIxA (wVar 1) (wC (.int 0))) (wC (.str ">")))) (wSeq (wSet 11 (wLc (wIt (wVar 6)) (.nm 4) [4] (wAndT (wB (wBin (dEq id) (wSl (wVar 4) (wPart (wBin dSub (wCall dLen (wCons (wVar 4) wNil)) (wCall dLen (wCons (wVar 7) wNil)))) wNoPart) (wVar 7))) (wB (wBin dGt (wCall dLen (wCons (wVar 4) wNil)) (wCall dLen (wCons (wVar 7) wNil))))) (wSl (wVar 4) wNoPart (wPart (wBin dSub (wCall dLen (wCons (wVar 4) wNil)) (wCall dLen (wCons (wVar 7) wNil)))))))
    (wSet 9 (wBin dGt (wCall dLen (wCons (wLc (wIt (wVar 11)) (.nm 10) [10] (wB (wBin (dIn not) (wVar 10) (wVar 5))) (wVar 10)) wNil)) (wC (.int 0))))) (wSet 9 (wCall sp__law_pair_bans (wCons (wVar 0) (wCons (wVar 7) (wCons (wVar 5) (wCons (wVar 6) wNil))))))))
    (wIf (wTru (wVar 9)) (wPut (wC (.bl true)) (wVar 2) (wVar 7)) wNext))
def w__law_banned (sp__law_banned sp__law_stretches sp__law_pair_bans : DSp) : WS :=
  (wSeq (wSet 2 wDnew)
    (wSeq (wIf (wTru (wIsi .str (wVar 1))) (wSeq (wFor (wIt (wVar 0)) (.nm 3) (w__law_banned_2 sp__law_banned sp__law_stretches sp__law_pair_bans))
    (wRet (wVar 2))) wNext)
    (wSeq (wSet 5 (wCall sp__law_banned (wCons (wVar 0) (wCons (wBin dIxA (wVar 1) (wC (.int 1))) wNil))))
    (wSeq (wSet 6 (wCall sp__law_banned (wCons (wVar 0) (wCons (wBin dIxA (wVar 1) (wC (.int 2))) wNil))))
    (wSeq (wFor (wIt (wCall sp__law_stretches (wCons (wVar 0) wNil))) (.nm 7) (w__law_banned_3 sp__law_banned sp__law_stretches sp__law_pair_bans))
    (wRet (wVar 2)))))))
theorem b__law_banned {P : Program} {w : World} {K : PySem.W.Frag} {mg : PySem.Str → Option Value} {base : Heap} {k : Nat} {f : Addr} {C : Addr} (g : G K mg C) {sp__law_banned sp__law_stretches sp__law_pair_bans : DSp} (h__law_banned : CalD P w K mg base k "_law_banned" sp__law_banned) (h__law_stretches : CalD P w K mg base k "_law_stretches" sp__law_stretches) (h__law_pair_bans : CalD P w K mg base k "_law_pair_bans" sp__law_pair_bans) (cdv : Value) (A : Around) (outer : List PySem.Env) (s : Shared) (H : Hp) (E : XK) (hr : Room k (A.deeper (envOfC "_law_banned" sc__law_banned s.heap.objs.size f cdv))) :
    DSs (cx P w K mg base nm__law_banned "_law_banned" sc__law_banned f cdv A outer s H E) (defBody st__law_banned) (w__law_banned sp__law_banned sp__law_stretches sp__law_pair_bans) :=
  (dss_cons (sSet 2 nd__law_banned de_dnew)
    (dss_cons (ds_if (tV (xIsi .str g.b_isinstance g.b_str (xV 1))) (dss_cons (sFor (di_expr (xV 0)) (gN 3 nd__law_banned) (dss_one (sFor (di_expr (xMul (xIx hr (xV 3) xInt) (xTy call_int1 lift_int1 bt_int g.b_int (xArg (xEq hr (xIx hr (xV 3) xInt) (xV 1)) da_nil)))) (gN 4 nd__law_banned) (dss_one (sPut hr xBl (xV 2) (xV 4))))))
    (dss_one (ds_ret (xV 2)))) dss_nil)
    (dss_cons (sSet 5 nd__law_banned (xF h__law_banned hr (xArg (xV 0) (xArg (xIx hr (xV 1) xInt) da_nil))))
    (dss_cons (sSet 6 nd__law_banned (xF h__law_banned hr (xArg (xV 0) (xArg (xIx hr (xV 1) xInt) da_nil))))
    (dss_cons (sFor (di_expr (xF h__law_stretches hr (xArg (xV 0) da_nil))) (gN 7 nd__law_banned) (dss_cons (ds_if (tEq hr (xIx hr (xV 1) xInt) xStr) (dss_cons (sSetLc 8 (own := [(("line" : PySem.Str), 4)]) nd__law_banned (show BlkOk nm__law_banned sc__law_banned _ [(("line" : PySem.Str), 4)] from blk (by decide +kernel)) (di_expr (xV 5)) (fun _ _ _ _ _ => (gN 4 nd__law_banned)) (fun _ _ _ _ _ => (dts_one (tW (dw_and (tGt (xBi call_lenR lift_len boot_len g.b_len (xArg (xV 4) da_nil)) (xBi call_lenR lift_len boot_len g.b_len (xArg (xV 7) da_nil))) (dw_and1 (tEq hr (de_slice (xV 4) do_none (do_some (xBi call_lenR lift_len boot_len g.b_len (xArg (xV 7) da_nil)))) (xV 7))))))) (fun _ _ _ _ _ => (de_slice (xV 4) (do_some (xBi call_lenR lift_len boot_len g.b_len (xArg (xV 7) da_nil))) do_none)))
    (dss_one (sSet 9 nd__law_banned (xGt (xBi call_lenR lift_len boot_len g.b_len (xArg (xLc (own := [(("y" : PySem.Str), 10)]) nd__law_banned (show BlkOk nm__law_banned sc__law_banned _ [(("y" : PySem.Str), 10)] from blk (by decide +kernel)) (di_expr (xV 8)) (fun _ _ _ _ _ => (gN 10 nd__law_banned)) (fun _ _ _ _ _ => (dts_one (tNIn hr (xV 10) (xV 6)))) (fun _ _ _ _ _ => (xV 10))) da_nil)) xInt)))) (dss_one (ds_if (tEq hr (xIx hr (xV 1) xInt) xStr) (dss_cons (sSetLc 11 (own := [(("line" : PySem.Str), 4)]) nd__law_banned (show BlkOk nm__law_banned sc__law_banned _ [(("line" : PySem.Str), 4)] from blk (by decide +kernel)) (di_expr (xV 6)) (fun _ _ _ _ _ => (gN 4 nd__law_banned)) (fun _ _ _ _ _ => (dts_one (tW (dw_and (tEq hr (de_slice (xV 4) (do_some (xSub (xBi call_lenR lift_len boot_len g.b_len (xArg (xV 4) da_nil)) (xBi call_lenR lift_len boot_len g.b_len (xArg (xV 7) da_nil)))) do_none) (xV 7)) (dw_and1 (tGt (xBi call_lenR lift_len boot_len g.b_len (xArg (xV 4) da_nil)) (xBi call_lenR lift_len boot_len g.b_len (xArg (xV 7) da_nil)))))))) (fun _ _ _ _ _ => (de_slice (xV 4) do_none (do_some (xSub (xBi call_lenR lift_len boot_len g.b_len (xArg (xV 4) da_nil)) (xBi call_lenR lift_len boot_len g.b_len (xArg (xV 7) da_nil)))))))
    (dss_one (sSet 9 nd__law_banned (xGt (xBi call_lenR lift_len boot_len g.b_len (xArg (xLc (own := [(("y" : PySem.Str), 10)]) nd__law_banned (show BlkOk nm__law_banned sc__law_banned _ [(("y" : PySem.Str), 10)] from blk (by decide +kernel)) (di_expr (xV 11)) (fun _ _ _ _ _ => (gN 10 nd__law_banned)) (fun _ _ _ _ _ => (dts_one (tNIn hr (xV 10) (xV 5)))) (fun _ _ _ _ _ => (xV 10))) da_nil)) xInt)))) (dss_one (sSet 9 nd__law_banned (xF h__law_pair_bans hr (xArg (xV 0) (xArg (xV 7) (xArg (xV 5) (xArg (xV 6) da_nil))))))))))
    (dss_one (ds_if (tV (xV 9)) (dss_one (sPut hr xBl (xV 2) (xV 7))) dss_nil))))
    (dss_one (ds_ret (xV 2))))))))
/-! _law_splits -/
abbrev st__law_splits : Stmt := top 46
abbrev sc__law_splits : Scope := defScope st__law_splits
abbrev nm__law_splits : List PySem.Str := [("line" : PySem.Str), ("banned" : PySem.Str), ("ends" : PySem.Str), ("lines" : PySem.Str), ("reached" : PySem.Str), ("start" : PySem.Str), ("stop" : PySem.Str)]
abbrev ps__law_splits : List PySem.Str := [("line" : PySem.Str), ("banned" : PySem.Str)]
theorem nd__law_splits : nm__law_splits.Nodup := by decide +kernel
theorem fs__law_splits : FnScope nm__law_splits ps__law_splits sc__law_splits := ⟨rfl, rfl, rfl, nd__law_splits, rfl, by decide +kernel, by decide +kernel⟩
def w__law_splits_1 : WS :=
  (wIf (wB (wBin (dIn not) (wSl (wVar 0) (wPart (wVar 5)) (wPart (wVar 6))) (wVar 3))) (wPut (wC (.bl true)) (wVar 4) (wVar 6)) wNext)
def w__law_splits_2 : WS :=
  (wFor (wRange2 (wBin dAdd (wVar 5) (wC (.int 1))) (wBin dAdd (wCall dLen (wCons (wVar 0) wNil)) (wC (.int 1)))) (.nm 6) (w__law_splits_1))
def w__law_splits_3 : WS :=
  (wSeq (wSet 4 wDnew)
    (wSeq (wFor (wIt (wCall dList (wCons (wVar 2) wNil))) (.nm 5) (w__law_splits_2))
    (wSet 2 (wVar 4))))
def w__law_splits : WS :=
  (wSeq (wSet 2 (wDisp1 (wC (.int 0)) (wC (.bl true))))
    (wSeq (wFor (wIt (wVar 1)) (.nm 3) (w__law_splits_3))
    (wRet (wBin (dIn id) (wCall dLen (wCons (wVar 0) wNil)) (wVar 2)))))
theorem b__law_splits {P : Program} {w : World} {K : PySem.W.Frag} {mg : PySem.Str → Option Value} {base : Heap} {k : Nat} {f : Addr} {C : Addr} (g : G K mg C) (cdv : Value) (A : Around) (outer : List PySem.Env) (s : Shared) (H : Hp) (E : XK) (hr : Room k (A.deeper (envOfC "_law_splits" sc__law_splits s.heap.objs.size f cdv))) :
    DSs (cx P w K mg base nm__law_splits "_law_splits" sc__law_splits f cdv A outer s H E) (defBody st__law_splits) (w__law_splits) :=
  (dss_cons (sSet 2 nd__law_splits (de_disp1 xInt xBl))
    (dss_cons (sFor (di_expr (xV 1)) (gN 3 nd__law_splits) (dss_cons (sSet 4 nd__law_splits de_dnew)
    (dss_cons (sFor (di_expr (xTy (call_listR rfl) lift_list bt_list g.b_list (xArg (xV 2) da_nil))) (gN 5 nd__law_splits) (dss_one (sFor (iR2 g.b_range (xAdd (xV 5) xInt) (xAdd (xBi call_lenR lift_len boot_len g.b_len (xArg (xV 0) da_nil)) xInt)) (gN 6 nd__law_splits) (dss_one (ds_if (tNIn hr (de_slice (xV 0) (do_some (xV 5)) (do_some (xV 6))) (xV 3)) (dss_one (sPut hr xBl (xV 4) (xV 6))) dss_nil)))))
    (dss_one (sSet 2 nd__law_splits (xV 4))))))
    (dss_one (ds_ret (xIn hr (xBi call_lenR lift_len boot_len g.b_len (xArg (xV 0) da_nil)) (xV 2))))))
/-! _law_fails -/
abbrev st__law_fails : Stmt := top 47
abbrev sc__law_fails : Scope := defScope st__law_fails
abbrev nm__law_fails : List PySem.Str := [("bans" : PySem.Str), ("line" : PySem.Str), ("banned" : PySem.Str), ("kind" : PySem.Str), ("one" : PySem.Str)]
abbrev ps__law_fails : List PySem.Str := [("bans" : PySem.Str), ("line" : PySem.Str)]
theorem nd__law_fails : nm__law_fails.Nodup := by decide +kernel
theorem fs__law_fails : FnScope nm__law_fails ps__law_fails sc__law_fails := ⟨rfl, rfl, rfl, nd__law_fails, rfl, by decide +kernel, by decide +kernel⟩
def w__law_fails_1 (sp__law_banned sp__law_splits : DSp) : WS :=
  (wIf (wTru (wCall sp__law_splits (wCons (wVar 4) (wCons (wVar 2) wNil)))) (wRet (wC (.bl true))) wNext)
def w__law_fails (sp__law_banned sp__law_splits : DSp) : WS :=
  (wSeq (wSet 2 (wLc (wIt (wBin dIxA (wVar 1) (wC (.int 0)))) (.nm 3) [3] wYes (wCall sp__law_banned (wCons (wVar 0) (wCons (wVar 3) wNil)))))
    (wSeq (wFor (wIt (wCall sp__law_banned (wCons (wVar 0) (wCons (wBin dIxA (wVar 1) (wC (.int 1))) wNil)))) (.nm 4) (w__law_fails_1 sp__law_banned sp__law_splits))
    (wRet (wC (.bl false)))))
theorem b__law_fails {P : Program} {w : World} {K : PySem.W.Frag} {mg : PySem.Str → Option Value} {base : Heap} {k : Nat} {f : Addr} {C : Addr} (g : G K mg C) {sp__law_banned sp__law_splits : DSp} (h__law_banned : CalD P w K mg base k "_law_banned" sp__law_banned) (h__law_splits : CalD P w K mg base k "_law_splits" sp__law_splits) (cdv : Value) (A : Around) (outer : List PySem.Env) (s : Shared) (H : Hp) (E : XK) (hr : Room k (A.deeper (envOfC "_law_fails" sc__law_fails s.heap.objs.size f cdv))) :
    DSs (cx P w K mg base nm__law_fails "_law_fails" sc__law_fails f cdv A outer s H E) (defBody st__law_fails) (w__law_fails sp__law_banned sp__law_splits) :=
  (dss_cons (sSetLc 2 (own := [(("kind" : PySem.Str), 3)]) nd__law_fails (show BlkOk nm__law_fails sc__law_fails _ [(("kind" : PySem.Str), 3)] from blk (by decide +kernel)) (di_expr (xIx hr (xV 1) xInt)) (fun _ _ _ _ _ => (gN 3 nd__law_fails)) (fun _ _ _ _ _ => dts_nil) (fun _ _ _ _ _ => (xF h__law_banned hr (xArg (xV 0) (xArg (xV 3) da_nil)))))
    (dss_cons (sFor (di_expr (xF h__law_banned hr (xArg (xV 0) (xArg (xIx hr (xV 1) xInt) da_nil)))) (gN 4 nd__law_fails) (dss_one (ds_if (tV (xF h__law_splits hr (xArg (xV 4) (xArg (xV 2) da_nil)))) (dss_one (ds_ret xBl)) dss_nil)))
    (dss_one (ds_ret xBl))))
/-! _law_some_line -/
abbrev st__law_some_line : Stmt := top 48
abbrev sc__law_some_line : Scope := defScope st__law_some_line
abbrev nm__law_some_line : List PySem.Str := [("pool" : PySem.Str), ("marks" : PySem.Str), ("most" : PySem.Str), ("k" : PySem.Str)]
abbrev ps__law_some_line : List PySem.Str := [("pool" : PySem.Str), ("marks" : PySem.Str), ("most" : PySem.Str)]
theorem nd__law_some_line : nm__law_some_line.Nodup := by decide +kernel
theorem fs__law_some_line : FnScope nm__law_some_line ps__law_some_line sc__law_some_line := ⟨rfl, rfl, rfl, nd__law_some_line, rfl, by decide +kernel, by decide +kernel⟩
def w__law_some_line (sp__law_draw : DSp) : WS :=
  (wRet (wCall dTuple (wCons (wLc (wRange1 (wBin dAdd (wC (.int 1)) (wCall sp__law_draw (wCons (wVar 0) (wCons (wVar 2) wNil))))) (.nm 3) [3] wYes (wBin dIxA (wVar 1) (wCall sp__law_draw (wCons (wVar 0) (wCons (wCall dLen (wCons (wVar 1) wNil)) wNil))))) wNil)))
theorem b__law_some_line {P : Program} {w : World} {K : PySem.W.Frag} {mg : PySem.Str → Option Value} {base : Heap} {k : Nat} {f : Addr} {C : Addr} (g : G K mg C) {sp__law_draw : DSp} (h__law_draw : CalD P w K mg base k "_law_draw" sp__law_draw) (cdv : Value) (A : Around) (outer : List PySem.Env) (s : Shared) (H : Hp) (E : XK) (hr : Room k (A.deeper (envOfC "_law_some_line" sc__law_some_line s.heap.objs.size f cdv))) :
    DSs (cx P w K mg base nm__law_some_line "_law_some_line" sc__law_some_line f cdv A outer s H E) (defBody st__law_some_line) (w__law_some_line sp__law_draw) :=
  (dss_one (ds_ret (xTy call_tuple_of lift_tuple bt_tuple g.b_tuple (xArg (xLc (own := [(("k" : PySem.Str), 3)]) nd__law_some_line (show BlkOk nm__law_some_line sc__law_some_line _ [(("k" : PySem.Str), 3)] from blk (by decide +kernel)) (iR1 g.b_range (xAdd xInt (xF h__law_draw hr (xArg (xV 0) (xArg (xV 2) da_nil))))) (fun _ _ _ _ _ => (gN 3 nd__law_some_line)) (fun _ _ _ _ _ => dts_nil) (fun _ _ _ _ _ => (xIx hr (xV 1) (xF h__law_draw hr (xArg (xV 0) (xArg (xBi call_lenR lift_len boot_len g.b_len (xArg (xV 1) da_nil)) da_nil)))))) da_nil))))
/-! _law_bans -/
abbrev st__law_bans : Stmt := top 49
abbrev sc__law_bans : Scope := defScope st__law_bans
abbrev nm__law_bans : List PySem.Str := [("pool" : PySem.Str), ("names" : PySem.Str), ("size" : PySem.Str), ("marks" : PySem.Str), ("many" : PySem.Str), ("most" : PySem.Str), ("table" : PySem.Str), ("name" : PySem.Str), ("k" : PySem.Str), ("line" : PySem.Str)]
abbrev ps__law_bans : List PySem.Str := [("pool" : PySem.Str), ("names" : PySem.Str), ("size" : PySem.Str)]
theorem nd__law_bans : nm__law_bans.Nodup := by decide +kernel
theorem fs__law_bans : FnScope nm__law_bans ps__law_bans sc__law_bans := ⟨rfl, rfl, rfl, nd__law_bans, rfl, by decide +kernel, by decide +kernel⟩
def w__law_bans_1 (sp__law_draw sp__law_some_line : DSp) : WS :=
  (wIf (wB (wBin dGt (wCall sp__law_draw (wCons (wVar 0) (wCons (wC (.int 5)) wNil))) (wC (.int 0)))) (wPut (wLst wNil) (wVar 6) (wVar 7)) wNext)
def w__law_bans_2 (sp__law_draw sp__law_some_line : DSp) : WS :=
  (wIf (wB (wBin dGt (wCall dLen (wCons (wVar 6) wNil)) (wC (.int 0)))) (wSeq (wSet 7 (wBin dIxA (wCall dSorted (wCons (wVar 6) wNil)) (wCall sp__law_draw (wCons (wVar 0) (wCons (wCall dLen (wCons (wVar 6) wNil)) wNil)))))
    (wSeq (wSet 9 (wCall sp__law_some_line (wCons (wVar 0) (wCons (wVar 3) (wCons (wVar 5) wNil)))))
    (wIf (wB (wBin (dIn not) (wVar 9) (wBin dIxA (wVar 6) (wVar 7)))) (wPut (wBin dAdd (wBin dIxA (wVar 6) (wVar 7)) (wLst (wCons (wVar 9) wNil))) (wVar 6) (wVar 7)) wNext))) wNext)
def w__law_bans (sp__law_draw sp__law_some_line : DSp) : WS :=
  (wSeq (wSet 3 (wLst (wCons (wBin dIxA (wLst (wCons (wC (.int 0)) (wCons (wC (.int 999999)) (wCons (wC (.int 1)) (wCons (wC (.int 7)) wNil))))) (wCall sp__law_draw (wCons (wVar 0) (wCons (wC (.int 4)) wNil)))) (wCons (wCall sp__law_draw (wCons (wVar 0) (wCons (wC (.int 1000000)) wNil))) (wCons (wCall sp__law_draw (wCons (wVar 0) (wCons (wC (.int 1000000)) wNil))) wNil)))))
    (wSeq (wSet 3 (wSl (wVar 3) wNoPart (wPart (wBin dAdd (wC (.int 1)) (wCall sp__law_draw (wCons (wVar 0) (wCons (wC (.int 3)) wNil)))))))
    (wSeq (wAsg (.tp [4, 5]) (wBin dIxA (wLst (wCons (wTup (wCons (wC (.int 9)) (wCons (wC (.int 5)) wNil))) (wCons (wTup (wCons (wC (.int 14)) (wCons (wC (.int 6)) wNil))) wNil))) (wCall dInt1 (wCons (wVar 2) wNil))))
    (wSeq (wSet 6 wDnew)
    (wSeq (wFor (wIt (wVar 1)) (.nm 7) (w__law_bans_1 sp__law_draw sp__law_some_line))
    (wSeq (wFor (wRange1 (wCall sp__law_draw (wCons (wVar 0) (wCons (wBin dAdd (wVar 4) (wC (.int 1))) wNil)))) (.nm 8) (w__law_bans_2 sp__law_draw sp__law_some_line))
    (wRet (wCall dTuple (wCons (wLc (wIt (wCall dSorted (wCons (wVar 6) wNil))) (.nm 7) [7] wYes (wTup (wCons (wVar 7) (wCons (wCall dTuple (wCons (wBin dIxA (wVar 6) (wVar 7)) wNil)) wNil)))) wNil)))))))))
theorem b__law_bans {P : Program} {w : World} {K : PySem.W.Frag} {mg : PySem.Str → Option Value} {base : Heap} {k : Nat} {f : Addr} {C : Addr} (g : G K mg C) {sp__law_draw sp__law_some_line : DSp} (h__law_draw : CalD P w K mg base k "_law_draw" sp__law_draw) (h__law_some_line : CalD P w K mg base k "_law_some_line" sp__law_some_line) (cdv : Value) (A : Around) (outer : List PySem.Env) (s : Shared) (H : Hp) (E : XK) (hr : Room k (A.deeper (envOfC "_law_bans" sc__law_bans s.heap.objs.size f cdv))) :
    DSs (cx P w K mg base nm__law_bans "_law_bans" sc__law_bans f cdv A outer s H E) (defBody st__law_bans) (w__law_bans sp__law_draw sp__law_some_line) :=
  (dss_cons (sSet 3 nd__law_bans (de_lst (xArg (xIx hr (de_lst (xArg xInt (xArg xInt (xArg xInt (xArg xInt da_nil))))) (xF h__law_draw hr (xArg (xV 0) (xArg xInt da_nil)))) (xArg (xF h__law_draw hr (xArg (xV 0) (xArg xInt da_nil))) (xArg (xF h__law_draw hr (xArg (xV 0) (xArg xInt da_nil))) da_nil)))))
    (dss_cons (sSet 3 nd__law_bans (de_slice (xV 3) do_none (do_some (xAdd xInt (xF h__law_draw hr (xArg (xV 0) (xArg xInt da_nil)))))))
    (dss_cons (sAsg (xIx hr (de_lst (xArg (de_tup (xArg xInt (xArg xInt da_nil))) (xArg (de_tup (xArg xInt (xArg xInt da_nil))) da_nil))) (xTy call_int1 lift_int1 bt_int g.b_int (xArg (xV 2) da_nil))) (gG (pgs1 (gN 4 nd__law_bans) (pgs1 (gN 5 nd__law_bans) pgs0))))
    (dss_cons (sSet 6 nd__law_bans de_dnew)
    (dss_cons (sFor (di_expr (xV 1)) (gN 7 nd__law_bans) (dss_one (ds_if (tGt (xF h__law_draw hr (xArg (xV 0) (xArg xInt da_nil))) xInt) (dss_one (sPut hr (de_lst da_nil) (xV 6) (xV 7))) dss_nil)))
    (dss_cons (sFor (iR1 g.b_range (xF h__law_draw hr (xArg (xV 0) (xArg (xAdd (xV 4) xInt) da_nil)))) (gN 8 nd__law_bans) (dss_one (ds_if (tGt (xBi call_lenR lift_len boot_len g.b_len (xArg (xV 6) da_nil)) xInt) (dss_cons (sSet 7 nd__law_bans (xIx hr (xBi (call_sortedA rfl hr.units) lift_ofL bt_sorted g.b_sorted (xArg (xV 6) da_nil)) (xF h__law_draw hr (xArg (xV 0) (xArg (xBi call_lenR lift_len boot_len g.b_len (xArg (xV 6) da_nil)) da_nil)))))
    (dss_cons (sSet 9 nd__law_bans (xF h__law_some_line hr (xArg (xV 0) (xArg (xV 3) (xArg (xV 5) da_nil)))))
    (dss_one (ds_if (tNIn hr (xV 9) (xIx hr (xV 6) (xV 7))) (dss_one (sPut hr (xAdd (xIx hr (xV 6) (xV 7)) (de_lst (xArg (xV 9) da_nil))) (xV 6) (xV 7))) dss_nil)))) dss_nil)))
    (dss_one (ds_ret (xTy call_tuple_of lift_tuple bt_tuple g.b_tuple (xArg (xLc (own := [(("name" : PySem.Str), 7)]) nd__law_bans (show BlkOk nm__law_bans sc__law_bans _ [(("name" : PySem.Str), 7)] from blk (by decide +kernel)) (di_expr (xBi (call_sortedA rfl hr.units) lift_ofL bt_sorted g.b_sorted (xArg (xV 6) da_nil))) (fun _ _ _ _ _ => (gN 7 nd__law_bans)) (fun _ _ _ _ _ => dts_nil) (fun _ _ _ _ _ => (de_tup (xArg (xV 7) (xArg (xTy call_tuple_of lift_tuple bt_tuple g.b_tuple (xArg (xIx hr (xV 6) (xV 7)) da_nil)) da_nil))))) da_nil))))))))))
/-! _law_line_of_lists -/
abbrev st__law_line_of_lists : Stmt := top 50
abbrev sc__law_line_of_lists : Scope := defScope st__law_line_of_lists
abbrev nm__law_line_of_lists : List PySem.Str := [("pool" : PySem.Str), ("many" : PySem.Str), ("parts" : PySem.Str), ("made" : PySem.Str), ("k" : PySem.Str), ("j" : PySem.Str)]
abbrev ps__law_line_of_lists : List PySem.Str := [("pool" : PySem.Str), ("many" : PySem.Str)]
theorem nd__law_line_of_lists : nm__law_line_of_lists.Nodup := by decide +kernel
theorem fs__law_line_of_lists : FnScope nm__law_line_of_lists ps__law_line_of_lists sc__law_line_of_lists := ⟨rfl, rfl, rfl, nd__law_line_of_lists, rfl, by decide +kernel, by decide +kernel⟩
def w__law_line_of_lists_1 (sp__law_draw : DSp) : WS :=
  (wDrop (wApp (wVar 3) (wTup (wCons (wBin dAdd (wC (.str "a")) (wCall dStr1 (wCons (wVar 4) wNil))) (wCons (wCall dTuple (wCons (wLc (wRange1 (wBin dIxA (wVar 2) (wVar 4))) (.nm 5) [5] wYes (wTup (wCons (wBin dFdiv (wVar 5) (wC (.int 1000))) (wCons (wVar 5) wNil)))) wNil)) wNil)))))
def w__law_line_of_lists (sp__law_draw : DSp) : WS :=
  (wSeq (wSet 2 (wBin dIxA (wLst (wCons (wLst (wCons (wVar 1) wNil)) (wCons (wLst (wCons (wBin dSub (wVar 1) (wC (.int 1))) (wCons (wC (.int 1)) wNil))) (wCons (wLst (wCons (wBin dFdiv (wVar 1) (wC (.int 2))) (wCons (wBin dSub (wVar 1) (wBin dFdiv (wVar 1) (wC (.int 2)))) (wCons (wC (.int 0)) wNil)))) wNil)))) (wCall sp__law_draw (wCons (wVar 0) (wCons (wC (.int 3)) wNil)))))
    (wSeq (wSet 3 (wLst wNil))
    (wSeq (wFor (wRange1 (wCall dLen (wCons (wVar 2) wNil))) (.nm 4) (w__law_line_of_lists_1 sp__law_draw))
    (wRet (wCall dTuple (wCons (wVar 3) wNil))))))
theorem b__law_line_of_lists {P : Program} {w : World} {K : PySem.W.Frag} {mg : PySem.Str → Option Value} {base : Heap} {k : Nat} {f : Addr} {C : Addr} (g : G K mg C) {sp__law_draw : DSp} (h__law_draw : CalD P w K mg base k "_law_draw" sp__law_draw) (cdv : Value) (A : Around) (outer : List PySem.Env) (s : Shared) (H : Hp) (E : XK) (hr : Room k (A.deeper (envOfC "_law_line_of_lists" sc__law_line_of_lists s.heap.objs.size f cdv))) :
    DSs (cx P w K mg base nm__law_line_of_lists "_law_line_of_lists" sc__law_line_of_lists f cdv A outer s H E) (defBody st__law_line_of_lists) (w__law_line_of_lists sp__law_draw) :=
  (dss_cons (sSet 2 nd__law_line_of_lists (xIx hr (de_lst (xArg (de_lst (xArg (xV 1) da_nil)) (xArg (de_lst (xArg (xSub (xV 1) xInt) (xArg xInt da_nil))) (xArg (de_lst (xArg (xFdiv (xV 1) xInt) (xArg (xSub (xV 1) (xFdiv (xV 1) xInt)) (xArg xInt da_nil)))) da_nil)))) (xF h__law_draw hr (xArg (xV 0) (xArg xInt da_nil)))))
    (dss_cons (sSet 3 nd__law_line_of_lists (de_lst da_nil))
    (dss_cons (sFor (iR1 g.b_range (xBi call_lenR lift_len boot_len g.b_len (xArg (xV 2) da_nil))) (gN 4 nd__law_line_of_lists) (dss_one (sExpr (de_append (xV 3) (de_tup (xArg (xAdd xStr (xTy call_str_int lift_str1 bt_str g.b_str (xArg (xV 4) da_nil))) (xArg (xTy call_tuple_of lift_tuple bt_tuple g.b_tuple (xArg (xLc (own := [(("j" : PySem.Str), 5)]) nd__law_line_of_lists (show BlkOk nm__law_line_of_lists sc__law_line_of_lists _ [(("j" : PySem.Str), 5)] from blk (by decide +kernel)) (iR1 g.b_range (xIx hr (xV 2) (xV 4))) (fun _ _ _ _ _ => (gN 5 nd__law_line_of_lists)) (fun _ _ _ _ _ => dts_nil) (fun _ _ _ _ _ => (de_tup (xArg (xFdiv (xV 5) xInt) (xArg (xV 5) da_nil))))) da_nil)) da_nil)))))))
    (dss_one (ds_ret (xTy call_tuple_of lift_tuple bt_tuple g.b_tuple (xArg (xV 3) da_nil)))))))
/-! _law_things -/
abbrev st__law_things : Stmt := top 51
abbrev sc__law_things : Scope := defScope st__law_things
abbrev nm__law_things : List PySem.Str := [("pool" : PySem.Str), ("bans" : PySem.Str), ("many" : PySem.Str), ("found" : PySem.Str), ("k" : PySem.Str), ("at" : PySem.Str), ("atom" : PySem.Str), ("lines" : PySem.Str), ("wrong" : PySem.Str), ("one" : PySem.Str)]
abbrev ps__law_things : List PySem.Str := [("pool" : PySem.Str), ("bans" : PySem.Str)]
theorem nd__law_things : nm__law_things.Nodup := by decide +kernel
theorem fs__law_things : FnScope nm__law_things ps__law_things sc__law_things := ⟨rfl, rfl, rfl, nd__law_things, rfl, by decide +kernel, by decide +kernel⟩
def w__law_things_1 (sp__law_draw sp__law_line_of_lists : DSp) : WS :=
  (wDrop (wApp (wVar 3) (wLst (wCons (wBin dAdd (wBin dAdd (wSl (wVar 1) wNoPart (wPart (wVar 5))) (wTup (wCons (wVar 9) wNil))) (wSl (wVar 1) (wPart (wBin dAdd (wVar 5) (wC (.int 1)))) wNoPart)) (wCons (wC (.bl false)) wNil)))))
def w__law_things_2 (sp__law_draw sp__law_line_of_lists : DSp) : WS :=
  (wSeq (wAsg (.tp [6, 7]) (wBin dIxA (wVar 1) (wVar 5)))
    (wSeq (wSet 8 (wLst (wCons (wLst (wCons (wVar 6) (wCons (wVar 7) wNil))) (wCons (wTup (wCons (wVar 6) (wCons (wCall dList (wCons (wVar 7) wNil)) wNil))) (wCons (wTup (wCons (wVar 6) (wCons (wVar 7) (wCons (wTup wNil) wNil)))) (wCons (wTup (wCons (wC (.str "N")) (wCons (wVar 7) wNil))) (wCons (wTup (wCons (wC (.str "n.0")) (wCons (wVar 7) wNil))) (wCons (wTup (wCons (wC (.int 3)) (wCons (wVar 7) wNil))) (wCons (wVar 6) wNil)))))))))
    (wSeq (wSet 8 (wBin dAdd (wVar 8) (wLst (wCons (wTup (wCons (wTup (wCons (wVar 6) wNil)) (wCons (wVar 7) wNil))) (wCons (wTup (wCons (wVar 6) (wCons (wBin dAdd (wVar 7) (wTup (wCons (wTup wNil) wNil))) wNil))) (wCons (wTup (wCons (wVar 6) (wCons (wBin dAdd (wVar 7) (wTup (wCons (wLst (wCons (wC (.int 1)) wNil)) wNil))) wNil))) (wCons (wTup (wCons (wVar 6) (wCons (wBin dAdd (wVar 7) (wTup (wCons (wTup (wCons (wNeg (wC (.int 1))) wNil)) wNil))) wNil))) wNil)))))))
    (wSeq (wSet 8 (wBin dAdd (wVar 8) (wLst (wCons (wTup (wCons (wVar 6) (wCons (wBin dAdd (wVar 7) (wTup (wCons (wTup (wCons (wC (.int 1000000)) wNil)) wNil))) wNil))) (wCons (wTup (wCons (wVar 6) (wCons (wBin dAdd (wVar 7) (wTup (wCons (wTup (wCons (wC (.int 0)) (wCons (wC (.bl true)) wNil))) wNil))) wNil))) (wCons (wTup (wCons (wVar 6) (wCons (wBin dAdd (wVar 7) (wTup (wCons (wTup (wCons (wC (.str "0")) wNil)) wNil))) wNil))) wNil))))))
    (wSeq (wIf (wB (wBin dGt (wCall dLen (wCons (wVar 7) wNil)) (wC (.int 0)))) (wDrop (wApp (wVar 8) (wTup (wCons (wVar 6) (wCons (wBin dAdd (wVar 7) (wSl (wVar 7) wNoPart (wPart (wC (.int 1))))) wNil))))) wNext)
    (wSeq (wFor (wIt (wVar 8)) (.nm 9) (w__law_things_1 sp__law_draw sp__law_line_of_lists))
    (wSet 3 (wBin dAdd (wVar 3) (wLst (wCons (wLst (wCons (wBin dAdd (wVar 1) (wTup (wCons (wTup (wCons (wVar 6) (wCons (wTup wNil) wNil))) wNil))) (wCons (wC (.bl false)) wNil))) (wCons (wLst (wCons (wBin dIxA (wVar 1) (wVar 5)) (wCons (wC (.bl false)) wNil))) (wCons (wLst (wCons (wBin dAdd (wSl (wVar 1) wNoPart (wPart (wVar 5))) (wSl (wVar 1) (wPart (wBin dAdd (wVar 5) (wC (.int 1)))) wNoPart)) (wCons (wC (.bl true)) wNil))) wNil))))))))))))
def w__law_things (sp__law_draw sp__law_line_of_lists : DSp) : WS :=
  (wSeq (wSet 2 (wCall sp__law_draw (wCons (wVar 0) (wCons (wC (.int 2)) wNil))))
    (wSeq (wSet 3 (wLst (wCons (wLst (wCons (wTup wNil) (wCons (wC (.bl true)) wNil))) (wCons (wLst (wCons (wC .non) (wCons (wC (.bl false)) wNil))) (wCons (wLst (wCons (wC (.int 0)) (wCons (wC (.bl false)) wNil))) (wCons (wLst (wCons (wCall sp__law_line_of_lists (wCons (wVar 0) (wCons (wBin dAdd (wC (.int 100)) (wVar 2)) wNil))) (wCons (wBin (dEq id) (wVar 2) (wC (.int 0))) wNil))) wNil))))))
    (wSeq (wDrop (wApp (wVar 3) (wLst (wCons (wCall dTuple (wCons (wLc (wRange1 (wBin dAdd (wC (.int 100)) (wVar 2))) (.nm 4) [4] wYes (wTup (wCons (wBin dAdd (wC (.str "a")) (wCall dStr1 (wCons (wVar 4) wNil))) (wCons (wTup wNil) wNil)))) wNil)) (wCons (wBin (dEq id) (wVar 2) (wC (.int 0))) wNil)))))
    (wSeq (wDrop (wApp (wVar 3) (wLst (wCons (wTup (wCons (wTup (wCons (wC (.str "a")) (wCons (wTup (wCons (wBin dMul (wTup (wCons (wC (.int 5)) wNil)) (wBin dAdd (wC (.int 80)) (wVar 2))) wNil)) wNil))) wNil)) (wCons (wBin (dEq id) (wVar 2) (wC (.int 0))) wNil)))))
    (wSeq (wDrop (wApp (wVar 3) (wLst (wCons (wTup (wCons (wTup (wCons (wC (.str "a")) (wCons (wTup (wCons (wTup (wCons (wBin dAdd (wC (.int 999999)) (wVar 2)) wNil)) wNil)) wNil))) wNil)) (wCons (wBin (dEq id) (wVar 2) (wC (.int 0))) wNil)))))
    (wSeq (wDrop (wApp (wVar 3) (wLst (wCons (wCall dList (wCons (wVar 1) wNil)) (wCons (wC (.bl false)) wNil)))))
    (wSeq (wFor (wRange1 (wCall dLen (wCons (wVar 1) wNil))) (.nm 5) (w__law_things_2 sp__law_draw sp__law_line_of_lists))
    (wRet (wVar 3)))))))))
theorem b__law_things {P : Program} {w : World} {K : PySem.W.Frag} {mg : PySem.Str → Option Value} {base : Heap} {k : Nat} {f : Addr} {C : Addr} (g : G K mg C) {sp__law_draw sp__law_line_of_lists : DSp} (h__law_draw : CalD P w K mg base k "_law_draw" sp__law_draw) (h__law_line_of_lists : CalD P w K mg base k "_law_line_of_lists" sp__law_line_of_lists) (cdv : Value) (A : Around) (outer : List PySem.Env) (s : Shared) (H : Hp) (E : XK) (hr : Room k (A.deeper (envOfC "_law_things" sc__law_things s.heap.objs.size f cdv))) :
    DSs (cx P w K mg base nm__law_things "_law_things" sc__law_things f cdv A outer s H E) (defBody st__law_things) (w__law_things sp__law_draw sp__law_line_of_lists) :=
  (dss_cons (sSet 2 nd__law_things (xF h__law_draw hr (xArg (xV 0) (xArg xInt da_nil))))
    (dss_cons (sSet 3 nd__law_things (de_lst (xArg (de_lst (xArg (de_tup da_nil) (xArg xBl da_nil))) (xArg (de_lst (xArg xNon (xArg xBl da_nil))) (xArg (de_lst (xArg xInt (xArg xBl da_nil))) (xArg (de_lst (xArg (xF h__law_line_of_lists hr (xArg (xV 0) (xArg (xAdd xInt (xV 2)) da_nil))) (xArg (xEq hr (xV 2) xInt) da_nil))) da_nil))))))
    (dss_cons (sExpr (de_append (xV 3) (de_lst (xArg (xTy call_tuple_of lift_tuple bt_tuple g.b_tuple (xArg (xLc (own := [(("k" : PySem.Str), 4)]) nd__law_things (show BlkOk nm__law_things sc__law_things _ [(("k" : PySem.Str), 4)] from blk (by decide +kernel)) (iR1 g.b_range (xAdd xInt (xV 2))) (fun _ _ _ _ _ => (gN 4 nd__law_things)) (fun _ _ _ _ _ => dts_nil) (fun _ _ _ _ _ => (de_tup (xArg (xAdd xStr (xTy call_str_int lift_str1 bt_str g.b_str (xArg (xV 4) da_nil))) (xArg (de_tup da_nil) da_nil))))) da_nil)) (xArg (xEq hr (xV 2) xInt) da_nil)))))
    (dss_cons (sExpr (de_append (xV 3) (de_lst (xArg (de_tup (xArg (de_tup (xArg xStr (xArg (de_tup (xArg (xMul (de_tup (xArg xInt da_nil)) (xAdd xInt (xV 2))) da_nil)) da_nil))) da_nil)) (xArg (xEq hr (xV 2) xInt) da_nil)))))
    (dss_cons (sExpr (de_append (xV 3) (de_lst (xArg (de_tup (xArg (de_tup (xArg xStr (xArg (de_tup (xArg (de_tup (xArg (xAdd xInt (xV 2)) da_nil)) da_nil)) da_nil))) da_nil)) (xArg (xEq hr (xV 2) xInt) da_nil)))))
    (dss_cons (sExpr (de_append (xV 3) (de_lst (xArg (xTy (call_listR rfl) lift_list bt_list g.b_list (xArg (xV 1) da_nil)) (xArg xBl da_nil)))))
    (dss_cons (sFor (iR1 g.b_range (xBi call_lenR lift_len boot_len g.b_len (xArg (xV 1) da_nil))) (gN 5 nd__law_things) (dss_cons (sAsg (xIx hr (xV 1) (xV 5)) (gG (pgs1 (gN 6 nd__law_things) (pgs1 (gN 7 nd__law_things) pgs0))))
    (dss_cons (sSet 8 nd__law_things (de_lst (xArg (de_lst (xArg (xV 6) (xArg (xV 7) da_nil))) (xArg (de_tup (xArg (xV 6) (xArg (xTy (call_listR rfl) lift_list bt_list g.b_list (xArg (xV 7) da_nil)) da_nil))) (xArg (de_tup (xArg (xV 6) (xArg (xV 7) (xArg (de_tup da_nil) da_nil)))) (xArg (de_tup (xArg xStr (xArg (xV 7) da_nil))) (xArg (de_tup (xArg xStr (xArg (xV 7) da_nil))) (xArg (de_tup (xArg xInt (xArg (xV 7) da_nil))) (xArg (xV 6) da_nil)))))))))
    (dss_cons (sSet 8 nd__law_things (xAdd (xV 8) (de_lst (xArg (de_tup (xArg (de_tup (xArg (xV 6) da_nil)) (xArg (xV 7) da_nil))) (xArg (de_tup (xArg (xV 6) (xArg (xAdd (xV 7) (de_tup (xArg (de_tup da_nil) da_nil))) da_nil))) (xArg (de_tup (xArg (xV 6) (xArg (xAdd (xV 7) (de_tup (xArg (de_lst (xArg xInt da_nil)) da_nil))) da_nil))) (xArg (de_tup (xArg (xV 6) (xArg (xAdd (xV 7) (de_tup (xArg (de_tup (xArg (de_neg xInt) da_nil)) da_nil))) da_nil))) da_nil)))))))
    (dss_cons (sSet 8 nd__law_things (xAdd (xV 8) (de_lst (xArg (de_tup (xArg (xV 6) (xArg (xAdd (xV 7) (de_tup (xArg (de_tup (xArg xInt da_nil)) da_nil))) da_nil))) (xArg (de_tup (xArg (xV 6) (xArg (xAdd (xV 7) (de_tup (xArg (de_tup (xArg xInt (xArg xBl da_nil))) da_nil))) da_nil))) (xArg (de_tup (xArg (xV 6) (xArg (xAdd (xV 7) (de_tup (xArg (de_tup (xArg xStr da_nil)) da_nil))) da_nil))) da_nil))))))
    (dss_cons (ds_if (tGt (xBi call_lenR lift_len boot_len g.b_len (xArg (xV 7) da_nil)) xInt) (dss_one (sExpr (de_append (xV 8) (de_tup (xArg (xV 6) (xArg (xAdd (xV 7) (de_slice (xV 7) do_none (do_some xInt))) da_nil)))))) dss_nil)
    (dss_cons (sFor (di_expr (xV 8)) (gN 9 nd__law_things) (dss_one (sExpr (de_append (xV 3) (de_lst (xArg (xAdd (xAdd (de_slice (xV 1) do_none (do_some (xV 5))) (de_tup (xArg (xV 9) da_nil))) (de_slice (xV 1) (do_some (xAdd (xV 5) xInt)) do_none)) (xArg xBl da_nil)))))))
    (dss_one (sSet 3 nd__law_things (xAdd (xV 3) (de_lst (xArg (de_lst (xArg (xAdd (xV 1) (de_tup (xArg (de_tup (xArg (xV 6) (xArg (de_tup da_nil) da_nil))) da_nil))) (xArg xBl da_nil))) (xArg (de_lst (xArg (xIx hr (xV 1) (xV 5)) (xArg xBl da_nil))) (xArg (de_lst (xArg (xAdd (de_slice (xV 1) do_none (do_some (xV 5))) (de_slice (xV 1) (do_some (xAdd (xV 5) xInt)) do_none)) (xArg xBl da_nil))) da_nil))))))))))))))
    (dss_one (ds_ret (xV 3))))))))))
/-! _law_lines_right -/
abbrev st__law_lines_right : Stmt := top 52
abbrev sc__law_lines_right : Scope := defScope st__law_lines_right
abbrev nm__law_lines_right : List PySem.Str := [("told" : PySem.Str), ("due" : PySem.Str), ("ordered" : PySem.Str), ("size" : PySem.Str), ("line" : PySem.Str), ("k" : PySem.Str)]
abbrev ps__law_lines_right : List PySem.Str := [("told" : PySem.Str), ("due" : PySem.Str)]
theorem nd__law_lines_right : nm__law_lines_right.Nodup := by decide +kernel
theorem fs__law_lines_right : FnScope nm__law_lines_right ps__law_lines_right sc__law_lines_right := ⟨rfl, rfl, rfl, nd__law_lines_right, rfl, by decide +kernel, by decide +kernel⟩
def w__law_lines_right_1 (sp__law_is_places : DSp) : WS :=
  (wSet 2 (wBin dAdd (wVar 2) (wCall dSorted (wCons (wLc (wIt (wVar 1)) (.nm 4) [4] (wB (wBin (dEq id) (wCall dLen (wCons (wVar 4) wNil)) (wVar 3))) (wVar 4)) wNil))))
def w__law_lines_right (sp__law_is_places : DSp) : WS :=
  (wSeq (wIf (wOrT (wNotT (wTru (wIsi .tuple (wVar 0)))) (wB (wBin (dEq not) (wCall dLen (wCons (wVar 0) wNil)) (wCall dLen (wCons (wVar 1) wNil))))) (wRet (wC (.bl false))) wNext)
    (wSeq (wSet 2 (wLst wNil))
    (wSeq (wFor (wRange2 (wC (.int 1)) (wC (.int 82))) (.nm 3) (w__law_lines_right_1 sp__law_is_places))
    (wRet (wBin (dEq id) (wCall dLen (wCons (wLc (wRange1 (wCall dLen (wCons (wVar 0) wNil))) (.nm 5) [5] (wNotT (wTru (wCall sp__law_is_places (wCons (wBin dIxA (wVar 0) (wVar 5)) (wCons (wBin dIxA (wVar 2) (wVar 5)) wNil))))) (wVar 5)) wNil)) (wC (.int 0)))))))
theorem b__law_lines_right {P : Program} {w : World} {K : PySem.W.Frag} {mg : PySem.Str → Option Value} {base : Heap} {k : Nat} {f : Addr} {C : Addr} (g : G K mg C) {sp__law_is_places : DSp} (h__law_is_places : CalD P w K mg base k "_law_is_places" sp__law_is_places) (cdv : Value) (A : Around) (outer : List PySem.Env) (s : Shared) (H : Hp) (E : XK) (hr : Room k (A.deeper (envOfC "_law_lines_right" sc__law_lines_right s.heap.objs.size f cdv))) :
    DSs (cx P w K mg base nm__law_lines_right "_law_lines_right" sc__law_lines_right f cdv A outer s H E) (defBody st__law_lines_right) (w__law_lines_right sp__law_is_places) :=
  (dss_cons (ds_if (tW (dw_or (dt_not (tV (xIsi .tuple g.b_isinstance g.b_tuple (xV 0)))) (dw_or1 (tNe hr (xBi call_lenR lift_len boot_len g.b_len (xArg (xV 0) da_nil)) (xBi call_lenR lift_len boot_len g.b_len (xArg (xV 1) da_nil)))))) (dss_one (ds_ret xBl)) dss_nil)
    (dss_cons (sSet 2 nd__law_lines_right (de_lst da_nil))
    (dss_cons (sFor (iR2 g.b_range xInt xInt) (gN 3 nd__law_lines_right) (dss_one (sSet 2 nd__law_lines_right (xAdd (xV 2) (xBi (call_sortedA rfl hr.units) lift_ofL bt_sorted g.b_sorted (xArg (xLc (own := [(("line" : PySem.Str), 4)]) nd__law_lines_right (show BlkOk nm__law_lines_right sc__law_lines_right _ [(("line" : PySem.Str), 4)] from blk (by decide +kernel)) (di_expr (xV 1)) (fun _ _ _ _ _ => (gN 4 nd__law_lines_right)) (fun _ _ _ _ _ => (dts_one (tEq hr (xBi call_lenR lift_len boot_len g.b_len (xArg (xV 4) da_nil)) (xV 3)))) (fun _ _ _ _ _ => (xV 4))) da_nil))))))
    (dss_one (ds_ret (xEq hr (xBi call_lenR lift_len boot_len g.b_len (xArg (xLc (own := [(("k" : PySem.Str), 5)]) nd__law_lines_right (show BlkOk nm__law_lines_right sc__law_lines_right _ [(("k" : PySem.Str), 5)] from blk (by decide +kernel)) (iR1 g.b_range (xBi call_lenR lift_len boot_len g.b_len (xArg (xV 0) da_nil))) (fun _ _ _ _ _ => (gN 5 nd__law_lines_right)) (fun _ _ _ _ _ => (dts_one (dt_not (tV (xF h__law_is_places hr (xArg (xIx hr (xV 0) (xV 5)) (xArg (xIx hr (xV 2) (xV 5)) da_nil))))))) (fun _ _ _ _ _ => (xV 5))) da_nil)) xInt))))))
/-! _law_shown -/
abbrev st__law_shown : Stmt := top 53
abbrev sc__law_shown : Scope := defScope st__law_shown
abbrev nm__law_shown : List PySem.Str := [("told" : PySem.Str), ("bans" : PySem.Str), ("line" : PySem.Str), ("row" : PySem.Str), ("k" : PySem.Str), ("mark" : PySem.Str)]
abbrev ps__law_shown : List PySem.Str := [("told" : PySem.Str), ("bans" : PySem.Str), ("line" : PySem.Str)]
theorem nd__law_shown : nm__law_shown.Nodup := by decide +kernel
theorem fs__law_shown : FnScope nm__law_shown ps__law_shown sc__law_shown := ⟨rfl, rfl, rfl, nd__law_shown, rfl, by decide +kernel, by decide +kernel⟩
def w__law_shown_1 (sp__law_is_integer sp__law_banned : DSp) : WS :=
  (wSeq (wIf (wOrT (wNotT (wTru (wIsi .tuple (wBin dIxA (wVar 0) (wVar 4))))) (wB (wBin (dEq id) (wCall dLen (wCons (wBin dIxA (wVar 0) (wVar 4)) wNil)) (wC (.int 0))))) (wRet (wC (.bl false))) wNext)
    (wSeq (wIf (wB (wBin dGt (wCall dLen (wCons (wLc (wIt (wBin dIxA (wVar 0) (wVar 4))) (.nm 5) [5] (wNotT (wTru (wCall sp__law_is_integer (wCons (wVar 5) wNil)))) (wVar 5)) wNil)) (wC (.int 0)))) (wRet (wC (.bl false))) wNext)
    (wSeq (wIf (wB (wBin (dIn id) (wBin dIxA (wVar 0) (wVar 4)) (wCall sp__law_banned (wCons (wVar 1) (wCons (wBin dIxA (wBin dIxA (wVar 2) (wC (.int 0))) (wVar 4)) wNil))))) (wRet (wC (.bl false))) wNext)
    (wSet 3 (wBin dAdd (wVar 3) (wBin dIxA (wVar 0) (wVar 4)))))))
def w__law_shown (sp__law_is_integer sp__law_banned : DSp) : WS :=
  (wSeq (wIf (wOrT (wNotT (wTru (wIsi .tuple (wVar 0)))) (wB (wBin (dEq not) (wCall dLen (wCons (wVar 0) wNil)) (wCall dLen (wCons (wBin dIxA (wVar 2) (wC (.int 0))) wNil))))) (wRet (wC (.bl false))) wNext)
    (wSeq (wSet 3 (wTup wNil))
    (wSeq (wFor (wRange1 (wCall dLen (wCons (wVar 0) wNil))) (.nm 4) (w__law_shown_1 sp__law_is_integer sp__law_banned))
    (wRet (wBin (dIn id) (wVar 3) (wCall sp__law_banned (wCons (wVar 1) (wCons (wBin dIxA (wVar 2) (wC (.int 1))) wNil))))))))
theorem b__law_shown {P : Program} {w : World} {K : PySem.W.Frag} {mg : PySem.Str → Option Value} {base : Heap} {k : Nat} {f : Addr} {C : Addr} (g : G K mg C) {sp__law_is_integer sp__law_banned : DSp} (h__law_is_integer : CalD P w K mg base k "_law_is_integer" sp__law_is_integer) (h__law_banned : CalD P w K mg base k "_law_banned" sp__law_banned) (cdv : Value) (A : Around) (outer : List PySem.Env) (s : Shared) (H : Hp) (E : XK) (hr : Room k (A.deeper (envOfC "_law_shown" sc__law_shown s.heap.objs.size f cdv))) :
    DSs (cx P w K mg base nm__law_shown "_law_shown" sc__law_shown f cdv A outer s H E) (defBody st__law_shown) (w__law_shown sp__law_is_integer sp__law_banned) :=
  (dss_cons (ds_if (tW (dw_or (dt_not (tV (xIsi .tuple g.b_isinstance g.b_tuple (xV 0)))) (dw_or1 (tNe hr (xBi call_lenR lift_len boot_len g.b_len (xArg (xV 0) da_nil)) (xBi call_lenR lift_len boot_len g.b_len (xArg (xIx hr (xV 2) xInt) da_nil)))))) (dss_one (ds_ret xBl)) dss_nil)
    (dss_cons (sSet 3 nd__law_shown (de_tup da_nil))
    (dss_cons (sFor (iR1 g.b_range (xBi call_lenR lift_len boot_len g.b_len (xArg (xV 0) da_nil))) (gN 4 nd__law_shown) (dss_cons (ds_if (tW (dw_or (dt_not (tV (xIsi .tuple g.b_isinstance g.b_tuple (xIx hr (xV 0) (xV 4))))) (dw_or1 (tEq hr (xBi call_lenR lift_len boot_len g.b_len (xArg (xIx hr (xV 0) (xV 4)) da_nil)) xInt)))) (dss_one (ds_ret xBl)) dss_nil)
    (dss_cons (ds_if (tGt (xBi call_lenR lift_len boot_len g.b_len (xArg (xLc (own := [(("mark" : PySem.Str), 5)]) nd__law_shown (show BlkOk nm__law_shown sc__law_shown _ [(("mark" : PySem.Str), 5)] from blk (by decide +kernel)) (di_expr (xIx hr (xV 0) (xV 4))) (fun _ _ _ _ _ => (gN 5 nd__law_shown)) (fun _ _ _ _ _ => (dts_one (dt_not (tV (xF h__law_is_integer hr (xArg (xV 5) da_nil)))))) (fun _ _ _ _ _ => (xV 5))) da_nil)) xInt) (dss_one (ds_ret xBl)) dss_nil)
    (dss_cons (ds_if (tIn hr (xIx hr (xV 0) (xV 4)) (xF h__law_banned hr (xArg (xV 1) (xArg (xIx hr (xIx hr (xV 2) xInt) (xV 4)) da_nil)))) (dss_one (ds_ret xBl)) dss_nil)
    (dss_one (sSet 3 nd__law_shown (xAdd (xV 3) (xIx hr (xV 0) (xV 4)))))))))
    (dss_one (ds_ret (xIn hr (xV 3) (xF h__law_banned hr (xArg (xV 1) (xArg (xIx hr (xV 2) xInt) da_nil)))))))))
/-! _law_judged -/
abbrev st__law_judged : Stmt := top 54
abbrev sc__law_judged : Scope := defScope st__law_judged
abbrev nm__law_judged : List PySem.Str := [("bans" : PySem.Str), ("line" : PySem.Str), ("fails" : PySem.Str), ("told" : PySem.Str)]
abbrev ps__law_judged : List PySem.Str := [("bans" : PySem.Str), ("line" : PySem.Str)]
theorem nd__law_judged : nm__law_judged.Nodup := by decide +kernel
theorem fs__law_judged : FnScope nm__law_judged ps__law_judged sc__law_judged := ⟨rfl, rfl, rfl, nd__law_judged, rfl, by decide +kernel, by decide +kernel⟩
def w__law_judged (sp__law_fails sp_holds sp__law_is_truth sp_failing_lines sp__law_shown : DSp) : WS :=
  (wSeq (wSet 2 (wCall sp__law_fails (wCons (wVar 0) (wCons (wVar 1) wNil))))
    (wSeq (wIf (wNotT (wTru (wCall sp__law_is_truth (wCons (wCall sp_holds (wCons (wVar 0) (wCons (wVar 1) wNil))) (wCons (wNotV (wVar 2)) wNil))))) (wRet (wC (.bl false))) wNext)
    (wSeq (wSet 3 (wCall sp_failing_lines (wCons (wVar 0) (wCons (wVar 1) wNil))))
    (wSeq (wIf (wTru (wVar 2)) (wRet (wCall sp__law_shown (wCons (wVar 3) (wCons (wVar 0) (wCons (wVar 1) wNil))))) wNext)
    (wRet (wBin (dIs id) (wVar 3) (wC .non)))))))
theorem b__law_judged {P : Program} {w : World} {K : PySem.W.Frag} {mg : PySem.Str → Option Value} {base : Heap} {k : Nat} {f : Addr} {C : Addr} (g : G K mg C) {sp__law_fails sp_holds sp__law_is_truth sp_failing_lines sp__law_shown : DSp} (h__law_fails : CalD P w K mg base k "_law_fails" sp__law_fails) (h_holds : CalD P w K mg base k "holds" sp_holds) (h__law_is_truth : CalD P w K mg base k "_law_is_truth" sp__law_is_truth) (h_failing_lines : CalD P w K mg base k "failing_lines" sp_failing_lines) (h__law_shown : CalD P w K mg base k "_law_shown" sp__law_shown) (cdv : Value) (A : Around) (outer : List PySem.Env) (s : Shared) (H : Hp) (E : XK) (hr : Room k (A.deeper (envOfC "_law_judged" sc__law_judged s.heap.objs.size f cdv))) :
    DSs (cx P w K mg base nm__law_judged "_law_judged" sc__law_judged f cdv A outer s H E) (defBody st__law_judged) (w__law_judged sp__law_fails sp_holds sp__law_is_truth sp_failing_lines sp__law_shown) :=
  (dss_cons (sSet 2 nd__law_judged (xF h__law_fails hr (xArg (xV 0) (xArg (xV 1) da_nil))))
    (dss_cons (ds_if (dt_not (tV (xF h__law_is_truth hr (xArg (xF h_holds hr (xArg (xV 0) (xArg (xV 1) da_nil))) (xArg (de_not (xV 2)) da_nil))))) (dss_one (ds_ret xBl)) dss_nil)
    (dss_cons (sSet 3 nd__law_judged (xF h_failing_lines hr (xArg (xV 0) (xArg (xV 1) da_nil))))
    (dss_cons (ds_if (tV (xV 2)) (dss_one (ds_ret (xF h__law_shown hr (xArg (xV 3) (xArg (xV 0) (xArg (xV 1) da_nil)))))) dss_nil)
    (dss_one (ds_ret (xIs (xV 3) xNon)))))))
/-! law -/
abbrev st_law : Stmt := top 55
abbrev sc_law : Scope := defScope st_law
abbrev nm_law : List PySem.Str := [("script" : PySem.Str), ("pool" : PySem.Str), ("names" : PySem.Str), ("k" : PySem.Str), ("name" : PySem.Str), ("bans" : PySem.Str), ("cap" : PySem.Str), ("few" : PySem.Str), ("kinds" : PySem.Str), ("choice" : PySem.Str), ("row" : PySem.Str), ("line" : PySem.Str), ("turn" : PySem.Str), ("kind" : PySem.Str), ("thing" : PySem.Str), ("due" : PySem.Str)]
abbrev ps_law : List PySem.Str := [("script" : PySem.Str)]
theorem nd_law : nm_law.Nodup := by decide +kernel
theorem fs_law : FnScope nm_law ps_law sc_law := ⟨rfl, rfl, rfl, nd_law, rfl, by decide +kernel, by decide +kernel⟩
def w_law_1 (sp__law_pool sp__law_draw sp__law_any_atom sp__law_bans sp__law_kind sp__law_banned sp_banned_lines sp__law_lines_right sp__law_judged sp_is_ban_list sp__law_things sp__law_is_truth : DSp) : WS :=
  (wSeq (wSet 4 (wCall sp__law_any_atom (wCons (wVar 1) wNil)))
    (wIf (wB (wBin (dIn not) (wVar 4) (wVar 2))) (wDrop (wApp (wVar 2) (wVar 4))) wNext))
def w_law_2 (sp__law_pool sp__law_draw sp__law_any_atom sp__law_bans sp__law_kind sp__law_banned sp_banned_lines sp__law_lines_right sp__law_judged sp_is_ban_list sp__law_things sp__law_is_truth : DSp) : WS :=
  (wIf (wNotT (wTru (wCall sp__law_lines_right (wCons (wCall sp_banned_lines (wCons (wVar 5) (wCons (wVar 13) wNil))) (wCons (wCall sp__law_banned (wCons (wVar 5) (wCons (wVar 13) wNil))) wNil))))) (wRet (wC (.bl false))) wNext)
def w_law_3 (sp__law_pool sp__law_draw sp__law_any_atom sp__law_bans sp__law_kind sp__law_banned sp_banned_lines sp__law_lines_right sp__law_judged sp_is_ban_list sp__law_things sp__law_is_truth : DSp) : WS :=
  (wSeq (wFor (wIt (wBin dAdd (wVar 8) (wLst (wCons (wBin dIxA (wVar 2) (wC (.int 0))) wNil)))) (.nm 13) (w_law_2 sp__law_pool sp__law_draw sp__law_any_atom sp__law_bans sp__law_kind sp__law_banned sp_banned_lines sp__law_lines_right sp__law_judged sp_is_ban_list sp__law_things sp__law_is_truth))
    (wIf (wOrT (wNotT (wTru (wCall sp__law_judged (wCons (wVar 5) (wCons (wVar 11) wNil))))) (wB (wBin (dIs not) (wCall sp_is_ban_list (wCons (wVar 5) wNil)) (wC (.bl true))))) (wRet (wC (.bl false))) wNext))
def w_law_4 (sp__law_pool sp__law_draw sp__law_any_atom sp__law_bans sp__law_kind sp__law_banned sp_banned_lines sp__law_lines_right sp__law_judged sp_is_ban_list sp__law_things sp__law_is_truth : DSp) : WS :=
  (wIf (wNotT (wTru (wCall sp__law_is_truth (wCons (wCall sp_is_ban_list (wCons (wVar 14) wNil)) (wCons (wVar 15) wNil))))) (wRet (wC (.bl false))) wNext)
def w_law (sp__law_pool sp__law_draw sp__law_any_atom sp__law_bans sp__law_kind sp__law_banned sp_banned_lines sp__law_lines_right sp__law_judged sp_is_ban_list sp__law_things sp__law_is_truth : DSp) : WS :=
  (wSeq (wSet 1 (wCall sp__law_pool (wCons (wVar 0) (wCons (wC (.int 0)) wNil))))
    (wSeq (wSet 2 (wLst wNil))
    (wSeq (wFor (wRange1 (wBin dAdd (wC (.int 1)) (wCall sp__law_draw (wCons (wVar 1) (wCons (wC (.int 4)) wNil))))) (.nm 3) (w_law_1 sp__law_pool sp__law_draw sp__law_any_atom sp__law_bans sp__law_kind sp__law_banned sp_banned_lines sp__law_lines_right sp__law_judged sp_is_ban_list sp__law_things sp__law_is_truth))
    (wSeq (wSet 5 (wCall sp__law_bans (wCons (wVar 1) (wCons (wVar 2) (wCons (wBin (dEq id) (wCall sp__law_draw (wCons (wVar 1) (wCons (wC (.int 8)) wNil))) (wC (.int 7))) wNil)))))
    (wSeq (wSet 1 (wCall sp__law_pool (wCons (wVar 0) (wCons (wC (.int 1)) wNil))))
    (wSeq (wSet 6 (wBin dIxA (wLst (wCons (wC (.int 4)) (wCons (wC (.int 4)) (wCons (wC (.int 4)) (wCons (wC (.int 7)) wNil))))) (wCall sp__law_draw (wCons (wVar 1) (wCons (wC (.int 4)) wNil)))))
    (wSeq (wSet 7 (wSl (wVar 2) wNoPart (wPart (wBin dAdd (wC (.int 1)) (wCall sp__law_draw (wCons (wVar 1) (wCons (wCall dLen (wCons (wVar 2) wNil)) wNil)))))))
    (wSeq (wSet 8 (wLc (wRange1 (wC (.int 3))) (.nm 3) [3] wYes (wCall sp__law_kind (wCons (wVar 1) (wCons (wVar 7) (wCons (wBin dAdd (wC (.int 1)) (wCall sp__law_draw (wCons (wVar 1) (wCons (wVar 6) wNil)))) wNil))))))
    (wSeq (wSet 9 (wBin dAdd (wVar 8) (wVar 7)))
    (wSeq (wSet 10 (wCall dTuple (wCons (wLc (wRange1 (wBin dAdd (wC (.int 1)) (wCall sp__law_draw (wCons (wVar 1) (wCons (wC (.int 4)) wNil))))) (.nm 3) [3] wYes (wBin dIxA (wVar 9) (wCall sp__law_draw (wCons (wVar 1) (wCons (wCall dLen (wCons (wVar 9) wNil)) wNil))))) wNil)))
    (wSeq (wSet 11 (wTup (wCons (wVar 10) (wCons (wBin dIxA (wVar 9) (wCall sp__law_draw (wCons (wVar 1) (wCons (wCall dLen (wCons (wVar 9) wNil)) wNil)))) wNil))))
    (wSeq (wFor (wRange1 (wC (.int 2))) (.nm 12) (w_law_3 sp__law_pool sp__law_draw sp__law_any_atom sp__law_bans sp__law_kind sp__law_banned sp_banned_lines sp__law_lines_right sp__law_judged sp_is_ban_list sp__law_things sp__law_is_truth))
    (wSeq (wForL (wIt (wCall sp__law_things (wCons (wCall sp__law_pool (wCons (wVar 0) (wCons (wC (.int 2)) wNil))) (wCons (wVar 5) wNil)))) [14, 15] (w_law_4 sp__law_pool sp__law_draw sp__law_any_atom sp__law_bans sp__law_kind sp__law_banned sp_banned_lines sp__law_lines_right sp__law_judged sp_is_ban_list sp__law_things sp__law_is_truth))
    (wRet (wC (.bl true))))))))))))))))
theorem b_law {P : Program} {w : World} {K : PySem.W.Frag} {mg : PySem.Str → Option Value} {base : Heap} {k : Nat} {f : Addr} {C : Addr} (g : G K mg C) {sp__law_pool sp__law_draw sp__law_any_atom sp__law_bans sp__law_kind sp__law_banned sp_banned_lines sp__law_lines_right sp__law_judged sp_is_ban_list sp__law_things sp__law_is_truth : DSp} (h__law_pool : CalD P w K mg base k "_law_pool" sp__law_pool) (h__law_draw : CalD P w K mg base k "_law_draw" sp__law_draw) (h__law_any_atom : CalD P w K mg base k "_law_any_atom" sp__law_any_atom) (h__law_bans : CalD P w K mg base k "_law_bans" sp__law_bans) (h__law_kind : CalD P w K mg base k "_law_kind" sp__law_kind) (h__law_banned : CalD P w K mg base k "_law_banned" sp__law_banned) (h_banned_lines : CalD P w K mg base k "banned_lines" sp_banned_lines) (h__law_lines_right : CalD P w K mg base k "_law_lines_right" sp__law_lines_right) (h__law_judged : CalD P w K mg base k "_law_judged" sp__law_judged) (h_is_ban_list : CalD P w K mg base k "is_ban_list" sp_is_ban_list) (h__law_things : CalD P w K mg base k "_law_things" sp__law_things) (h__law_is_truth : CalD P w K mg base k "_law_is_truth" sp__law_is_truth) (cdv : Value) (A : Around) (outer : List PySem.Env) (s : Shared) (H : Hp) (E : XK) (hr : Room k (A.deeper (envOfC "law" sc_law s.heap.objs.size f cdv))) :
    DSs (cx P w K mg base nm_law "law" sc_law f cdv A outer s H E) (defBody st_law) (w_law sp__law_pool sp__law_draw sp__law_any_atom sp__law_bans sp__law_kind sp__law_banned sp_banned_lines sp__law_lines_right sp__law_judged sp_is_ban_list sp__law_things sp__law_is_truth) :=
  (dss_cons (sSet 1 nd_law (xF h__law_pool hr (xArg (xV 0) (xArg xInt da_nil))))
    (dss_cons (sSet 2 nd_law (de_lst da_nil))
    (dss_cons (sFor (iR1 g.b_range (xAdd xInt (xF h__law_draw hr (xArg (xV 1) (xArg xInt da_nil))))) (gN 3 nd_law) (dss_cons (sSet 4 nd_law (xF h__law_any_atom hr (xArg (xV 1) da_nil)))
    (dss_one (ds_if (tNIn hr (xV 4) (xV 2)) (dss_one (sExpr (de_append (xV 2) (xV 4)))) dss_nil))))
    (dss_cons (sSet 5 nd_law (xF h__law_bans hr (xArg (xV 1) (xArg (xV 2) (xArg (xEq hr (xF h__law_draw hr (xArg (xV 1) (xArg xInt da_nil))) xInt) da_nil)))))
    (dss_cons (sSet 1 nd_law (xF h__law_pool hr (xArg (xV 0) (xArg xInt da_nil))))
    (dss_cons (sSet 6 nd_law (xIx hr (de_lst (xArg xInt (xArg xInt (xArg xInt (xArg xInt da_nil))))) (xF h__law_draw hr (xArg (xV 1) (xArg xInt da_nil)))))
    (dss_cons (sSet 7 nd_law (de_slice (xV 2) do_none (do_some (xAdd xInt (xF h__law_draw hr (xArg (xV 1) (xArg (xBi call_lenR lift_len boot_len g.b_len (xArg (xV 2) da_nil)) da_nil)))))))
    (dss_cons (sSetLc 8 (own := [(("k" : PySem.Str), 3)]) nd_law (show BlkOk nm_law sc_law _ [(("k" : PySem.Str), 3)] from blk (by decide +kernel)) (iR1 g.b_range xInt) (fun _ _ _ _ _ => (gN 3 nd_law)) (fun _ _ _ _ _ => dts_nil) (fun _ _ _ _ _ => (xF h__law_kind hr (xArg (xV 1) (xArg (xV 7) (xArg (xAdd xInt (xF h__law_draw hr (xArg (xV 1) (xArg (xV 6) da_nil)))) da_nil))))))
    (dss_cons (sSet 9 nd_law (xAdd (xV 8) (xV 7)))
    (dss_cons (sSet 10 nd_law (xTy call_tuple_of lift_tuple bt_tuple g.b_tuple (xArg (xLc (own := [(("k" : PySem.Str), 3)]) nd_law (show BlkOk nm_law sc_law _ [(("k" : PySem.Str), 3)] from blk (by decide +kernel)) (iR1 g.b_range (xAdd xInt (xF h__law_draw hr (xArg (xV 1) (xArg xInt da_nil))))) (fun _ _ _ _ _ => (gN 3 nd_law)) (fun _ _ _ _ _ => dts_nil) (fun _ _ _ _ _ => (xIx hr (xV 9) (xF h__law_draw hr (xArg (xV 1) (xArg (xBi call_lenR lift_len boot_len g.b_len (xArg (xV 9) da_nil)) da_nil)))))) da_nil)))
    (dss_cons (sSet 11 nd_law (de_tup (xArg (xV 10) (xArg (xIx hr (xV 9) (xF h__law_draw hr (xArg (xV 1) (xArg (xBi call_lenR lift_len boot_len g.b_len (xArg (xV 9) da_nil)) da_nil)))) da_nil))))
    (dss_cons (sFor (iR1 g.b_range xInt) (gN 12 nd_law) (dss_cons (sFor (di_expr (xAdd (xV 8) (de_lst (xArg (xIx hr (xV 2) xInt) da_nil)))) (gN 13 nd_law) (dss_one (ds_if (dt_not (tV (xF h__law_lines_right hr (xArg (xF h_banned_lines hr (xArg (xV 5) (xArg (xV 13) da_nil))) (xArg (xF h__law_banned hr (xArg (xV 5) (xArg (xV 13) da_nil))) da_nil))))) (dss_one (ds_ret xBl)) dss_nil)))
    (dss_one (ds_if (tW (dw_or (dt_not (tV (xF h__law_judged hr (xArg (xV 5) (xArg (xV 11) da_nil))))) (dw_or1 (tIsN (xF h_is_ban_list hr (xArg (xV 5) da_nil)) xBl)))) (dss_one (ds_ret xBl)) dss_nil))))
    (dss_cons (sForL (di_expr (xF h__law_things hr (xArg (xF h__law_pool hr (xArg (xV 0) (xArg xInt da_nil))) (xArg (xV 5) da_nil)))) (gL (pgs1 (gN 14 nd_law) (pgs1 (gN 15 nd_law) pgs0))) (dss_one (ds_if (dt_not (tV (xF h__law_is_truth hr (xArg (xF h_is_ban_list hr (xArg (xV 14) da_nil)) (xArg (xV 15) da_nil))))) (dss_one (ds_ret xBl)) dss_nil)))
    (dss_one (ds_ret xBl)))))))))))))))
end F83

set_option Elab.async false
set_option linter.all false
set_option maxRecDepth 100000
set_option maxHeartbeats 4000000
namespace F83
open PySem PySem.Spec PyProof.Rows L2 Fw
abbrev lets : PySem.Str := "abcdefghijklmnopqrstuvwxyz"
abbrev digs : PySem.Str := "0123456789"
/-! is_atom_number, is_atom -/
def isNum (z : PySem.Str) : Bool := !decide (z.length < 1) && !decide (6 < z.length) && (match z.cps.toList with
  | c :: _ => !decide (c = 48) && z.cps.toList.all fun c => decide (c ∈ digs.cps.toList)
  | [] => false)
def sp_num : DSp := fun ds M Q => ∃ z : PySem.Str, ds = [.str z] ∧ z.length ≤ sizeLine ∧ Q (.bl (isNum z)) M
theorem len_cps (z : PySem.Str) : z.cps.toList.length = z.length := by
  show z.cps.toList.length = z.cps.size
  exact Array.length_toList
theorem at0 {α : Type} {a : α} {l : List α} : L2.atI (a :: l) 0 = some a := by
  unfold L2.atI ixN
  simp
theorem zero_str {c : Nat} : ((⟨#[c]⟩ : PySem.Str) = Str.ofString "0") ↔ c = 48 := by
  have : Str.ofString "0" = ⟨#[48]⟩ := by decide
  rw [this]
  constructor
  · intro h; injection h with h; simpa using h
  · rintro rfl; rfl
theorem signs_map (z : PySem.Str) : Fw.signs z = z.cps.toList.map fun c => D.str ⟨#[c]⟩ := rfl
theorem num_ok : ∀ ds M Q, sp_num ds M Q → w_is_atom_number (ends Q) (startD 2 ds) M := by
  rintro ds M Q ⟨z, rfl, hz, q⟩
  unfold w_is_atom_number
  have hl := len_cps z
  unfold isNum at q
  by_cases h1 : z.length < 1
  · have h1' : ((z.length : Nat) : Int) < 1 := by omega
    simp [h1, h1', hz] at q ⊢
    exact .inl (drops_of q)
  · by_cases h2 : 6 < z.length
    · have h1' : ¬ ((z.length : Nat) : Int) < 1 := by omega
      have h2' : (6 : Int) < (z.length : Nat) := by omega
      have h3' : (1 : Int) ≤ (z.length : Nat) := by omega
      simp [h1', h2, h2', h3', hz] at q ⊢
      exact .inl (drops_of q)
    · have h1' : ¬ ((z.length : Nat) : Int) < 1 := by omega
      have h2' : ¬ (6 : Int) < (z.length : Nat) := by omega
      have h3' : (1 : Int) ≤ (z.length : Nat) := by omega
      have h4' : ((z.length : Nat) : Int) ≤ 6 := by omega
      cases hc : z.cps.toList with
      | nil => rw [hc] at hl; simp at hl; omega
      | cons c r =>
        rw [hc] at q
        simp only [h1', h2', h3', h4', h1, h2, hz, hc] at q ⊢
        simp [h1', h2', h3', h4', h1, h2, hz, hc, at0, zero_str] at q ⊢
        by_cases h5 : c = 48
        · simp [h5] at q ⊢
          exact drops_of q
        · simp [h5] at q ⊢
          rw [signs_map]
          refine comp_all _ (fun c => .bl (decide (c ∈ digs.cps.toList))) trivial ?_ ?_ ?_
          · intro a ha N n
            simpa using n
          · rw [hl]; exact hz
          · intro p hp
            refine y_all (bs := z.cps.toList.map fun c => decide (c ∈ digs.cps.toList)) (by rw [mset_same, List.map_map]; rfl) ?_
            refine drops_to (SubM.new hp) ?_
            simp [hc]
            exact q
/-- until the first dot; behind it -/
def upTo (z : PySem.Str) : List Nat := z.cps.toList.takeWhile fun c => decide (c ≠ 46)
def onFrom (z : PySem.Str) : List Nat := z.cps.toList.dropWhile fun c => decide (c ≠ 46)
def strOf (l : List Nat) : PySem.Str := ⟨l.toArray⟩
theorem part_dot (z : PySem.Str) : Txt.partition z (Str.ofString ".") = (strOf (upTo z), (if onFrom z = [] then Str.ofString "" else Str.ofString "."), strOf (onFrom z).tail) := by
  have ey : TL.tl (Str.ofString ".") = [46] := by decide
  have hsp : z.cps.toList = upTo z ++ onFrom z := (List.takeWhile_append_dropWhile ..).symm
  have hn : 46 ∉ upTo z := fun h => by
    have := List.all_eq_true.mp (List.all_takeWhile (l := z.cps.toList) (p := fun c => decide (c ≠ 46))) 46 h
    simp at this
  cases hr : onFrom z with
  | nil =>
    rw [hr, List.append_nil] at hsp
    have e : z = strOf (upTo z) := by unfold strOf; rw [← hsp]
    rw [TL.partition_none ey (a := z) (by show 46 ∉ z.cps.toList; rw [hsp]; exact hn)]
    rw [if_pos rfl]
    refine Prod.ext e (Prod.ext ?_ ?_)
    · show Str.empty = Str.ofString ""; decide
    · show Str.empty = strOf []; decide
  | cons c r =>
    have hc : c = 46 := by
      have := List.head_dropWhile_not (fun c => decide (c ≠ 46)) (l := z.cps.toList) (by show onFrom z ≠ []; rw [hr]; simp)
      have h2 : (onFrom z).head (by rw [hr]; simp) = c := by simp [hr]
      unfold onFrom at h2
      rw [h2] at this
      simpa using this
    subst hc
    rw [if_neg (by simp)]
    have e : z = strOf (upTo z) ++ Str.ofString "." ++ strOf r := by
      apply TL.ext_tl
      rw [TL.tl_append, TL.tl_append, ey]
      show z.cps.toList = (upTo z).toArray.toList ++ [46] ++ r.toArray.toList
      rw [hsp, hr]; simp
    conv => lhs; rw [e]
    rw [TL.partition_app ey (by show 46 ∉ (upTo z).toArray.toList; simpa using hn)]
    rfl
def okCh (c : Nat) : Bool := decide (c ∈ lets.cps.toList) || decide (c ∈ digs.cps.toList)
def isAtom (z : PySem.Str) : Bool := !decide ((upTo z).length < 1) && !decide (8 < (upTo z).length) && (match upTo z with
  | c :: _ => decide (c ∈ lets.cps.toList) && (upTo z).all okCh
  | [] => false) && (decide (onFrom z = []) || isNum (strOf (onFrom z).tail))
def isAtomD : D → Bool
  | .str z => isAtom z
  | _ => false
/-- a thing that may be looked at -/
def knT (M : Mem) : D → Prop
  | .str z => z.length ≤ sizeLine
  | .ref a => ∃ t, tyD (.ref a) M = some t
  | _ => True
def sp_atom : DSp := fun ds M Q => ∃ d : D, ds = [d] ∧ knT M d ∧ Q (.bl (isAtomD d)) M
theorem tyD_ref {M : Mem} {a : Addr} {t : String} (h : tyD (.ref a) M = some t) : t = "list" ∨ t = "dict" := by
  unfold tyD at h
  simp only at h
  split at h <;> first | (cases h; simp) | cases h
theorem isi_ref {M : Mem} {a : Addr} {T : Ty} (h : ∃ t, tyD (.ref a) M = some t) (hT : T = .str ∨ T = .tuple ∨ T = .int ∨ T = .bool) : isiD T (.ref a) M = some false := by
  obtain ⟨t, h⟩ := h
  unfold isiD
  rw [h]
  rcases tyD_ref h with rfl | rfl <;> rcases hT with rfl | rfl | rfl | rfl <;> rfl
theorem strOf_len (l : List Nat) : (strOf l).length = l.length := by show l.toArray.size = l.length; simp
theorem isi_else {M : Mem} {d : D} (h : knT M d) (hd : ∀ z, d ≠ .str z) : isiD .str d M = some false := by
  cases d with
  | str z => exact absurd rfl (hd z)
  | ref a => exact isi_ref h (.inl rfl)
  | _ => rfl
theorem tw_le {α : Type} {p : α → Bool} (l : List α) : (l.takeWhile p).length + (l.dropWhile p).length = l.length := by
  rw [← List.length_append, List.takeWhile_append_dropWhile]
theorem atom_ok : ∀ ds M Q, sp_atom ds M Q → w_is_atom sp_num (ends Q) (startD 5 ds) M := by
  rintro ds M Q ⟨d, rfl, hk, q⟩
  unfold w_is_atom
  by_cases hs : ∃ z, d = .str z
  · obtain ⟨z, rfl⟩ := hs
    have hz : z.length ≤ sizeLine := hk
    have ht : (upTo z).length + (onFrom z).length = z.length := by
      rw [← len_cps z]; exact tw_le _
    have hd1 : ((Str.ofString ".").length == 0) = false := by decide
    have hd2 : ¬ (Str.ofString ".").length = 0 := by decide
    have hd3 : (Str.ofString "." = Str.ofString "") = False := by decide
    simp [-Bool.exists_bool, hz, hd2, hd3, part_dot, strOf_len]
    refine ⟨by omega, ?_⟩
    unfold isAtomD isAtom at q
    simp only [Bool.and_assoc] at q
    by_cases h1 : (upTo z).length < 1
    · rw [if_neg (by omega)]
      simp only [h1, decide_true, Bool.not_true, Bool.false_and] at q
      exact drops_of q
    · rw [if_pos (by omega)]
      by_cases h2 : 8 < (upTo z).length
      · rw [if_neg (by omega)]
        simp only [h2, decide_true, Bool.not_true, Bool.false_and, Bool.and_false] at q
        exact drops_of q
      · rw [if_pos (by omega)]
        refine ⟨by omega, ?_⟩
        simp only [h1, h2, decide_false, Bool.not_false, Bool.true_and] at q
        cases hc : upTo z with
        | nil => rw [hc] at h1; simp at h1
        | cons c r =>
          have hcl : (strOf (c :: r)).cps.toList = c :: r := rfl
          rw [hcl]
          refine ⟨c, at0, ?_⟩
          simp only [hc] at q
          by_cases h3 : c ∈ lets.cps.toList
          · rw [if_pos (by simpa using h3)]
            rw [signs_map, hcl]
            refine comp_all _ (fun c => .bl (okCh c)) trivial ?_ ?_ ?_
            · intro a ha N n
              unfold okCh at n
              simp [-Bool.exists_bool]
              by_cases h4 : a ∈ lets.cps.toList
              · rw [if_pos (by simpa using h4)]
                have e : decide (a ∈ (Str.ofString "abcdefghijklmnopqrstuvwxyz").cps) = true := by simpa using h4
                rw [e]
                simpa [h4] using n
              · rw [if_neg (by simpa using h4)]
                simp [h4] at n ⊢
                exact n
            · rw [← hc]; omega
            · intro p hp
              refine y_all (bs := (c :: r).map okCh) (by rw [mset_same, List.map_map]; rfl) ?_
              simp only [List.all_map, h3, decide_true, Bool.true_and] at q ⊢
              have e : ((c :: r).all (id ∘ okCh)) = (c :: r).all okCh := rfl
              rw [e]
              simp only [ex_tr]
              cases h5 : (c :: r).all okCh with
              | false =>
                rw [h5] at q
                exact drops_to (SubM.new hp) q
              | true =>
                rw [h5] at q
                rw [if_pos rfl]
                simp only [Bool.true_and] at q
                by_cases h6 : onFrom z = []
                · simp [h6] at q ⊢
                  exact drops_to (SubM.new hp) q
                · simp [h6] at q ⊢
                  refine ⟨_, rfl, ?_, drops_to (SubM.new hp) q⟩
                  rw [strOf_len, List.length_tail]; omega
          · rw [if_neg (by simpa using h3)]
            simp only [h3, decide_false, Bool.false_and] at q
            exact drops_of q
  · have hi := isi_else hk fun z e => hs ⟨z, e⟩
    have e : isAtomD d = false := by
      cases d <;> first | rfl | exact absurd ⟨_, rfl⟩ hs
    rw [e] at q
    simp [-Bool.exists_bool, hi]
    exact drops_of q
/-! is_line -/
def isMark : D → Bool
  | .int i => decide (0 ≤ i) && decide (i ≤ 999999)
  | _ => false
def isLineD : D → Bool
  | .tup ds => !decide (ds.length < 1) && !decide (80 < ds.length) && ds.all isMark
  | _ => false
def knA (M : Mem) : D → Prop
  | .tup ds => ∀ x ∈ ds, knT M x
  | d => knT M d
theorem knA_T {M : Mem} {d : D} (h : knA M d) : knT M d := by cases d <;> first | exact h | exact True.intro
def sp_line : DSp := fun ds M Q => ∃ d : D, ds = [d] ∧ knA M d ∧ Q (.bl (isLineD d)) M
theorem isi_tup {M : Mem} {d : D} (h : knT M d) (hd : ∀ z, d ≠ .tup z) : isiD .tuple d M = some false := by
  cases d with
  | tup z => exact absurd rfl (hd z)
  | ref a => exact isi_ref h (.inr (.inl rfl))
  | _ => rfl
theorem isi_int {M : Mem} {d : D} (h : knT M d) : isiD .int d M = some (match d with | .int _ => true | .bl _ => true | _ => false) := by
  cases d with
  | ref a => exact isi_ref h (.inr (.inr (.inl rfl)))
  | _ => rfl
theorem isi_bool {M : Mem} {d : D} (h : knT M d) : isiD .bool d M = some (match d with | .bl _ => true | _ => false) := by
  cases d with
  | ref a => exact isi_ref h (.inr (.inr (.inr rfl)))
  | _ => rfl
theorem line_ok : ∀ ds M Q, sp_line ds M Q → w_is_line (ends Q) (startD 2 ds) M := by
  rintro ds M Q ⟨d, rfl, hk, q⟩
  unfold w_is_line
  by_cases hs : ∃ z, d = .tup z
  · obtain ⟨z, rfl⟩ := hs
    have hk : ∀ x ∈ z, knT M x := hk
    simp [-Bool.exists_bool]
    unfold isLineD at q
    simp only [Bool.and_assoc] at q
    by_cases h1 : z.length < 1
    · rw [if_neg (by omega)]
      simp only [h1, decide_true, Bool.not_true, Bool.false_and] at q
      exact drops_of q
    · rw [if_pos (by omega)]
      by_cases h2 : 80 < z.length
      · rw [if_neg (by omega)]
        simp only [h2, decide_true, Bool.not_true, Bool.false_and, Bool.and_false] at q
        exact drops_of q
      · rw [if_pos (by omega)]
        simp only [h1, h2, decide_false, Bool.not_false, Bool.true_and] at q
        refine loop_go (fun done ρ M' => M' = M ∧ (∃ x, ρ = [some (.tup z), x]) ∧ done.all isMark = true) ⟨rfl, ⟨none, rfl⟩, rfl⟩ ?_ ?_
        · rintro done x rest hz ρ M' ⟨rfl, ⟨x0, rfl⟩, hd⟩ N hN
          refine ⟨_, _, .refl, .refl, trivial, ?_⟩
          have hx : knT M' x := hk x (by rw [hz]; simp)
          unfold w_is_line_1
          have fal : isMark x = false → drops Q (.bl false) M' := fun e => by
            have : z.all isMark = false := by rw [hz]; simp [e]
            rw [this] at q
            exact drops_of q
          have tru : isMark x = true → N [some (.tup z), some x] M' := fun e => hN _ _ ⟨rfl, ⟨_, rfl⟩, by simp [e]; simpa using hd⟩
          simp only [y_tg1, List.set_cons_succ, List.set_cons_zero]
          simp [-Bool.exists_bool, isi_int hx, isi_bool hx]
          cases x with
          | int i =>
            simp only [isMark] at fal tru
            simp [-Bool.exists_bool]
            by_cases h3 : 0 ≤ i
            · by_cases h4 : i ≤ 999999
              · simp only [h3, h4, if_true]; exact tru (by simp [h3, h4])
              · simp only [h3, h4, if_true, if_false]; exact fal (by simp [h3, h4])
            · simp only [h3, if_false]; exact fal (by simp [h3])
          | bl b => exact fal rfl
          | non => exact fal rfl
          | str b => exact fal rfl
          | tup b => exact fal rfl
          | ref b => exact fal rfl
        · rintro ρ M' ⟨rfl, ⟨x0, rfl⟩, hd⟩
          refine ⟨_, _, .refl, .refl, trivial, ?_⟩
          rw [hd] at q
          simp
          exact drops_of q
  · have hi := isi_tup (knA_T hk) fun z e => hs ⟨z, e⟩
    have e : isLineD d = false := by
      cases d <;> first | rfl | exact absurd ⟨_, rfl⟩ hs
    rw [e] at q
    simp [-Bool.exists_bool, hi]
    exact drops_of q
end F83

set_option Elab.async false
set_option linter.all false
set_option maxRecDepth 100000
set_option maxHeartbeats 4000000
namespace F83
open PySem PySem.Spec PyProof.Rows L2 Fw
theorem sz1000 : 1000 < sizeLine := by rw [sizeLine_eq]; decide
/-! are_unlike_lines -/
def unlikeD : D → Bool
  | .tup ds => ds.all isLineD && decide ds.Nodup
  | _ => false
def knB (M : Mem) : D → Prop
  | .tup ds => ds.length ≤ 1000 ∧ ∀ x ∈ ds, knA M x
  | d => knT M d
theorem knB_T {M : Mem} {d : D} (h : knB M d) : knT M d := by cases d <;> first | exact h | exact True.intro
def sp_unlike : DSp := fun ds M Q => ∃ d : D, ds = [d] ∧ knB M d ∧ Q (.bl (unlikeD d)) M
theorem isMark_int {d : D} (h : isMark d = true) : ∃ i, d = .int i := by
  cases d <;> first | exact ⟨_, rfl⟩ | cases h
theorem marks_ints : ∀ {ds : List D}, ds.all isMark = true → ∃ l : Line, ds = l.map D.int
  | [], _ => ⟨[], rfl⟩
  | d :: ds, h => by
    rw [List.all_cons, Bool.and_eq_true] at h
    obtain ⟨i, rfl⟩ := isMark_int h.1
    obtain ⟨l, rfl⟩ := marks_ints h.2
    exact ⟨i :: l, rfl⟩
theorem line_enc {d : D} (h : isLineD d = true) : ∃ l : Line, d = encL l := by
  cases d with
  | tup ds =>
    unfold isLineD at h
    simp only [Bool.and_eq_true] at h
    obtain ⟨l, rfl⟩ := marks_ints h.2
    exact ⟨l, rfl⟩
  | _ => cases h
theorem kys_len {kvs : List (D × D)} : (kys kvs).length = kvs.length := by unfold kys; rw [List.length_map]
theorem put_len {kvs : List (D × D)} {k v : D} : (putD kvs k v).length = if k ∈ kys kvs then kvs.length else kvs.length + 1 := by
  rw [← kys_len, show kys (putD kvs k v) = (if k ∈ kys kvs then kys kvs else kys kvs ++ [k]) from putD_keys]
  by_cases h : k ∈ kys kvs
  · rw [if_pos h, if_pos h]; exact kys_len
  · rw [if_neg h, if_neg h, List.length_append]; show (kys kvs).length + 1 = _; rw [kys_len]
/-- a table that was filled with the items of a list -/
structure Fill (kvs : List (D × D)) (done : List D) : Prop where
  mem : ∀ d, d ∈ kys kvs ↔ d ∈ done
  le : kvs.length ≤ done.length
  eq : kvs.length = done.length ↔ done.Nodup
theorem Fill.nil : Fill [] [] := ⟨fun d => Iff.rfl, Nat.le_refl _, by simp⟩
theorem Fill.put {kvs : List (D × D)} {done : List D} {x v : D} (f : Fill kvs done) : Fill (putD kvs x v) (done ++ [x]) := by
  refine ⟨fun d => ?_, ?_, ?_⟩
  · rw [kys_put, f.mem]; simp
  · rw [put_len, List.length_append]; have := f.le; split <;> simp <;> omega
  · rw [put_len, List.length_append, List.nodup_append]
    have := f.le
    by_cases h : x ∈ kys kvs
    · rw [if_pos h]
      constructor
      · intro e; simp at e; omega
      · rintro ⟨_, _, h3⟩
        exact absurd rfl (h3 x ((f.mem x).mp h) x (by simp))
    · rw [if_neg h]
      constructor
      · intro e
        refine ⟨f.eq.mp (by simpa using e), by simp, fun a ha b hb => ?_⟩
        rw [List.mem_singleton] at hb
        subst hb
        exact fun e => h ((f.mem _).mpr (e ▸ ha))
      · rintro ⟨h1, _⟩
        simp
        exact f.eq.mpr h1
theorem unlike_ok : ∀ ds M Q, sp_unlike ds M Q → w_are_unlike_lines sp_line (ends Q) (startD 3 ds) M := by
  rintro ds M Q ⟨d, rfl, hk, q⟩
  unfold w_are_unlike_lines
  by_cases hs : ∃ z, d = .tup z
  · obtain ⟨z, rfl⟩ := hs
    obtain ⟨hz, hk⟩ : z.length ≤ 1000 ∧ ∀ x ∈ z, knA M x := hk
    have h1000 := sz1000
    simp [-Bool.exists_bool]
    rw [show z = z.map id from (List.map_id z).symm]
    refine comp_all id (fun x => .bl (isLineD x)) trivial ?_ (by omega) ?_
    · intro a ha N n
      simp
      exact ⟨a, rfl, hk a ha, n⟩
    · intro p hp
      rw [List.map_id]
      refine y_all (bs := z.map isLineD) (by rw [mset_same, List.map_map]; rfl) ?_
      have e : (List.map isLineD z).all id = z.all isLineD := by rw [List.all_map]; rfl
      simp only [e, ex_tr]
      unfold unlikeD at q
      simp only at q
      cases h1 : z.all isLineD with
      | false =>
        rw [h1] at q
        exact drops_to (SubM.new hp) q
      | true =>
        rw [h1, Bool.true_and] at q
        rw [if_pos rfl]
        intro p2 ta tb hp2
        have n2 : M p2 = none := (SubM.new hp).none hp2
        have hl : ∀ y ∈ z, ∃ l, y = encL l := fun y hy => line_enc (List.all_eq_true.mp h1 y hy)
        refine loop_go (fun done ρ M' => ∃ x kvs t, ρ = [some (.tup z), x, some (.ref p2)] ∧ SubM M M' ∧ M' p2 = some (.dict kvs t) ∧ Fill kvs done) ⟨none, [], (ta, tb), rfl, (SubM.new hp).set n2, mset_same, Fill.nil⟩ ?_ ?_
        · rintro done x rest hx ρ M' ⟨x0, kvs, t, rfl, sm, hm, fl⟩ N hN
          refine ⟨_, _, .refl, .refl, trivial, ?_⟩
          obtain ⟨l, rfl⟩ := hl x (by rw [hx]; simp)
          unfold w_are_unlike_lines_1
          simp [y_putD hm]
          refine ⟨keyOk_t (encL_t l) fun d hd => ?_, ?_, fun ta tb => hN _ _ ⟨_, _, _, rfl, sm.set n2, mset_same, fl.put⟩⟩
          · obtain ⟨m, rfl⟩ := hl d (by rw [hx]; simp [(fl.mem d).mp hd])
            exact encL_t m
          · have := fl.le
            have h2 : z.length = _ := congrArg List.length hx
            simp at h2
            omega
        · rintro ρ M' ⟨x0, kvs, t, rfl, sm, hm, fl⟩
          refine ⟨_, _, .refl, .refl, trivial, ?_⟩
          simp [-Bool.exists_bool, y_lenD hm]
          refine drops_to sm ?_
          have e : decide (((kvs.length : Nat) : Int) = (z.length : Nat)) = decide z.Nodup := decide_eq_decide.mpr ⟨fun h => fl.eq.mp (by omega), fun h => by rw [fl.eq.mpr h]⟩
          rw [e]
          exact q
  · have hi := isi_tup (knB_T hk) fun z e => hs ⟨z, e⟩
    have e : unlikeD d = false := by
      cases d <;> first | rfl | exact absurd ⟨_, rfl⟩ hs
    rw [e] at q
    simp [-Bool.exists_bool, hi]
    exact drops_of q
/-! is_ban_list -/
def pairOk : D → Bool
  | .tup [a, l] => isAtomD a && unlikeD l
  | _ => false
def fstD : D → D
  | .tup (a :: _) => a
  | d => d
def cntD : D → Nat
  | .tup [_, .tup ls] => ls.length
  | _ => 0
def isBanD : D → Bool
  | .tup ds => !decide (100 < ds.length) && ds.all pairOk && decide (ds.map fstD).Nodup && decide ((ds.map cntD).sum ≤ 100)
  | _ => false
def knP (M : Mem) : D → Prop
  | .tup [a, l] => knT M a ∧ knB M l
  | d => knT M d
def knC (M : Mem) : D → Prop
  | .tup ds => ds.length ≤ 1000 ∧ ∀ x ∈ ds, knP M x
  | d => knT M d
theorem knC_T {M : Mem} {d : D} (h : knC M d) : knT M d := by cases d <;> first | exact h | exact True.intro
theorem knT_sub {M M' : Mem} (s : SubM M M') {d : D} (h : knT M d) : knT M' d := by
  cases d with
  | ref a =>
    obtain ⟨t, h⟩ := h
    refine ⟨t, ?_⟩
    unfold tyD at h ⊢
    simp only at h ⊢
    cases c : M a with
    | none => rw [c] at h; cases h
    | some o => rw [s a o c]; rw [c] at h; exact h
  | _ => exact h
theorem knA_sub {M M' : Mem} (s : SubM M M') {d : D} (h : knA M d) : knA M' d := by
  cases d with
  | tup ds => exact fun x hx => knT_sub s (h x hx)
  | ref a => exact knT_sub s (d := .ref a) h
  | _ => exact h
theorem knB_sub {M M' : Mem} (s : SubM M M') {d : D} (h : knB M d) : knB M' d := by
  cases d with
  | tup ds => exact ⟨h.1, fun x hx => knA_sub s (h.2 x hx)⟩
  | ref a => exact knT_sub s (d := .ref a) h
  | _ => exact h
def sp_ban : DSp := fun ds M Q => ∃ d : D, ds = [d] ∧ knC M d ∧ Q (.bl (isBanD d)) M
theorem atom_str {d : D} (h : isAtomD d = true) : ∃ z, d = .str z := by cases d <;> first | exact ⟨_, rfl⟩ | cases h
theorem unlike_tup {d : D} (h : unlikeD d = true) : ∃ z, d = .tup z := by cases d <;> first | exact ⟨_, rfl⟩ | cases h
theorem ban_ok : ∀ ds M Q, sp_ban ds M Q → w_is_ban_list sp_atom sp_unlike (ends Q) (startD 6 ds) M := by
  rintro ds M Q ⟨d, rfl, hk, q⟩
  unfold w_is_ban_list
  by_cases hs : ∃ z, d = .tup z
  · obtain ⟨z, rfl⟩ := hs
    obtain ⟨hz, hk⟩ : z.length ≤ 1000 ∧ ∀ x ∈ z, knP M x := hk
    have h1000 := sz1000
    simp [-Bool.exists_bool]
    unfold isBanD at q
    simp only [Bool.and_assoc] at q
    by_cases h1 : 100 < z.length
    · rw [if_pos (by omega)]
      simp only [h1, decide_true, Bool.not_true, Bool.false_and] at q
      exact drops_of q
    · rw [if_neg (by omega)]
      simp only [h1, decide_false, Bool.not_false, Bool.true_and] at q
      intro p ta tb hp
      refine loop_go (fun done ρ M' => ∃ x3 x4 x5 kvs t, ρ = [some (.tup z), some (.ref p), some (.int ((done.map cntD).sum : Nat)), x3, x4, x5] ∧ SubM M M' ∧ M' p = some (.dict kvs t) ∧ (∀ d, d ∈ kys kvs ↔ d ∈ done.map fstD) ∧ kvs.length ≤ done.length ∧ done.all pairOk = true ∧ (done.map fstD).Nodup) ⟨none, none, none, [], (ta, tb), rfl, SubM.new hp, mset_same, fun d => by simp [kys], by simp, rfl, by simp⟩ ?_ ?_
      · rintro done x rest hx ρ M' ⟨x3, x4, x5, kvs, t, rfl, sm, hm, hmem, hle, hok, hnd⟩ N hN
        refine ⟨_, _, .refl, .refl, trivial, ?_⟩
        have hkx := hk x (by rw [hx]; simp)
        unfold w_is_ban_list_1
        have fal : pairOk x = false → drops Q (.bl false) M' := fun e => by
          have : z.all pairOk = false := by rw [hx]; simp [e]
          rw [this, Bool.false_and] at q
          exact drops_to sm q
        by_cases hp2 : ∃ a l, x = .tup [a, l]
        · obtain ⟨a, l, rfl⟩ := hp2
          obtain ⟨ka, kl⟩ : knT M a ∧ knB M l := hkx
          simp [-Bool.exists_bool]
          refine ⟨a, rfl, knT_sub sm ka, ?_⟩
          cases ha : isAtomD a with
          | false => simp; exact fal (by simp [pairOk, ha])
          | true =>
            obtain ⟨nm, rfl⟩ := atom_str ha
            simp [-Bool.exists_bool, y_inD hm]
            have ko : keyOk kvs (.str nm) := keyOk_f rfl fun d hd => by
              have := (hmem d).mp hd
              rw [List.mem_map] at this
              obtain ⟨y, hy, rfl⟩ := this
              have hyo := List.all_eq_true.mp hok y hy
              unfold pairOk at hyo
              split at hyo
              · rename_i a l
                rw [Bool.and_eq_true] at hyo
                obtain ⟨z2, e2⟩ := atom_str hyo.1
                simp only [fstD]
                rw [e2]; rfl
              · cases hyo
            refine ⟨ko, ?_⟩
            rw [valD_some]
            by_cases hin : D.str nm ∈ kys kvs
            · rw [show decide (D.str nm ∈ List.map (fun x => x.1) kvs) = true from decide_eq_true hin]
              simp
              have hnot : ¬ (z.map fstD).Nodup := by
                rw [hx, List.map_append, List.map_cons]
                intro hn
                rw [List.nodup_append] at hn
                exact hn.2.2 _ ((hmem _).mp hin) (.str nm) (by simp [fstD]) rfl
              rw [decide_eq_false hnot, Bool.false_and, Bool.and_false] at q
              exact drops_to sm q
            · rw [show decide (D.str nm ∈ List.map (fun x => x.1) kvs) = false from decide_eq_false hin]
              simp
              refine ⟨l, rfl, knB_sub sm kl, ?_⟩
              cases hl : unlikeD l with
              | false => simp; exact fal (by simp [pairOk, hl])
              | true =>
                obtain ⟨ls, rfl⟩ := unlike_tup hl
                simp [y_putD hm]
                refine ⟨ko, by
                  have h2 : z.length = _ := congrArg List.length hx
                  simp at h2
                  omega, fun ta tb => hN _ _ ⟨some (.tup [.str nm, .tup ls]), some (.str nm), some (.tup ls), putD kvs (.str nm) (.bl true), (ta, tb), ?e1, sm.set hp, mset_same, ?e2, ?e3, ?e4, ?e5⟩⟩
                case e1 => simp [cntD]
                case e2 => intro d; rw [kys_put, hmem]; simp [fstD]
                case e3 => rw [put_len, if_neg hin]; simp; omega
                case e4 =>
                  rw [List.all_append, hok]
                  simp [pairOk, ha, hl]
                case e5 =>
                  rw [List.map_append, List.nodup_append]
                  refine ⟨hnd, by simp, fun a ha b hb => ?_⟩
                  simp [fstD] at hb
                  subst hb
                  exact fun e => hin ((hmem _).mpr (e ▸ ha))
        · have hno : pairOk x = false := by
            unfold pairOk
            split
            · exact absurd ⟨_, _, rfl⟩ hp2
            · rfl
          by_cases ht : ∃ y, x = .tup y
          · obtain ⟨y, rfl⟩ := ht
            have hy : y.length ≠ 2 := by
              intro e
              match y, e with
              | [a, l], _ => exact hp2 ⟨a, l, rfl⟩
            simp [-Bool.exists_bool, show ¬ ((y.length : Nat) : Int) = 2 by omega]
            exact fal hno
          · have hkx' : knT M' x := knT_sub sm (by
              cases x with
              | tup y => exact absurd ⟨_, rfl⟩ ht
              | _ => exact hkx)
            have hi := isi_tup hkx' fun y e => ht ⟨y, e⟩
            simp [-Bool.exists_bool, hi]
            exact fal hno
      · rintro ρ M' ⟨x3, x4, x5, kvs, t, rfl, sm, hm, hmem, hle, hok, hnd⟩
        refine ⟨_, _, .refl, .refl, trivial, ?_⟩
        simp [-Bool.exists_bool]
        refine drops_to sm ?_
        rw [hok, decide_eq_true hnd, Bool.true_and, Bool.true_and] at q
        have e : decide ((((z.map cntD).sum : Nat) : Int) ≤ 100) = decide ((z.map cntD).sum ≤ 100) := decide_eq_decide.mpr (by omega)
        rw [e]
        exact q
  · have hi := isi_tup (knC_T hk) fun z e => hs ⟨z, e⟩
    have e : isBanD d = false := by
      cases d <;> first | rfl | exact absurd ⟨_, rfl⟩ hs
    rw [e] at q
    simp [-Bool.exists_bool, hi]
    exact drops_of q
end F83

set_option Elab.async false
set_option linter.all false
set_option maxRecDepth 100000
set_option maxHeartbeats 4000000
namespace F83
open PySem PySem.Spec PyProof.Rows L2 Fw
/-! tables of lines -/
structure LT (kvs : List (D × D)) (S : Line → Prop) : Prop where
  nd : (kys kvs).Nodup
  mem : ∀ d, d ∈ kys kvs ↔ ∃ l, S l ∧ d = encL l
theorem LT.nil : LT [] fun _ => False := ⟨List.nodup_nil, fun d => by simp [kys]⟩
theorem LT.put {kvs : List (D × D)} {S : Line → Prop} {l : Line} {v : D} (t : LT kvs S) : LT (putD kvs (encL l) v) fun m => S m ∨ m = l :=
  ⟨kys_nodup t.nd, fun d => by
    rw [kys_put, t.mem]
    constructor
    · rintro (⟨m, h, rfl⟩ | rfl)
      · exact ⟨m, .inl h, rfl⟩
      · exact ⟨l, .inr rfl, rfl⟩
    · rintro ⟨m, h | rfl, rfl⟩
      · exact .inl ⟨m, h, rfl⟩
      · exact .inr rfl⟩
theorem LT.congr {kvs : List (D × D)} {S S' : Line → Prop} (t : LT kvs S) (h : ∀ l, S l ↔ S' l) : LT kvs S' := ⟨t.nd, fun d => by rw [t.mem]; exact ⟨fun ⟨l, a, b⟩ => ⟨l, (h l).mp a, b⟩, fun ⟨l, a, b⟩ => ⟨l, (h l).mpr a, b⟩⟩⟩
theorem LT.len {kvs : List (D × D)} {S : Line → Prop} (t : LT kvs S) {U : List Line} (h : ∀ l, S l → l ∈ U) : kvs.length ≤ U.length := by
  rw [← kys_len, ← List.length_map (f := encL) (as := U)]
  exact nodup_le t.nd fun d hd => by
    obtain ⟨l, hl, rfl⟩ := (t.mem d).mp hd
    exact List.mem_map_of_mem (h l hl)
theorem LT.ok {kvs : List (D × D)} {S : Line → Prop} (t : LT kvs S) (l : Line) : keyOk kvs (encL l) := keyOk_t (encL_t l) fun d hd => by
  obtain ⟨m, _, rfl⟩ := (t.mem d).mp hd
  exact encL_t m
theorem LT.has {kvs : List (D × D)} {S : Line → Prop} (t : LT kvs S) (l : Line) : (valD kvs (encL l)).isSome = true ↔ S l := by
  rw [valD_some, decide_eq_true_eq]
  show encL l ∈ kys kvs ↔ _
  rw [t.mem]
  exact ⟨fun ⟨m, h, e⟩ => (encL_inj.mp e) ▸ h, fun h => ⟨l, h, rfl⟩⟩
theorem LT.hasD {kvs : List (D × D)} {S : Line → Prop} [DecidablePred S] (t : LT kvs S) (l : Line) : (valD kvs (encL l)).isSome = decide (S l) := by
  rw [Bool.eq_iff_iff, decide_eq_true_eq]; exact t.has l
theorem enc_list : ∀ {ds : List D}, (∀ d ∈ ds, ∃ l, d = encL l) → ∃ ls : List Line, ds = ls.map encL
  | [], _ => ⟨[], rfl⟩
  | d :: ds, h => by
    obtain ⟨l, rfl⟩ := h d List.mem_cons_self
    obtain ⟨ls, rfl⟩ := enc_list (ds := ds) fun d hd => h d (List.mem_cons_of_mem _ hd)
    exact ⟨l :: ls, rfl⟩
theorem mem_enc {l : Line} {ls : List Line} : encL l ∈ ls.map encL ↔ l ∈ ls := by
  rw [List.mem_map]
  exact ⟨fun ⟨m, h, e⟩ => (encL_inj.mp e) ▸ h, fun h => ⟨l, h, rfl⟩⟩
theorem LT.lines {kvs : List (D × D)} {S : Line → Prop} (t : LT kvs S) : ∃ ls : List Line, kvs.map (·.1) = ls.map encL ∧ (∀ l, l ∈ ls ↔ S l) ∧ ls.Nodup := by
  obtain ⟨ls, e⟩ := enc_list (ds := kys kvs) fun d hd => let ⟨l, _, h⟩ := (t.mem d).mp hd; ⟨l, h⟩
  refine ⟨ls, e, fun l => ?_, ?_⟩
  · rw [← mem_enc, ← e, t.mem]
    exact ⟨fun ⟨m, h, e⟩ => (encL_inj.mp e) ▸ h, fun h => ⟨l, h, rfl⟩⟩
  · have := t.nd
    rw [e] at this
    exact (List.pairwise_map.mp this).imp fun h e => h (by rw [e])
/-! atom_banned -/
abbrev Bans := List (PySem.Str × List Line)
def encP (p : PySem.Str × List Line) : D := .tup [.str p.1, .tup (p.2.map encL)]
def encB (bs : Bans) : D := .tup (bs.map encP)
def atomB (bs : Bans) (a : PySem.Str) : Line → Prop := fun l => ∃ p ∈ bs, p.1 = a ∧ l ∈ p.2
def sp_atomB : DSp := fun ds M Q => ∃ (bs : Bans) (a : PySem.Str) (U : List Line), ds = [encB bs, .str a] ∧ U.length ≤ 100000 ∧ (∀ l, atomB bs a l → l ∈ U) ∧ ∀ p kvs t, M p = none → LT kvs (atomB bs a) → Q (.ref p) (mset M p (.dict kvs t))
theorem sz5 : 100000 < sizeLine := by rw [sizeLine_eq]; decide
theorem atomB_ok : ∀ ds M Q, sp_atomB ds M Q → w_atom_banned (ends Q) (startD 6 ds) M := by
  rintro ds M Q ⟨bs, a, U, rfl, hU, hin, q⟩
  have h5 := sz5
  unfold w_atom_banned
  simp [-Bool.exists_bool]
  intro p ta tb hp
  refine loop_map (xs := bs) encP (fun done ρ M' => ∃ x3 x4 x5 kvs t, ρ = [some (encB bs), some (.str a), some (.ref p), x3, x4, x5] ∧ SubM M M' ∧ M' p = some (.dict kvs t) ∧ LT kvs (atomB done a)) ⟨none, none, none, [], (ta, tb), rfl, SubM.new hp, mset_same, LT.nil.congr fun l => by simp [atomB]⟩ ?_ ?_
  · rintro done ⟨nm, ls⟩ rest hx ρ M' ⟨x3, x4, x5, kvs, t, rfl, sm, hm, lt⟩ N hN
    refine ⟨_, _, .refl, .refl, trivial, ?_⟩
    unfold w_atom_banned_2
    simp [-Bool.exists_bool, encP]
    by_cases e : nm = a
    · subst e
      rw [if_pos rfl]
      refine loop_map (xs := ls) encL (fun dl ρ M' => ∃ x5 kvs t, ρ = [some (encB bs), some (.str nm), some (.ref p), some (.str nm), some (.tup (ls.map encL)), x5] ∧ SubM M M' ∧ M' p = some (.dict kvs t) ∧ LT kvs (fun l => atomB done nm l ∨ l ∈ dl)) ⟨x5, kvs, t, rfl, sm, hm, lt.congr fun l => by simp⟩ ?_ ?_
      · rintro dl l rl hl ρ M'' ⟨x5, kvs, t, rfl, sm, hm, lt⟩ N' hN'
        refine ⟨_, _, .refl, .refl, trivial, ?_⟩
        unfold w_atom_banned_1
        simp [y_putD hm]
        refine ⟨lt.ok l, ?_, fun ta tb => hN' _ _ ⟨some (encL l), putD kvs (encL l) (.bl true), (ta, tb), rfl, sm.set hp, mset_same, lt.put.congr fun m => by simp [or_assoc]⟩⟩
        have := lt.len (U := U) fun m hm => hin m (by
          rcases hm with ⟨y, hy, e1, e2⟩ | hm
          · exact ⟨y, by rw [hx]; simp [hy], e1, e2⟩
          · exact ⟨(nm, ls), by rw [hx]; simp, rfl, by rw [hl]; simp [hm]⟩)
        omega
      · rintro ρ M'' ⟨x5, kvs, t, rfl, sm, hm, lt⟩
        refine ⟨_, _, .refl, .refl, trivial, hN _ _ ⟨some (.str nm), some (.tup (ls.map encL)), x5, kvs, t, rfl, sm, hm, lt.congr fun l => ?_⟩⟩
        unfold atomB
        simp [or_and_right, exists_or]
    · rw [if_neg e]
      refine hN _ _ ⟨some (.str nm), some (.tup (ls.map encL)), x5, kvs, t, rfl, sm, hm, lt.congr fun l => ?_⟩
      unfold atomB
      simp [or_and_right, exists_or, e]
  · rintro ρ M' ⟨x3, x4, x5, kvs, t, rfl, sm, hm, lt⟩
    refine ⟨_, _, .refl, .refl, trivial, ?_⟩
    simp
    exact drops_to (sm.to hm) (q p kvs t hp lt)
/-! over_banned, under_banned -/
def overB (S T : Line → Prop) : Line → Prop := fun l => ∃ m, S m ∧ ∃ c, 1 ≤ c ∧ c < m.length ∧ l = m.take c ∧ ¬ T (m.drop c)
def sp_over : DSp := fun ds M Q => ∃ (a b : Addr) (k1 k2 : List (D × D)) (t1 t2 : Tk) (S T : Line → Prop) (U : List Line), ds = [.ref a, .ref b] ∧ M a = some (.dict k1 t1) ∧ M b = some (.dict k2 t2) ∧ LT k1 S ∧ LT k2 T ∧ U.length ≤ 100000 ∧ (∀ l, S l → l.length ≤ 1000) ∧ (∀ l, overB S T l → l ∈ U) ∧
  ∀ p kvs t, M p = none → LT kvs (overB S T) → Q (.ref p) (mset M p (.dict kvs t))
theorem rg {i j : Nat} (h1 : i ≤ 100000) (h2 : j ≤ 100000) : RgOk2 (i : Int) (j : Int) := by unfold RgOk2; omega
theorem over_ok : ∀ ds M Q, sp_over ds M Q → w_over_banned (ends Q) (startD 5 ds) M := by
  rintro ds M Q ⟨a, b, k1, k2, t1, t2, S, T, U, rfl, ha, hb, lt1, lt2, hU, hlen, hin, q⟩
  have h5 := sz5
  unfold w_over_banned
  simp [-Bool.exists_bool]
  intro p ta tb hp
  have hpa : a ≠ p := fun e => by rw [e, hp] at ha; cases ha
  have hpb : b ≠ p := fun e => by rw [e, hp] at hb; cases hb
  rw [y_srcD (by rw [mset_ne hpa]; exact ha)]
  obtain ⟨ls, els, hls, nls⟩ := lt1.lines
  show loopD _ _ _ (k1.map (·.1)) _ _ _
  rw [els]
  refine loop_map encL (fun done ρ M' => ∃ x3 x4 kvs t, ρ = [some (.ref a), some (.ref b), some (.ref p), x3, x4] ∧ SubM M M' ∧ M' p = some (.dict kvs t) ∧ LT kvs (fun l => ∃ m, m ∈ done ∧ ∃ c, 1 ≤ c ∧ c < m.length ∧ l = m.take c ∧ ¬ T (m.drop c))) ⟨none, none, [], (ta, tb), rfl, SubM.new hp, mset_same, LT.nil.congr fun l => by simp⟩ ?_ ?_
  · rintro done m rest hx ρ M' ⟨x3, x4, kvs, t, rfl, sm, hm, lt⟩ N hN
    refine ⟨_, _, .refl, .refl, sm a _ ha, ?_⟩
    have hSm : S m := (hls m).mp (by rw [hx]; simp)
    have hml := hlen m hSm
    unfold w_over_banned_2
    simp [-Bool.exists_bool]
    refine ⟨rg (i := 1) (by omega) (by omega), ?_⟩
    refine loop_range (lo := 1) (n := m.length - 1) (fun i ρ M' => ∃ x4 kvs t, ρ = [some (.ref a), some (.ref b), some (.ref p), some (encL m), x4] ∧ SubM M M' ∧ M' p = some (.dict kvs t) ∧ LT kvs (fun l => (∃ m, m ∈ done ∧ ∃ c, 1 ≤ c ∧ c < m.length ∧ l = m.take c ∧ ¬ T (m.drop c)) ∨ ∃ c, 1 ≤ c ∧ c < 1 + i ∧ c < m.length ∧ l = m.take c ∧ ¬ T (m.drop c))) ⟨x4, kvs, t, rfl, sm, hm, lt.congr fun l => by
      constructor
      · exact .inl
      · rintro (h | ⟨c, h1, h2, _⟩)
        · exact h
        · omega⟩ ?_ ?_
    · rintro i hi ρ M'' ⟨x4, kvs, t, rfl, sm, hm, lt⟩ N' hN'
      refine ⟨_, _, .refl, .refl, trivial, ?_⟩
      unfold w_over_banned_1
      simp only [y_tg1, List.set_cons_succ, List.set_cons_zero]
      simp [-Bool.exists_bool, -Int.natCast_add]
      rw [y_inD (sm b _ hb)]
      refine ⟨lt2.ok _, ?_⟩
      simp only [ex_bl]
      by_cases hT : T (m.drop (1 + i))
      · rw [(lt2.has _).mpr hT]
        rw [Bool.not_true, if_neg Bool.false_ne_true]
        refine hN' _ _ ⟨_, kvs, t, rfl, sm, hm, lt.congr fun l => ?_⟩
        refine or_congr Iff.rfl ⟨fun ⟨c, h1, h2, h3⟩ => ⟨c, h1, by omega, h3⟩, fun ⟨c, h1, h2, h3, h4, h6⟩ => ⟨c, h1, ?_, h3, h4, h6⟩⟩
        by_cases hc : c = 1 + i
        · subst hc; exact absurd hT h6
        · omega
      · rw [show (valD k2 (encL (m.drop (1 + i)))).isSome = false from by rw [Bool.eq_false_iff]; exact fun e => hT ((lt2.has _).mp e)]
        rw [Bool.not_false, if_pos rfl, y_putD hm]
        refine ⟨lt.ok _, ?_, fun t => hN' _ _ ⟨_, _, t, rfl, sm.set hp, mset_same, lt.put.congr fun l => ?_⟩⟩
        · have := lt.len (U := U) fun l hl => hin l (by
            rcases hl with ⟨m', h1, h2⟩ | ⟨c, h1, h2, h3⟩
            · exact ⟨m', (hls m').mp (by rw [hx]; simp [h1]), h2⟩
            · exact ⟨m, hSm, c, h1, h3⟩)
          omega
        · rw [or_assoc]
          refine or_congr Iff.rfl ⟨?_, fun ⟨c, h1, h2, h3, h4, h6⟩ => ?_⟩
          · rintro (⟨c, h1, h2, h3⟩ | rfl)
            · exact ⟨c, h1, by omega, h3⟩
            · exact ⟨1 + i, by omega, by omega, by omega, rfl, hT⟩
          · by_cases hc : c = 1 + i
            · subst hc; exact .inr h4
            · exact .inl ⟨c, h1, by omega, h3, h4, h6⟩
    · rintro ρ M'' ⟨x4, kvs, t, rfl, sm, hm, lt⟩
      refine ⟨_, _, .refl, .refl, trivial, hN _ _ ⟨_, x4, kvs, t, rfl, sm, hm, lt.congr fun l => ?_⟩⟩
      constructor
      · rintro (⟨m', h1, h2⟩ | ⟨c, h1, h2, h3⟩)
        · exact ⟨m', by simp [h1], h2⟩
        · exact ⟨m, by simp, c, h1, h3⟩
      · rintro ⟨m', h1, c, h2, h3⟩
        rw [List.mem_append, List.mem_singleton] at h1
        rcases h1 with h1 | rfl
        · exact .inl ⟨m', h1, c, h2, h3⟩
        · exact .inr ⟨c, h2, by omega, h3⟩
  · rintro ρ M' ⟨x3, x4, kvs, t, rfl, sm, hm, lt⟩
    refine ⟨_, _, .refl, .refl, sm a _ ha, ?_⟩
    simp
    exact drops_to (sm.to hm) (q p kvs t hp (lt.congr fun l => by unfold overB; simp [hls]))
end F83

set_option Elab.async false
set_option linter.all false
set_option maxRecDepth 100000
set_option maxHeartbeats 4000000
namespace F83
open PySem PySem.Spec PyProof.Rows L2 Fw
theorem LT.kt {kvs : List (D × D)} {S : Line → Prop} (t : LT kvs S) : KT encL kvs S := ⟨t.nd, t.mem⟩
theorem KTlt {kvs : List (D × D)} {S : Line → Prop} (t : KT encL kvs S) : LT kvs S := ⟨t.nd, t.mem⟩
/-! under_banned -/
def underB (T S : Line → Prop) : Line → Prop := fun l => ∃ m, S m ∧ ∃ c, 1 ≤ c ∧ c < m.length ∧ l = m.drop c ∧ ¬ T (m.take c)
def sp_under : DSp := fun ds M Q => ∃ (a b : Addr) (k1 k2 : List (D × D)) (t1 t2 : Tk) (T S : Line → Prop) (U : List Line), ds = [.ref a, .ref b] ∧ M a = some (.dict k1 t1) ∧ M b = some (.dict k2 t2) ∧ LT k1 T ∧ LT k2 S ∧ U.length ≤ 100000 ∧ (∀ l, S l → l.length ≤ 1000) ∧ (∀ l, underB T S l → l ∈ U) ∧
  ∀ p kvs t, M p = none → LT kvs (underB T S) → Q (.ref p) (mset M p (.dict kvs t))
theorem under_ok : ∀ ds M Q, sp_under ds M Q → w_under_banned (ends Q) (startD 5 ds) M := by
  rintro ds M Q ⟨a, b, k1, k2, t1, t2, T, S, U, rfl, ha, hb, lt1, lt2, hU, hlen, hin, q⟩
  unfold w_under_banned
  simp [-Bool.exists_bool]
  intro p ta tb hp
  have hpb : b ≠ p := fun e => by rw [e, hp] at hb; cases hb
  rw [y_srcD (by rw [mset_ne hpb]; exact hb)]
  obtain ⟨ls, els, hls, nls⟩ := lt2.lines
  show loopD _ _ _ (k2.map (·.1)) _ _ _
  rw [els]
  refine fill_map (M := M) (enc := encL) (U := U) (p := p) (S := fun _ => False) (R := fun ρ => ∃ x y, ρ = [some (.ref a), some (.ref b), some (.ref p), x, y]) encL (fun m l => ∃ c, 1 ≤ c ∧ c < m.length ∧ l = m.drop c ∧ ¬ T (m.take c)) (fun M' s => s b _ hb) (.start ⟨_, _, rfl⟩ hp) ?_ ?_
  · intro m hm S' ρ M' s N hN
    obtain ⟨x, y, rfl⟩ := s.env
    have hSm : S m := (hls m).mp hm
    have hml := hlen m hSm
    unfold w_under_banned_2
    simp [-Bool.exists_bool]
    refine ⟨rg (i := 1) (by omega) (by omega), ?_⟩
    refine fill_range (lo := 1) (n := m.length - 1) (M := M) (enc := encL) (U := U) (p := p) (S := S') (R := fun ρ => ∃ y, ρ = [some (.ref a), some (.ref b), some (.ref p), some (encL m), y]) (fun c l => l = m.drop c ∧ ¬ T (m.take c)) (fun _ _ => trivial) ⟨⟨_, rfl⟩, s.sub, s.tab, s.bnd⟩ ?_ ?_
    · intro c h1 h2 S'' ρ M' s N' hN'
      obtain ⟨y, rfl⟩ := s.env
      unfold w_under_banned_1
      simp [-Bool.exists_bool]
      rw [y_inD (s.sub a _ ha)]
      refine ⟨lt1.ok _, ?_⟩
      simp only [ex_bl]
      by_cases hT : T (m.take c)
      · rw [(lt1.has _).mpr hT, Bool.not_true, if_neg Bool.false_ne_true]
        exact hN' _ _ ⟨⟨_, rfl⟩, s.sub, let ⟨k, t, e, q⟩ := s.tab; ⟨k, t, e, q.congr fun l => by simp [hT]⟩, fun l hl => hl.elim (s.bnd l) fun h => absurd hT h.2⟩
      · rw [show (valD k1 (encL (m.take c))).isSome = false from by rw [Bool.eq_false_iff]; exact fun e => hT ((lt1.has _).mp e)]
        rw [Bool.not_false, if_pos rfl]
        exact s.put (R' := fun ρ => ∃ y, ρ = [some (.ref a), some (.ref b), some (.ref p), some (encL m), y]) encL_ok hU hp (hin _ ⟨m, hSm, c, h1, by omega, rfl, hT⟩) ⟨_, rfl⟩ fun M'' s => hN' _ _ (s.congr fun l => by simp [hT])
    · intro ρ M' s
      exact hN _ _ ((s.env' fun ρ ⟨y, h⟩ => ⟨_, y, h⟩).congr fun l => or_congr Iff.rfl ⟨fun ⟨i, h1, h2, h3⟩ => ⟨i, h1, by omega, h3⟩, fun ⟨i, h1, h2, h3⟩ => ⟨i, h1, by omega, h3⟩⟩)
  · intro ρ M' s
    obtain ⟨x, y, rfl⟩ := s.env
    obtain ⟨kvs, t, hm, kt⟩ := s.tab
    simp
    exact drops_to (s.sub.to hm) (q p kvs t hp ((KTlt kt).congr fun l => by unfold underB; simp [hls]))
end F83

set_option Elab.async false
set_option linter.all false
set_option maxRecDepth 100000
set_option maxHeartbeats 4000000
namespace F83
open PySem PySem.Spec PyProof.Rows L2 Fw
/-! is_allowed_row -/
def rowB (F G : Line → Prop) (l : Line) : Prop := ∃ c, 1 ≤ c ∧ c < l.length ∧ ¬ F (l.take c) ∧ ¬ G (l.drop c)
def sp_row : DSp := fun ds M Q => ∃ (l : Line) (a b : Addr) (k1 k2 : List (D × D)) (t1 t2 : Tk) (F G : Line → Prop), ds = [encL l, .ref a, .ref b] ∧ M a = some (.dict k1 t1) ∧ M b = some (.dict k2 t2) ∧ LT k1 F ∧ LT k2 G ∧ l.length ≤ 1000 ∧
  ∀ v, (v = true ↔ rowB F G l) → Q (.bl v) M
theorem row_ok : ∀ ds M Q, sp_row ds M Q → w_is_allowed_row (ends Q) (startD 4 ds) M := by
  rintro ds M Q ⟨l, a, b, k1, k2, t1, t2, F, G, rfl, ha, hb, lt1, lt2, hl, q⟩
  unfold w_is_allowed_row
  have h5 := sz5
  simp [-Bool.exists_bool]
  refine ⟨rg (i := 1) (by omega) (by omega), ?_⟩
  let g : Nat → Bool := fun i => !(valD k1 (encL (l.take (1 + i)))).isSome && !(valD k2 (encL (l.drop (1 + i)))).isSome
  have e : ranged 1 (l.length - 1) = (List.range (l.length - 1)).map fun i : Nat => D.int ((1 + i : Nat) : Int) := by unfold ranged; simp
  rw [e]
  refine comp_all (fun i : Nat => D.int ((1 + i : Nat) : Int)) (fun i => .bl (g i)) trivial ?_ ?_ ?_
  · intro i hi N n
    simp [-Bool.exists_bool, -Int.natCast_add]
    rw [y_inD ha]
    refine ⟨lt1.ok _, ?_⟩
    simp only [ex_tr]
    show if (!(valD k1 (encL (l.take (1 + i)))).isSome) = true then _ else _
    have n' : N (.bl (!(valD k1 (encL (l.take (1 + i)))).isSome && !(valD k2 (encL (l.drop (1 + i)))).isSome)) M := n
    cases h : (!(valD k1 (encL (l.take (1 + i)))).isSome) with
    | false => rw [h, Bool.false_and] at n'; rw [if_neg Bool.false_ne_true]; exact n'
    | true => rw [h, Bool.true_and] at n'; rw [if_pos rfl, y_inD hb]; exact ⟨lt2.ok _, n'⟩
  · rw [List.length_range]; omega
  · intro p hp
    refine y_all (bs := (List.range (l.length - 1)).map g) (by rw [mset_same, List.map_map]; rfl) ?_
    refine drops_to (SubM.new hp) (q _ ?_)
    rw [List.any_map, List.any_eq_true]
    have ng : ∀ i, g i = true ↔ ¬ F (l.take (1 + i)) ∧ ¬ G (l.drop (1 + i)) := fun i => by
      show (!(valD k1 (encL (l.take (1 + i)))).isSome && !(valD k2 (encL (l.drop (1 + i)))).isSome) = true ↔ _
      rw [Bool.and_eq_true, Bool.not_eq_true', Bool.not_eq_true', Bool.eq_false_iff, Bool.eq_false_iff, ne_eq, ne_eq, lt1.has, lt2.has]
    constructor
    · rintro ⟨i, hi, h⟩
      rw [List.mem_range] at hi
      exact ⟨1 + i, by omega, by omega, (ng i).mp h⟩
    · rintro ⟨c, h1, h2, h3⟩
      exact ⟨c - 1, by rw [List.mem_range]; omega, (ng (c - 1)).mpr (by rw [show 1 + (c - 1) = c by omega]; exact h3)⟩
/-! allowed_frames -/
abbrev Fr := Line × Line
def encF (f : Fr) : D := .tup [encL f.1, encL f.2]
theorem encF_ok : EncOk encF := ⟨fun ⟨a, b⟩ ⟨c, d⟩ h => by
  unfold encF at h
  injection h with h
  injection h with h1 h2
  injection h2 with h2 _
  have e1 : a = c := encL_inj.mp h1
  have e2 : b = d := encL_inj.mp h2
  rw [e1, e2], fun ⟨a, b⟩ => tkey_cl (by simp [D.cl, D.cls, encL_cl]) (by simp [D.dep, D.deps, encL_dep])⟩
def frB (ls : List Line) (F G : Line → Prop) : Fr → Prop := fun f => ∃ m ∈ ls, ∃ i, i < m.length ∧ ∃ j, i + 2 ≤ j ∧ j ≤ m.length ∧ f = (m.take i, m.drop j) ∧ rowB F G ((m.take j).drop i)
def sp_frames : DSp := fun ds M Q => ∃ (ls : List Line) (a b : Addr) (k1 k2 : List (D × D)) (t1 t2 : Tk) (F G : Line → Prop) (U : List Fr), ds = [.tup (ls.map encL), .ref a, .ref b] ∧ M a = some (.dict k1 t1) ∧ M b = some (.dict k2 t2) ∧ LT k1 F ∧ LT k2 G ∧ (∀ l ∈ ls, l.length ≤ 1000) ∧ U.length ≤ 100000 ∧ (∀ f, frB ls F G f → f ∈ U) ∧
  ∀ p kvs t, M p = none → KT encF kvs (frB ls F G) → Q (.ref p) (mset M p (.dict kvs t))
theorem frames_ok : ∀ ds M Q, sp_frames ds M Q → w_allowed_frames sp_row (ends Q) (startD 7 ds) M := by
  rintro ds M Q ⟨ls, a, b, k1, k2, t1, t2, F, G, U, rfl, ha, hb, lt1, lt2, hlen, hU, hin, q⟩
  unfold w_allowed_frames
  have h5 := sz5
  simp [-Bool.exists_bool]
  intro p ta tb hp
  refine fill_map (M := M) (enc := encF) (U := U) (p := p) (S := fun _ => False) (R := fun ρ => ∃ x y z, ρ = [some (.tup (ls.map encL)), some (.ref a), some (.ref b), some (.ref p), x, y, z]) encL (fun m f => ∃ i, i < m.length ∧ ∃ j, i + 2 ≤ j ∧ j ≤ m.length ∧ f = (m.take i, m.drop j) ∧ rowB F G ((m.take j).drop i)) (fun _ _ => trivial) (.start ⟨_, _, _, rfl⟩ hp) ?_ ?_
  · intro m hm S' ρ M' s N hN
    obtain ⟨x, y, z, rfl⟩ := s.env
    have hml := hlen m hm
    unfold w_allowed_frames_3
    simp [-Bool.exists_bool]
    refine ⟨rg (i := 0) (by omega) (by omega), ?_⟩
    refine fill_range (lo := 0) (n := m.length) (M := M) (enc := encF) (U := U) (p := p) (S := S') (R := fun ρ => ∃ y z, ρ = [some (.tup (ls.map encL)), some (.ref a), some (.ref b), some (.ref p), some (encL m), y, z]) (fun i f => ∃ j, i + 2 ≤ j ∧ j ≤ m.length ∧ f = (m.take i, m.drop j) ∧ rowB F G ((m.take j).drop i)) (fun _ _ => trivial) ⟨⟨_, _, rfl⟩, s.sub, s.tab, s.bnd⟩ ?_ ?_
    · intro i _ hi S2 ρ M' s N2 hN2
      obtain ⟨y, z, rfl⟩ := s.env
      unfold w_allowed_frames_2
      simp [-Bool.exists_bool]
      have e1 : (((m.length : Nat) : Int) + 1 - ((i : Int) + 2)).toNat = m.length - 1 - i := by omega
      refine ⟨by unfold RgOk2; omega, ?_⟩
      rw [e1]
      refine fill_range (lo := i + 2) (n := m.length - 1 - i) (M := M) (enc := encF) (U := U) (p := p) (S := S2) (R := fun ρ => ∃ z, ρ = [some (.tup (ls.map encL)), some (.ref a), some (.ref b), some (.ref p), some (encL m), some (.int (i : Int)), z]) (fun j f => f = (m.take i, m.drop j) ∧ rowB F G ((m.take j).drop i)) (fun _ _ => trivial) ⟨⟨_, rfl⟩, s.sub, s.tab, s.bnd⟩ ?_ ?_
      · intro j h1 h2 S3 ρ M' s N3 hN3
        obtain ⟨z, rfl⟩ := s.env
        unfold w_allowed_frames_1
        simp [-Bool.exists_bool]
        refine ⟨_, a, b, k1, k2, t1, t2, F, G, rfl, s.sub a _ ha, s.sub b _ hb, lt1, lt2, by rw [List.length_drop, List.length_take]; omega, fun v hv => ?_⟩
        simp only [ex_tr]
        cases v with
        | false =>
          rw [if_neg Bool.false_ne_true]
          have hno : ¬ rowB F G ((m.take j).drop i) := fun h => Bool.false_ne_true (hv.mpr h)
          exact hN3 _ _ ⟨⟨_, rfl⟩, s.sub, let ⟨k, t, e, q⟩ := s.tab; ⟨k, t, e, q.congr fun l => by simp [hno]⟩, fun l hl => hl.elim (s.bnd l) fun h => absurd h.2 hno⟩
        | true =>
          rw [if_pos rfl]
          have hyes : rowB F G ((m.take j).drop i) := hv.mp rfl
          refine ⟨by omega, ?_⟩
          exact s.put (l := (m.take i, m.drop j)) (R' := fun ρ => ∃ z, ρ = [some (.tup (ls.map encL)), some (.ref a), some (.ref b), some (.ref p), some (encL m), some (.int (i : Int)), z]) encF_ok hU hp (hin _ ⟨m, hm, i, by omega, j, h1, by omega, rfl, hyes⟩) ⟨_, rfl⟩ fun M'' s => hN3 _ _ (s.congr fun l => by simp [hyes])
      · intro ρ M' s
        exact hN2 _ _ ((s.env' fun ρ ⟨z, h⟩ => ⟨_, z, h⟩).congr fun l => or_congr Iff.rfl ⟨fun ⟨j, h1, h2, h3⟩ => ⟨j, h1, by omega, h3⟩, fun ⟨j, h1, h2, h3⟩ => ⟨j, h1, by omega, h3⟩⟩)
    · intro ρ M' s
      exact hN _ _ ((s.env' fun ρ ⟨y, z, h⟩ => ⟨_, y, z, h⟩).congr fun l => or_congr Iff.rfl ⟨fun ⟨i, h1, h2, h3⟩ => ⟨i, by omega, h3⟩, fun ⟨i, h2, h3⟩ => ⟨i, by omega, by omega, h3⟩⟩)
  · intro ρ M' s
    obtain ⟨x, y, z, rfl⟩ := s.env
    obtain ⟨kvs, t, hm, kt⟩ := s.tab
    simp
    exact drops_to (s.sub.to hm) (q p kvs t hp (kt.congr fun l => by unfold frB; simp))
end F83

set_option Elab.async false
set_option linter.all false
set_option maxRecDepth 100000
set_option maxHeartbeats 4000000
namespace F83
open PySem PySem.Spec PyProof.Rows L2 Fw
/-! pair_banned -/
def pairB (bs : Bans) (F G : Line → Prop) : Line → Prop := fun l => ∃ q ∈ bs, ∃ m ∈ q.2, ∃ i, i < m.length ∧ ∃ j, i + 1 ≤ j ∧ j ≤ m.length ∧ l = (m.take j).drop i ∧ ¬ frB q.2 F G (m.take i, m.drop j)
def sp_pair : DSp := fun ds M Q => ∃ (bs : Bans) (a b : Addr) (k1 k2 : List (D × D)) (t1 t2 : Tk) (F G : Line → Prop) (U : List Line) (V : List Fr), ds = [encB bs, .ref a, .ref b] ∧ M a = some (.dict k1 t1) ∧ M b = some (.dict k2 t2) ∧ LT k1 F ∧ LT k2 G ∧ (∀ q ∈ bs, ∀ l ∈ q.2, l.length ≤ 1000) ∧ U.length ≤ 100000 ∧ (∀ l, pairB bs F G l → l ∈ U) ∧ V.length ≤ 100000 ∧ (∀ q ∈ bs, ∀ f, frB q.2 F G f → f ∈ V) ∧
  ∀ p kvs t, M p = none → LT kvs (pairB bs F G) → Q (.ref p) (mset M p (.dict kvs t))
theorem pair_ok : ∀ ds M Q, sp_pair ds M Q → w_pair_banned sp_frames (ends Q) (startD 10 ds) M := by
  rintro ds M Q ⟨bs, a, b, k1, k2, t1, t2, F, G, U, V, rfl, ha, hb, lt1, lt2, hlen, hU, hin, hV, hinV, q⟩
  unfold w_pair_banned
  have h5 := sz5
  simp [-Bool.exists_bool]
  intro p ta tb hp
  refine fill_map (xs := bs) (M := M) (enc := encL) (U := U) (p := p) (S := fun _ => False) (R := fun ρ => ∃ x4 x5 x6 x7 x8 x9, ρ = [some (encB bs), some (.ref a), some (.ref b), some (.ref p), x4, x5, x6, x7, x8, x9]) encP (fun q l => ∃ m ∈ q.2, ∃ i, i < m.length ∧ ∃ j, i + 1 ≤ j ∧ j ≤ m.length ∧ l = (m.take j).drop i ∧ ¬ frB q.2 F G (m.take i, m.drop j)) (fun _ _ => trivial) (.start ⟨_, _, _, _, _, _, rfl⟩ hp) ?_ ?_
  · rintro ⟨nm, ls⟩ hq S' ρ M' s N hN
    obtain ⟨x4, x5, x6, x7, x8, x9, rfl⟩ := s.env
    unfold w_pair_banned_4
    simp [-Bool.exists_bool, encP]
    refine ⟨ls, a, b, k1, k2, t1, t2, F, G, V, rfl, s.sub a _ ha, s.sub b _ hb, lt1, lt2, hlen _ hq, hV, hinV _ hq, fun p6 kf tf hp6 ktf => ?_⟩
    have n6 : M p6 = none := s.sub.none hp6
    have hne : p ≠ p6 := by
      rintro rfl
      obtain ⟨k, t, e, _⟩ := s.tab
      rw [hp6] at e; cases e
    have hpM : mset M p6 (.dict kf tf) p = none := by rw [mset_ne hne]; exact hp
    have s0 : St (fun ρ => ∃ x7 x8 x9, ρ = [some (encB bs), some (.ref a), some (.ref b), some (.ref p), some (.str nm), some (.tup (ls.map encL)), some (.ref p6), x7, x8, x9]) p (mset M p6 (.dict kf tf)) encL U S' [some (encB bs), some (.ref a), some (.ref b), some (.ref p), some (.str nm), some (.tup (ls.map encL)), some (.ref p6), x7, x8, x9] (mset M' p6 (.dict kf tf)) :=
      ⟨⟨_, _, _, rfl⟩, (s.sub.set n6).to mset_same, let ⟨k, t, e, q⟩ := s.tab; ⟨k, t, by rw [mset_ne hne]; exact e, q⟩, s.bnd⟩
    refine fill_map (xs := ls) encL (fun m l => ∃ i, i < m.length ∧ ∃ j, i + 1 ≤ j ∧ j ≤ m.length ∧ l = (m.take j).drop i ∧ ¬ frB ls F G (m.take i, m.drop j)) (fun _ _ => trivial) s0 ?_ ?_
    · intro m hm S1 ρ M1 s N1 hN1
      obtain ⟨x7, x8, x9, rfl⟩ := s.env
      have hml := hlen _ hq m hm
      unfold w_pair_banned_3
      simp [-Bool.exists_bool]
      refine ⟨rg (i := 0) (by omega) (by omega), ?_⟩
      refine fill_range (lo := 0) (n := m.length) (p := p) (M := mset M p6 (.dict kf tf)) (enc := encL) (U := U) (S := S1) (R := fun ρ => ∃ x8 x9, ρ = [some (encB bs), some (.ref a), some (.ref b), some (.ref p), some (.str nm), some (.tup (ls.map encL)), some (.ref p6), some (encL m), x8, x9]) (fun i l => ∃ j, i + 1 ≤ j ∧ j ≤ m.length ∧ l = (m.take j).drop i ∧ ¬ frB ls F G (m.take i, m.drop j)) (fun _ _ => trivial) ⟨⟨_, _, rfl⟩, s.sub, s.tab, s.bnd⟩ ?_ ?_
      · intro i _ hi S2 ρ M2 s N2 hN2
        obtain ⟨x8, x9, rfl⟩ := s.env
        unfold w_pair_banned_2
        simp [-Bool.exists_bool]
        have e1 : (((m.length : Nat) : Int) + 1 - ((i : Int) + 1)).toNat = m.length - i := by omega
        refine ⟨by unfold RgOk2; omega, ?_⟩
        try rw [e1]
        refine fill_range (lo := i + 1) (n := m.length - i) (p := p) (M := mset M p6 (.dict kf tf)) (enc := encL) (U := U) (S := S2) (R := fun ρ => ∃ x9, ρ = [some (encB bs), some (.ref a), some (.ref b), some (.ref p), some (.str nm), some (.tup (ls.map encL)), some (.ref p6), some (encL m), some (.int (i : Int)), x9]) (fun j l => l = (m.take j).drop i ∧ ¬ frB ls F G (m.take i, m.drop j)) (fun _ _ => trivial) ⟨⟨_, rfl⟩, s.sub, s.tab, s.bnd⟩ ?_ ?_
        · intro j h1 h2 S3 ρ M3 s N3 hN3
          obtain ⟨x9, rfl⟩ := s.env
          unfold w_pair_banned_1
          simp [-Bool.exists_bool]
          refine ⟨by omega, ?_⟩
          rw [y_inD (s.sub p6 _ mset_same)]
          show keyOk kf (encF (m.take i, m.drop j)) ∧ _
          refine ⟨ktf.ok encF_ok _, ?_⟩
          simp only [ex_bl]
          show if (!(valD kf (encF (m.take i, m.drop j))).isSome) = true then _ else _
          by_cases hT : frB ls F G (m.take i, m.drop j)
          · rw [(ktf.has encF_ok _).mpr hT, Bool.not_true, if_neg Bool.false_ne_true]
            exact hN3 _ _ ⟨⟨_, rfl⟩, s.sub, let ⟨k, t, e, q⟩ := s.tab; ⟨k, t, e, q.congr fun l => by simp [hT]⟩, fun l hl => hl.elim (s.bnd l) fun h => absurd hT h.2⟩
          · rw [show (valD kf (encF (m.take i, m.drop j))).isSome = false from by rw [Bool.eq_false_iff]; exact fun e => hT ((ktf.has encF_ok _).mp e)]
            rw [Bool.not_false, if_pos rfl]
            exact s.put (R' := fun ρ => ∃ x9, ρ = [some (encB bs), some (.ref a), some (.ref b), some (.ref p), some (.str nm), some (.tup (ls.map encL)), some (.ref p6), some (encL m), some (.int (i : Int)), x9]) encL_ok hU hpM (hin _ ⟨_, hq, m, hm, i, by omega, j, h1, by omega, rfl, hT⟩) ⟨_, rfl⟩ fun M'' s => hN3 _ _ (s.congr fun l => by simp [hT])
        · intro ρ M3 s
          exact hN2 _ _ ((s.env' fun ρ ⟨z, h⟩ => ⟨_, z, h⟩).congr fun l => or_congr Iff.rfl ⟨fun ⟨j, h1, h2, h3⟩ => ⟨j, h1, by omega, h3⟩, fun ⟨j, h1, h2, h3⟩ => ⟨j, h1, by omega, h3⟩⟩)
      · intro ρ M2 s
        exact hN1 _ _ ((s.env' fun ρ ⟨y, z, h⟩ => ⟨_, y, z, h⟩).congr fun l => or_congr Iff.rfl ⟨fun ⟨i, h1, h2, h3⟩ => ⟨i, by omega, h3⟩, fun ⟨i, h2, h3⟩ => ⟨i, by omega, by omega, h3⟩⟩)
    · intro ρ M1 s
      refine hN _ _ ⟨?_, (SubM.new n6).trans s.sub, s.tab, s.bnd⟩
      obtain ⟨x7, x8, x9, rfl⟩ := s.env
      exact ⟨_, _, _, _, _, _, rfl⟩
  · intro ρ M' s
    obtain ⟨x4, x5, x6, x7, x8, x9, rfl⟩ := s.env
    obtain ⟨kvs, t, hm, kt⟩ := s.tab
    simp
    exact drops_to (s.sub.to hm) (q p kvs t hp ((KTlt kt).congr fun l => by unfold pairB; simp))
end F83

set_option Elab.async false
set_option linter.all false
set_option maxRecDepth 100000
set_option maxHeartbeats 4000000
namespace F83
open PySem PySem.Spec PyProof.Rows L2 Fw
/-! kinds -/
inductive Kd where
  | at (a : PySem.Str)
  | op (s : PySem.Str) (l r : Kd)
def encK : Kd → D
  | .at a => .str a
  | .op s l r => .tup [.str s, encK l, encK r]
def Kd.dep : Kd → Nat
  | .at _ => 0
  | .op _ l r => max l.dep r.dep + 1
def over : PySem.Str := "/"
def under : PySem.Str := ">"
def star : PySem.Str := "*"
def kindB (bs : Bans) : Kd → Line → Prop
  | .at a => atomB bs a
  | .op s l r => if s = over then overB (kindB bs l) (kindB bs r) else if s = under then underB (kindB bs l) (kindB bs r) else pairB bs (kindB bs l) (kindB bs r)
/-- the stretches of the lines -/
def strB (bs : Bans) (l : Line) : Prop := ∃ q ∈ bs, ∃ m ∈ q.2, ∃ i j, i < j ∧ j ≤ m.length ∧ l = (m.take j).drop i
structure BsOk (bs : Bans) : Prop where
  len : ∀ q ∈ bs, ∀ m ∈ q.2, 1 ≤ m.length ∧ m.length ≤ 1000
  few : ∀ q ∈ bs, q.2.length ≤ 1000
  uni : ∃ U : List Line, U.length ≤ 100000 ∧ ∀ l, strB bs l → l ∈ U
  fra : ∃ V : List Fr, V.length ≤ 100000 ∧ ∀ q ∈ bs, ∀ m ∈ q.2, ∀ i j, i ≤ m.length → j ≤ m.length → (m.take i, m.drop j) ∈ V
theorem str_len {bs : Bans} (h : BsOk bs) {l : Line} (s : strB bs l) : 1 ≤ l.length ∧ l.length ≤ 1000 := by
  obtain ⟨q, hq, m, hm, i, j, h1, h2, rfl⟩ := s
  have := (h.len q hq m hm).2
  rw [List.length_drop, List.length_take]
  omega
theorem sub_take {bs : Bans} {l : Line} (s : strB bs l) {c : Nat} (h1 : 1 ≤ c) (h2 : c ≤ l.length) : strB bs (l.take c) := by
  obtain ⟨q, hq, m, hm, i, j, h3, h4, rfl⟩ := s
  rw [List.length_drop, List.length_take] at h2
  refine ⟨q, hq, m, hm, i, i + c, by omega, by omega, ?_⟩
  rw [List.drop_take, List.drop_take, List.take_take, Nat.add_sub_cancel_left, Nat.min_eq_left (by omega)]
theorem sub_drop {bs : Bans} {l : Line} (s : strB bs l) {c : Nat} (h2 : c < l.length) : strB bs (l.drop c) := by
  obtain ⟨q, hq, m, hm, i, j, h3, h4, rfl⟩ := s
  rw [List.length_drop, List.length_take] at h2
  refine ⟨q, hq, m, hm, i + c, j, by omega, by omega, ?_⟩
  rw [List.drop_drop]
theorem kind_str {bs : Bans} (h : BsOk bs) : ∀ (k : Kd) (l : Line), kindB bs k l → strB bs l
  | .at a, l, ⟨q, hq, _, hl⟩ => ⟨q, hq, l, hl, 0, l.length, by have := (h.len q hq l hl).1; omega, Nat.le_refl _, by simp⟩
  | .op s a b, l, hl => by
    unfold kindB at hl
    split at hl
    · obtain ⟨m, hm, c, h1, h2, rfl, _⟩ := hl
      exact sub_take (kind_str h a m hm) h1 (by omega)
    · split at hl
      · obtain ⟨m, hm, c, h1, h2, rfl, _⟩ := hl
        exact sub_drop (kind_str h b m hm) h2
      · obtain ⟨q, hq, m, hm, i, hi, j, h1, h2, rfl, _⟩ := hl
        exact ⟨q, hq, m, hm, i, j, by omega, h2, rfl⟩
def sp_kind (n : Nat) : DSp := fun ds M Q => ∃ (bs : Bans) (k : Kd), ds = [encB bs, encK k] ∧ k.dep < n ∧ BsOk bs ∧ ∀ p kvs t, M p = none → LT kvs (kindB bs k) → Q (.ref p) (mset M p (.dict kvs t))
theorem sub_two {M : Mem} {p q : Addr} {a b : MO} (h : M p = none) (h2 : mset M p a q = none) : SubM M (mset (mset M p a) q b) := (SubM.new h).trans (SubM.new h2)
theorem kind_ok (n : Nat) : ∀ ds M Q, sp_kind (n + 1) ds M Q → w_kind_banned sp_atomB (sp_kind n) sp_over sp_under sp_pair (ends Q) (startD 7 ds) M := by
  rintro ds M Q ⟨bs, k, rfl, hn, ok, q⟩
  obtain ⟨U, hU, hin⟩ := ok.uni
  obtain ⟨V, hV, hinV⟩ := ok.fra
  unfold w_kind_banned
  cases k with
  | «at» a =>
    simp [-Bool.exists_bool, encK]
    exact ⟨bs, a, U, rfl, hU, fun l hl => hin l (kind_str ok (.at a) l hl), fun p kvs t hp lt => drops_of (q p kvs t hp lt)⟩
  | op s x y =>
    have hx : x.dep < n := by have : max x.dep y.dep + 1 < n + 1 := hn; omega
    have hy : y.dep < n := by have : max x.dep y.dep + 1 < n + 1 := hn; omega
    simp [-Bool.exists_bool, encK]
    refine ⟨bs, x, rfl, hx, ok, fun p1 k1 t1 hp1 lt1 => ?_⟩
    refine ⟨bs, y, rfl, hy, ok, fun p2 k2 t2 hp2 lt2 => ?_⟩
    have n2 : M p2 = none := (SubM.new hp1).none hp2
    have hne : p1 ≠ p2 := fun e => by subst e; rw [mset_same] at hp2; cases hp2
    have m1 : mset (mset M p1 (.dict k1 t1)) p2 (.dict k2 t2) p1 = some (.dict k1 t1) := by rw [mset_ne hne, mset_same]
    have fin : ∀ (S : Line → Prop), (∀ l, S l ↔ kindB bs (.op s x y) l) → ∀ p kvs t, mset (mset M p1 (.dict k1 t1)) p2 (.dict k2 t2) p = none → LT kvs S → drops Q (.ref p) (mset (mset (mset M p1 (.dict k1 t1)) p2 (.dict k2 t2)) p (.dict kvs t)) := fun S hS p kvs t hp lt => by
      have s := sub_two (b := MO.dict k2 t2) hp1 hp2
      exact drops_to ((s.set (s.none hp)).to mset_same) (q p kvs t (s.none hp) (lt.congr hS))
    have str : ∀ l, kindB bs (.op s x y) l → l ∈ U := fun l hl => hin l (kind_str ok _ l hl)
    show if s = over then _ else _
    by_cases h1 : s = over
    · rw [if_pos h1]
      have e : ∀ l, overB (kindB bs x) (kindB bs y) l ↔ kindB bs (.op s x y) l := fun l => by rw [kindB, if_pos h1]
      exact ⟨p1, p2, k1, k2, t1, t2, _, _, U, rfl, m1, mset_same, lt1, lt2, hU, fun l hl => (str_len ok (kind_str ok x l hl)).2, fun l hl => str l ((e l).mp hl), fin _ e⟩
    · rw [if_neg h1]
      show if s = under then _ else _
      by_cases h2 : s = under
      · rw [if_pos h2]
        have e : ∀ l, underB (kindB bs x) (kindB bs y) l ↔ kindB bs (.op s x y) l := fun l => by rw [kindB, if_neg h1, if_pos h2]
        exact ⟨p1, p2, k1, k2, t1, t2, _, _, U, rfl, m1, mset_same, lt1, lt2, hU, fun l hl => (str_len ok (kind_str ok y l hl)).2, fun l hl => str l ((e l).mp hl), fin _ e⟩
      · rw [if_neg h2]
        have e : ∀ l, pairB bs (kindB bs x) (kindB bs y) l ↔ kindB bs (.op s x y) l := fun l => by rw [kindB, if_neg h1, if_neg h2]
        exact ⟨bs, p1, p2, k1, k2, t1, t2, _, _, U, V, rfl, m1, mset_same, lt1, lt2, fun q hq l hl => (ok.len q hq l hl).2, hU, fun l hl => str l ((e l).mp hl), hV, fun q hq f ⟨m, hm, i, hi, j, h1, h2, e, _⟩ => by rw [e]; exact hinV q hq m hm i j (by omega) h2, fin _ e⟩
end F83

set_option Elab.async false
set_option linter.all false
set_option maxRecDepth 100000
set_option maxHeartbeats 4000000
namespace F83
open PySem PySem.Spec PyProof.Rows L2 Fw
theorem len_app (a b : PySem.Str) : (a ++ b).length = a.length + b.length := by
  rw [← len_cps, ← len_cps a, ← len_cps b]
  show (TL.tl (a ++ b)).length = _
  rw [TL.tl_append, List.length_append]
/-! the kind's text -/
def par : Kd → PySem.Str → PySem.Str
  | .at _, z => z
  | .op _ _ _, z => Str.ofString "(" ++ z ++ Str.ofString ")"
def fmtK : Kd → PySem.Str
  | .at a => a
  | .op s l r => par l (fmtK l) ++ Str.ofString " " ++ s ++ Str.ofString " " ++ par r (fmtK r)
def fmtP (k : Kd) : PySem.Str := par k (fmtK k)
def sp_fk (n : Nat) : DSp := fun ds M Q => ∃ k : Kd, ds = [encK k] ∧ k.dep < n ∧ (fmtK k).length ≤ 100000 ∧ Q (.str (fmtK k)) M
def sp_fp (n : Nat) : DSp := fun ds M Q => ∃ k : Kd, ds = [encK k] ∧ k.dep < n ∧ (fmtP k).length ≤ 100000 ∧ Q (.str (fmtP k)) M
theorem fp_ok (n : Nat) : ∀ ds M Q, sp_fp n ds M Q → w_format_part (sp_fk n) (ends Q) (startD 1 ds) M := by
  rintro ds M Q ⟨k, rfl, hn, hl, q⟩
  have h5 := sz5
  unfold w_format_part
  have o1 : (Str.ofString "(").length = 1 := by decide
  have o2 : (Str.ofString ")").length = 1 := by decide
  cases k with
  | «at» a =>
    simp [-Bool.exists_bool, encK]
    exact drops_of q
  | op s x y =>
    have e : fmtP (.op s x y) = Str.ofString "(" ++ fmtK (.op s x y) ++ Str.ofString ")" := rfl
    rw [e] at q hl
    rw [len_app, len_app, o1, o2] at hl
    simp [-Bool.exists_bool, encK]
    refine ⟨.op s x y, rfl, hn, by omega, ?_⟩
    simp [len_app, o1, o2]
    exact ⟨by omega, by omega, drops_of q⟩
theorem fk_ok (n : Nat) : ∀ ds M Q, sp_fk (n + 1) ds M Q → w_format_kind (sp_fp n) (ends Q) (startD 4 ds) M := by
  rintro ds M Q ⟨k, rfl, hn, hl, q⟩
  have h5 := sz5
  unfold w_format_kind
  have o1 : (Str.ofString " ").length = 1 := by decide
  cases k with
  | «at» a =>
    simp [-Bool.exists_bool, encK]
    exact drops_of q
  | op s x y =>
    have hx : x.dep < n := by have : max x.dep y.dep + 1 < n + 1 := hn; omega
    have hy : y.dep < n := by have : max x.dep y.dep + 1 < n + 1 := hn; omega
    have e : fmtK (.op s x y) = fmtP x ++ Str.ofString " " ++ s ++ Str.ofString " " ++ fmtP y := rfl
    rw [e] at q hl
    simp only [len_app, o1] at hl
    simp [-Bool.exists_bool, encK]
    refine ⟨x, rfl, hx, by omega, ?_⟩
    simp [len_app, o1]
    refine ⟨by omega, by omega, by omega, y, rfl, hy, by omega, ?_⟩
    simp [len_app, o1]
    exact ⟨by omega, drops_of q⟩
/-! the text tells the kind -/
/-- a text of an atom -/
def AtOk (a : PySem.Str) : Prop := ∀ c ∈ a.cps.toList, c ≠ 32 ∧ c ≠ 40 ∧ c ≠ 41
def KdOk : Kd → Prop
  | .at a => AtOk a ∧ a.cps.toList ≠ []
  | .op s l r => (s = over ∨ s = under ∨ s = star) ∧ KdOk l ∧ KdOk r
abbrev tl (z : PySem.Str) : List Nat := z.cps.toList
theorem tl_fmt {s : PySem.Str} {l r : Kd} : tl (fmtK (.op s l r)) = tl (fmtP l) ++ 32 :: (tl s ++ 32 :: tl (fmtP r)) := by
  show TL.tl (fmtP l ++ Str.ofString " " ++ s ++ Str.ofString " " ++ fmtP r) = _
  have e : TL.tl (Str.ofString " ") = [32] := by decide
  rw [TL.tl_append, TL.tl_append, TL.tl_append, TL.tl_append, e]
  simp
theorem tl_par {s : PySem.Str} {l r : Kd} : tl (fmtP (.op s l r)) = 40 :: (tl (fmtK (.op s l r)) ++ [41]) := by
  show TL.tl (Str.ofString "(" ++ fmtK (.op s l r) ++ Str.ofString ")") = _
  have e : TL.tl (Str.ofString "(") = [40] := by decide
  have e2 : TL.tl (Str.ofString ")") = [41] := by decide
  rw [TL.tl_append, TL.tl_append, e, e2]
  rfl
/-- a rest that ends an atom -/
def Stop (r : List Nat) : Prop := r = [] ∨ ∃ c r', r = c :: r' ∧ (c = 32 ∨ c = 41)
theorem at_split : ∀ {a b r r' : List Nat}, (∀ c ∈ a, c ≠ 32 ∧ c ≠ 41) → (∀ c ∈ b, c ≠ 32 ∧ c ≠ 41) → Stop r → Stop r' → a ++ r = b ++ r' → a = b ∧ r = r'
  | [], [], _, _, _, _, _, _, h => ⟨rfl, h⟩
  | [], c :: b, r, r', _, hb, hr, _, h => by
    have hc := hb c List.mem_cons_self
    rcases hr with rfl | ⟨d, r2, rfl, hd⟩
    · simp at h
    · simp at h
      obtain ⟨rfl, _⟩ := h
      rcases hd with hd | hd
      · exact absurd hd hc.1
      · exact absurd hd hc.2
  | c :: a, [], r, r', ha, _, _, hr, h => by
    have hc := ha c List.mem_cons_self
    rcases hr with rfl | ⟨d, r2, rfl, hd⟩
    · simp at h
    · simp at h
      obtain ⟨rfl, _⟩ := h
      rcases hd with hd | hd
      · exact absurd hd hc.1
      · exact absurd hd hc.2
  | c :: a, d :: b, r, r', ha, hb, hr, hr', h => by
    simp at h
    obtain ⟨rfl, h⟩ := h
    obtain ⟨e1, e2⟩ := at_split (fun x hx => ha x (List.mem_cons_of_mem _ hx)) (fun x hx => hb x (List.mem_cons_of_mem _ hx)) hr hr' h
    exact ⟨by rw [e1], e2⟩
theorem sign_tl {s : PySem.Str} (h : s = over ∨ s = under ∨ s = star) : ∃ c, tl s = [c] := by
  rcases h with rfl | rfl | rfl
  · exact ⟨47, by decide⟩
  · exact ⟨62, by decide⟩
  · exact ⟨42, by decide⟩
theorem str_ext {x y : PySem.Str} (h : tl x = tl y) : x = y := TL.ext_tl h
mutual
theorem fmtP_inj : ∀ {k k' : Kd} {r r' : List Nat}, KdOk k → KdOk k' → Stop r → Stop r' → tl (fmtP k) ++ r = tl (fmtP k') ++ r' → k = k' ∧ r = r'
  | .at a, .at b, r, r', ha, hb, hr, hr', h => by
    obtain ⟨e1, e2⟩ := at_split (fun c hc => ⟨(ha.1 c hc).1, (ha.1 c hc).2.2⟩) (fun c hc => ⟨(hb.1 c hc).1, (hb.1 c hc).2.2⟩) hr hr' h
    exact ⟨by rw [str_ext e1], e2⟩
  | .at a, .op s x y, r, r', ha, hb, hr, hr', h => by
    rw [tl_par] at h
    obtain ⟨h1, h2⟩ := ha
    cases c : a.cps.toList with
    | nil => exact absurd c h2
    | cons d q =>
      have e : tl (fmtP (.at a)) = d :: q := c
      rw [e] at h
      simp at h
      exact absurd h.1 (h1 d (by rw [c]; exact List.mem_cons_self)).2.1
  | .op s x y, .at a, r, r', ha, hb, hr, hr', h => by
    rw [tl_par] at h
    obtain ⟨h1, h2⟩ := hb
    cases c : a.cps.toList with
    | nil => exact absurd c h2
    | cons d q =>
      have e : tl (fmtP (.at a)) = d :: q := c
      rw [e] at h
      simp at h
      exact absurd h.1.symm (h1 d (by rw [c]; exact List.mem_cons_self)).2.1
  | .op s x y, .op s' x' y', r, r', ha, hb, hr, hr', h => by
    rw [tl_par, tl_par, tl_fmt, tl_fmt] at h
    simp only [List.cons_append, List.append_assoc, List.cons.injEq, true_and] at h
    obtain ⟨hs, hx, hy⟩ := ha
    obtain ⟨hs', hx', hy'⟩ := hb
    obtain ⟨ex, g⟩ := fmtP_inj hx hx' (.inr ⟨32, _, rfl, .inl rfl⟩) (.inr ⟨32, _, rfl, .inl rfl⟩) h
    obtain ⟨c, e⟩ := sign_tl hs
    obtain ⟨c', e'⟩ := sign_tl hs'
    rw [e, e'] at g
    simp only [List.cons_append, List.nil_append, List.cons.injEq, true_and] at g
    obtain ⟨ec, g⟩ := g
    have es : s = s' := str_ext (e.trans (by rw [ec]; exact e'.symm))
    obtain ⟨ey, g⟩ := fmtP_inj hy hy' (.inr ⟨41, _, rfl, .inr rfl⟩) (.inr ⟨41, _, rfl, .inr rfl⟩) g
    simp only [List.cons.injEq, true_and] at g
    exact ⟨by rw [ex, es, ey], g⟩
end
theorem fmtK_inj {k k' : Kd} (h : KdOk k) (h' : KdOk k') (e : fmtK k = fmtK k') : k = k' := by
  have e2 : tl (fmtK k) = tl (fmtK k') := by rw [e]
  cases k with
  | «at» a =>
    cases k' with
    | «at» b => exact congrArg Kd.at e
    | op s x y =>
      have : (32 : Nat) ∈ tl (fmtK (.op s x y)) := by rw [tl_fmt]; simp
      rw [← e2] at this
      exact absurd rfl (h.1 32 this).1
  | op s x y =>
    cases k' with
    | «at» b =>
      have : (32 : Nat) ∈ tl (fmtK (.op s x y)) := by rw [tl_fmt]; simp
      rw [e2] at this
      exact absurd rfl (h'.1 32 this).1
    | op s' x' y' =>
      have := fmtP_inj (r := []) (r' := []) h h' (.inl rfl) (.inl rfl) (by rw [tl_par, tl_par, e])
      exact this.1
end F83

set_option Elab.async false
set_option linter.all false
set_option maxRecDepth 100000
set_option maxHeartbeats 4000000
namespace F83
open PySem PySem.Spec PyProof.Rows L2 Fw
/-! pieces_of -/
abbrev LP := Line → Prop
def Cut : List LP → List Line → Prop
  | [], [] => True
  | F :: Fs, p :: ps => p ≠ [] ∧ ¬ F p ∧ Cut Fs ps
  | _, _ => False
theorem Cut.snoc : ∀ {Fs : List LP} {ps : List Line} {F : LP} {p : Line}, Cut Fs ps → p ≠ [] → ¬ F p → Cut (Fs ++ [F]) (ps ++ [p])
  | [], [], F, p, _, h1, h2 => ⟨h1, h2, trivial⟩
  | F :: Fs, p :: ps, _, _, h, h1, h2 => ⟨h.1, h.2.1, Cut.snoc h.2.2 h1 h2⟩
theorem Cut.back : ∀ {Fs : List LP} {qs : List Line} {F : LP}, Cut (Fs ++ [F]) qs → ∃ ps p, qs = ps ++ [p] ∧ Cut Fs ps ∧ p ≠ [] ∧ ¬ F p
  | [], [], _, h => h.elim
  | [], [p], F, h => ⟨[], p, rfl, trivial, h.1, h.2.1⟩
  | [], p :: q :: ps, F, h => h.2.2.elim
  | G :: Fs, [], _, h => h.elim
  | G :: Fs, p :: qs, F, h => by
    obtain ⟨ps, p', rfl, h1, h2, h3⟩ := Cut.back h.2.2
    exact ⟨p :: ps, p', rfl, ⟨h.1, h.2.1, h1⟩, h2, h3⟩
def Way (Fs : List LP) (l : Line) (n : Nat) (ps : List Line) : Prop := n ≤ l.length ∧ Cut Fs ps ∧ ps.flatten = l.take n
def Reach (Fs : List LP) (l : Line) (n : Nat) : Prop := ∃ ps, Way Fs l n ps
theorem way_snoc {Fs : List LP} {l : Line} {n m : Nat} {ps : List Line} {F : LP} (w : Way Fs l n ps) (h1 : n + 1 ≤ m) (h2 : m ≤ l.length) (h3 : ¬ F ((l.take m).drop n)) : Way (Fs ++ [F]) l m (ps ++ [(l.take m).drop n]) := by
  refine ⟨h2, w.2.1.snoc (fun e => ?_) h3, ?_⟩
  · have := congrArg List.length e
    rw [List.length_drop, List.length_take, List.length_nil] at this
    omega
  · rw [List.flatten_append, w.2.2]
    simp
    have e : l.take n = (l.take m).take n := by rw [List.take_take, Nat.min_eq_left (by omega)]
    rw [e, List.take_append_drop]
theorem reach_step {Fs : List LP} {l : Line} {m : Nat} {F : LP} : Reach (Fs ++ [F]) l m ↔ ∃ n, Reach Fs l n ∧ n + 1 ≤ m ∧ m ≤ l.length ∧ ¬ F ((l.take m).drop n) := by
  constructor
  · rintro ⟨qs, h1, h2, h3⟩
    obtain ⟨ps, p, rfl, c, hp, hF⟩ := h2.back
    rw [List.flatten_append] at h3
    simp at h3
    have hl : ps.flatten.length + p.length = m := by
      have := congrArg List.length h3
      rw [List.length_append, List.length_take] at this
      omega
    have hpp : 0 < p.length := List.length_pos_iff.mpr hp
    have e1 : ps.flatten = l.take ps.flatten.length := by
      have := congrArg (List.take ps.flatten.length) h3
      rw [List.take_left, List.take_take, Nat.min_eq_left (by omega)] at this
      exact this
    have e2 : p = (l.take m).drop ps.flatten.length := by rw [← h3, List.drop_left]
    exact ⟨ps.flatten.length, ⟨ps, by omega, c, e1⟩, by omega, h1, by rw [← e2]; exact hF⟩
  · rintro ⟨n, ⟨ps, w⟩, h1, h2, h3⟩
    exact ⟨_, way_snoc w h1 h2 h3⟩
/-- a table from whole numbers -/
structure IT (kvs : List (D × D)) (P : Nat → Prop) (V : Nat → D → Prop) : Prop where
  nd : (kys kvs).Nodup
  all : ∀ q ∈ kvs, ∃ m : Nat, q.1 = .int (m : Int) ∧ V m q.2
  mem : ∀ m : Nat, D.int (m : Int) ∈ kys kvs ↔ P m
theorem IT.ok {kvs : List (D × D)} {P : Nat → Prop} {V : Nat → D → Prop} (t : IT kvs P V) (i : Int) : keyOk kvs (.int i) := keyOk_f rfl fun d hd => by
  unfold kys at hd
  rw [List.mem_map] at hd
  obtain ⟨q, hq, rfl⟩ := hd
  obtain ⟨m, e, _⟩ := t.all q hq
  rw [e]; rfl
theorem IT.len {kvs : List (D × D)} {P : Nat → Prop} {V : Nat → D → Prop} {L : Nat} (t : IT kvs P V) (h : ∀ m, P m → m ≤ L) : kvs.length ≤ L + 1 := by
  rw [← kys_len, ← List.length_range (n := L + 1), ← List.length_map (f := fun m : Nat => D.int (m : Int)) (as := List.range (L + 1))]
  refine nodup_le t.nd fun d hd => ?_
  have hd2 := hd
  unfold kys at hd
  rw [List.mem_map] at hd
  obtain ⟨q, hq, rfl⟩ := hd
  obtain ⟨m, e, _⟩ := t.all q hq
  rw [e] at hd2 ⊢
  exact List.mem_map.mpr ⟨m, List.mem_range.mpr (by have := h m ((t.mem m).mp hd2); omega), rfl⟩
theorem IT.new {kvs : List (D × D)} {P : Nat → Prop} {V : Nat → D → Prop} {m : Nat} {v : D} (t : IT kvs P V) (h : ¬ P m) (hv : V m v) : IT (putD kvs (.int (m : Int)) v) (fun j => P j ∨ j = m) V := by
  have hn : D.int (m : Int) ∉ kys kvs := fun z => h ((t.mem m).mp z)
  refine ⟨kys_nodup t.nd, fun q hq => ?_, fun j => ?_⟩
  · unfold putD at hq
    rw [if_neg (by
      intro z
      rw [List.any_eq_true] at z
      obtain ⟨q, hq, e⟩ := z
      exact hn (by rw [← of_decide_eq_true e]; exact List.mem_map_of_mem hq))] at hq
    rw [List.mem_append, List.mem_singleton] at hq
    rcases hq with hq | rfl
    · exact t.all q hq
    · exact ⟨m, rfl, hv⟩
  · rw [kys_put, t.mem]
    refine or_congr Iff.rfl ⟨fun e => ?_, fun e => by rw [e]⟩
    injection e with e
    omega
theorem IT.val {kvs : List (D × D)} {P : Nat → Prop} {V : Nat → D → Prop} {m : Nat} (t : IT kvs P V) : (∃ v, valD kvs (.int (m : Int)) = some v ∧ V m v ∧ P m) ∨ (valD kvs (.int (m : Int)) = none ∧ ¬ P m) := by
  have hs := valD_some (kvs := kvs) (k := .int (m : Int))
  cases h : valD kvs (.int (m : Int)) with
  | none =>
    rw [h] at hs
    exact .inr ⟨rfl, fun z => by have := (t.mem m).mpr z; unfold kys at this; simp [this] at hs⟩
  | some v =>
    rw [h] at hs
    have hp : P m := (t.mem m).mp (of_decide_eq_true (show decide (D.int (m : Int) ∈ kvs.map (·.1)) = true from hs.symm))
    unfold valD at h
    rw [Option.map_eq_some_iff] at h
    obtain ⟨q, hq, rfl⟩ := h
    have h1 := List.find?_some hq
    obtain ⟨j, e, hv⟩ := t.all q (List.mem_of_find?_eq_some hq)
    have : q.1 = .int (m : Int) := of_decide_eq_true h1
    rw [this] at e
    injection e with e
    have : j = m := by omega
    subst this
    exact .inl ⟨_, rfl, hv, hp⟩
def encLs (ps : List Line) : D := .tup (ps.map encL)
theorem way_pieces {Fs : List LP} {l : Line} {n : Nat} {ps : List Line} (w : Way Fs l n ps) : ps.length = Fs.length := by
  have : ∀ {Fs : List LP} {ps : List Line}, Cut Fs ps → ps.length = Fs.length := by
    intro Fs
    induction Fs with
    | nil => intro ps h; cases ps with | nil => rfl | cons => exact h.elim
    | cons F Fs ih => intro ps h; cases ps with | nil => exact h.elim | cons p ps => simp [ih h.2.2]
  exact this w.2.1
theorem IT.congr {kvs : List (D × D)} {P P' : Nat → Prop} {V : Nat → D → Prop} (t : IT kvs P V) (h : ∀ m, P m ↔ P' m) : IT kvs P' V := ⟨t.nd, t.all, fun m => (t.mem m).trans (h m)⟩
/-- what is reached from the entries that are done; from one start, up to e -/
def PA (F : LP) (l : Line) (dn : List (D × D)) (j : Nat) : Prop := ∃ q ∈ dn, ∃ n : Nat, q.1 = .int (n : Int) ∧ n + 1 ≤ j ∧ j ≤ l.length ∧ ¬ F ((l.take j).drop n)
def PB (F : LP) (l : Line) (n e j : Nat) : Prop := n + 1 ≤ j ∧ j < e ∧ j ≤ l.length ∧ ¬ F ((l.take j).drop n)
theorem PB_no {F : LP} {l : Line} {n m : Nat} (h : F ((l.take m).drop n)) (j : Nat) : PB F l n m j ↔ PB F l n (m + 1) j :=
  ⟨fun ⟨h1, h2, h3⟩ => ⟨h1, by omega, h3⟩, fun ⟨h1, h2, h3, h4⟩ => ⟨h1, by
    by_cases hj : j = m
    · subst hj; exact absurd h h4
    · omega, h3, h4⟩⟩
theorem PB_yes {F : LP} {l : Line} {n m : Nat} (h : ¬ F ((l.take m).drop n)) (h1 : n + 1 ≤ m) (h2 : m ≤ l.length) (j : Nat) : (PB F l n m j ∨ j = m) ↔ PB F l n (m + 1) j := by
  constructor
  · rintro (⟨h1, h2, h3⟩ | rfl)
    · exact ⟨h1, by omega, h3⟩
    · exact ⟨h1, by omega, h2, h⟩
  · rintro ⟨h1, h2, h3⟩
    by_cases hj : j = m
    · exact .inr hj
    · exact .inl ⟨h1, by omega, h3⟩
@[simp] theorem y_addT {a b : List D} {M : Mem} {Q : DK} : dAdd (.tup a) (.tup b) M Q = (a.length + b.length ≤ sizeLine ∧ Q (.tup (a ++ b)) M) := rfl
/-- the tables of a row, in the memory -/
def TabL (M : Mem) (xs : List (Addr × LP)) : Prop := ∀ x ∈ xs, ∃ k t, M x.1 = some (.dict k t) ∧ LT k x.2
theorem TabL.sub {M M' : Mem} {xs : List (Addr × LP)} (s : SubM M M') (h : TabL M xs) : TabL M' xs := fun x hx => let ⟨k, t, e, q⟩ := h x hx; ⟨k, t, s _ _ e, q⟩
def sp_pieces : DSp := fun ds M Q => ∃ (l : Line) (b : Addr) (xs : List (Addr × LP)), ds = [encL l, .ref b] ∧ M b = some (.lst (xs.map fun x => .ref x.1)) ∧ TabL M xs ∧ l.length ≤ 1000 ∧ xs.length ≤ 1000 ∧
  (∀ ps, Way (xs.map (·.2)) l l.length ps → Q (encLs ps) M) ∧ ((¬ Reach (xs.map (·.2)) l l.length) → Q .non M)
theorem pieces_ok : ∀ ds M Q, sp_pieces ds M Q → w_pieces_of (ends Q) (startD 8 ds) M := by
  rintro ds M Q ⟨l, b, xs, rfl, hb, htab, hl, hxs, q1, q2⟩
  have h5 := sz5
  unfold w_pieces_of
  simp [-Bool.exists_bool]
  refine ⟨rfl, fun p0 ta tb hp0 => ?_⟩
  have hb0 : b ≠ p0 := fun e => by rw [e, hp0] at hb; cases hb
  rw [y_srcL (by rw [mset_ne hb0]; exact hb)]
  let V : List LP → Nat → D → Prop := fun Fs m v => ∃ ps, v = encLs ps ∧ Way Fs l m ps
  refine loop_map (xs := xs) (fun x => D.ref x.1) (fun done ρ M' => ∃ pr x3 x4 x5 x6 x7 kvs t, ρ = [some (encL l), some (.ref b), some (.ref pr), x3, x4, x5, x6, x7] ∧ SubM M M' ∧ M' pr = some (.dict kvs t) ∧ IT kvs (Reach (done.map (·.2)) l) (V (done.map (·.2)))) ⟨p0, none, none, none, none, none, _, (ta, tb), rfl, SubM.new hp0, mset_same, ?_⟩ ?_ ?_
  · refine ⟨by simp [kys], fun q hq => ?_, fun m => ?_⟩
    · rw [List.mem_singleton] at hq
      subst hq
      exact ⟨0, rfl, [], rfl, Nat.zero_le _, trivial, by simp⟩
    · simp only [kys, List.map_cons, List.map_nil, List.mem_singleton]
      constructor
      · intro e
        injection e with e
        have : m = 0 := by omega
        subst this
        exact ⟨[], Nat.zero_le _, trivial, by simp⟩
      · rintro ⟨ps, h1, h2, h3⟩
        cases ps with
        | nil =>
          have := congrArg List.length h3
          simp at this
          have e0 : m = 0 := by omega
          rw [e0]; rfl
        | cons => exact h2.elim
  · rintro done ⟨aF, F⟩ rest hx ρ M' ⟨pr, x3, x4, x5, x6, x7, kvs, t, rfl, sm, hm, it⟩ N hN
    refine ⟨_, _, .refl, .refl, sm b _ hb, ?_⟩
    obtain ⟨kF, tF, haF, ltF⟩ := htab (aF, F) (by rw [hx]; simp)
    unfold w_pieces_of_3
    simp [-Bool.exists_bool]
    intro p2 tc td hp2
    have n2 : M p2 = none := sm.none hp2
    have hr2 : pr ≠ p2 := fun e => by rw [e, hp2] at hm; cases hm
    simp only [wItems]
    simp [mset_ne hr2, hm]
    have hda : ∀ {M'' : Mem}, SubM M M'' → M'' aF = some (.dict kF tF) := fun s => s aF _ haF
    refine loop_map (xs := kvs) (fun p => D.tup [p.1, p.2]) (fun dn ρ M'' => ∃ x5 x6 x7 kvs2 t2, ρ = [some (encL l), some (.ref b), some (.ref pr), some (.ref aF), some (.ref p2), x5, x6, x7] ∧ SubM M M'' ∧ M'' pr = some (.dict kvs t) ∧ M'' p2 = some (.dict kvs2 t2) ∧ IT kvs2 (PA F l dn) (V (done.map (·.2) ++ [F]))) ⟨x5, x6, x7, [], (tc, td), rfl, sm.set n2, by rw [mset_ne hr2]; exact hm, mset_same, ⟨by simp [kys], by simp, by simp [kys, PA]⟩⟩ ?_ ?_
    · rintro dn ⟨qk, qv⟩ rest2 hx2 ρ M'' ⟨x5, x6, x7, kvs2, t2, rfl, sm, hm, hm2, it2⟩ N2 hN2
      refine ⟨_, _, .refl, .refl, hm, ?_⟩
      obtain ⟨n, e1, ps, e2, w⟩ := it.all (qk, qv) (by rw [hx2]; simp)
      simp only at e1 e2
      subst e1 e2
      have hnl : n ≤ l.length := w.1
      have hpl : ps.length ≤ 1000 := by
        have := way_pieces w
        rw [this, List.length_map]
        have h2 : xs.length = _ := congrArg List.length hx
        simp at h2
        omega
      unfold w_pieces_of_2
      simp [-Bool.exists_bool]
      refine ⟨by unfold RgOk2; omega, ?_⟩
      have en : (((l.length : Nat) : Int) + 1 - ((n : Int) + 1)).toNat = l.length - n := by omega
      try rw [en]
      have e3 : ((n : Int) + 1) = ((n + 1 : Nat) : Int) := by omega
      rw [e3]
      refine loop_range (fun i ρ M'' => ∃ x7 kvs2 t2, ρ = [some (encL l), some (.ref b), some (.ref pr), some (.ref aF), some (.ref p2), some (.int (n : Int)), some (encLs ps), x7] ∧ SubM M M'' ∧ M'' pr = some (.dict kvs t) ∧ M'' p2 = some (.dict kvs2 t2) ∧ IT kvs2 (fun m => PA F l dn m ∨ PB F l n (n + 1 + i) m) (V (done.map (·.2) ++ [F]))) ⟨x7, kvs2, t2, rfl, sm, hm, hm2, it2.congr fun m => ⟨.inl, fun z => z.elim id fun ⟨z1, z2, _⟩ => by omega⟩⟩ ?_ ?_
      · rintro i hi ρ M3 ⟨x7, kvs2, t2, rfl, sm, hm, hm2, it2⟩ N3 hN3
        refine ⟨_, _, .refl, .refl, trivial, ?_⟩
        rw [show n + 1 + (i + 1) = (n + 1 + i) + 1 by omega] at hN3
        have h1m : n + 1 ≤ n + 1 + i := by omega
        have hml : n + 1 + i ≤ l.length := by omega
        generalize n + 1 + i = m at *
        unfold w_pieces_of_1
        simp [-Bool.exists_bool, -Int.natCast_add]
        rw [y_inD (hda sm)]
        refine ⟨ltF.ok _, ?_⟩
        simp only [ex_bl]
        by_cases hT : F ((l.take m).drop n)
        · rw [(ltF.has _).mpr hT]
          simp
          exact hN3 _ _ ⟨_, kvs2, t2, rfl, sm, hm, hm2, it2.congr fun j => or_congr Iff.rfl (PB_no hT j)⟩
        · rw [show (valD kF (encL ((l.take m).drop n))).isSome = false from by rw [Bool.eq_false_iff]; exact fun e => hT ((ltF.has _).mp e)]
          rw [Bool.not_false, if_pos rfl, y_inD hm2]
          refine ⟨it2.ok _, ?_⟩
          simp only [ex_bl]
          rcases it2.val (m := m) with ⟨v, e1, _, hP⟩ | ⟨e1, hP⟩
          · rw [e1]
            simp
            refine hN3 _ _ ⟨_, kvs2, t2, rfl, sm, hm, hm2, it2.congr fun j => ?_⟩
            rw [← PB_yes hT h1m hml]
            constructor
            · exact fun z => z.imp id .inl
            · rintro (z | z | rfl)
              · exact .inl z
              · exact .inr z
              · exact hP
          · rw [e1]
            simp [encLs]
            refine ⟨by omega, by omega, ?_⟩
            rw [y_putD hm2]
            have hn2 := it2.len (L := 1000) (fun j hj => by
              rcases hj with ⟨_, _, _, _, _, z, _⟩ | ⟨_, _, z, _⟩ <;> omega)
            refine ⟨it2.ok _, by omega, fun t3 => hN3 _ _ ⟨_, _, t3, rfl, sm.set n2, by rw [mset_ne hr2]; exact hm, mset_same, (it2.new hP ⟨ps ++ [(l.take m).drop n], by simp [encLs], way_snoc w h1m hml hT⟩).congr fun j => ?_⟩⟩
            rw [or_assoc]
            exact or_congr Iff.rfl (PB_yes hT h1m hml j)
      · rintro ρ M3 ⟨x7, kvs2, t2, rfl, sm, hm, hm2, it2⟩
        refine ⟨_, _, .refl, .refl, trivial, hN2 _ _ ⟨_, _, x7, kvs2, t2, rfl, sm, hm, hm2, it2.congr fun j => ?_⟩⟩
        unfold PA
        constructor
        · rintro (⟨q, h1, h2⟩ | ⟨h1, h2, h3⟩)
          · exact ⟨q, by simp [h1], h2⟩
          · exact ⟨(.int (n : Int), encLs ps), by simp, n, rfl, h1, h3⟩
        · rintro ⟨q, h1, n', h2, h3, h4⟩
          rw [List.mem_append, List.mem_singleton] at h1
          rcases h1 with h1 | rfl
          · exact .inl ⟨q, h1, n', h2, h3, h4⟩
          · injection h2 with h2
            have : n' = n := by omega
            subst this
            exact .inr ⟨h3, by omega, h4⟩
    · rintro ρ M'' ⟨x5, x6, x7, kvs2, t2, rfl, sm, hm, hm2, it2⟩
      refine ⟨_, _, .refl, .refl, hm, ?_⟩
      simp
      refine hN _ _ ⟨p2, _, _, _, _, _, kvs2, t2, rfl, sm, hm2, ?_⟩
      rw [List.map_append]
      refine it2.congr fun m => ?_
      show PA F l kvs m ↔ Reach (done.map (·.2) ++ [F]) l m
      rw [reach_step]
      constructor
      · rintro ⟨q, hq, n, e, h⟩
        exact ⟨n, (it.mem n).mp (by rw [← e]; exact List.mem_map_of_mem hq), h⟩
      · rintro ⟨n, hn, h⟩
        have := (it.mem n).mpr hn
        unfold kys at this
        rw [List.mem_map] at this
        obtain ⟨q, hq, e⟩ := this
        exact ⟨q, hq, n, e, h⟩
  · rintro ρ M' ⟨pr, x3, x4, x5, x6, x7, kvs, t, rfl, sm, hm, it⟩
    refine ⟨_, _, .refl, .refl, sm b _ hb, ?_⟩
    simp [-Bool.exists_bool]
    refine ⟨⟨kvs, t.1, t.2, hm⟩, kvs, ⟨t.1, t.2, hm⟩, it.ok _, drops_to sm ?_⟩
    rcases it.val (m := l.length) with ⟨v, e1, ⟨ps, rfl, w⟩, hP⟩ | ⟨e1, hP⟩
    · rw [e1]; exact q1 ps w
    · rw [e1]; exact q2 hP
end F83

set_option Elab.async false
set_option linter.all false
set_option maxRecDepth 100000
set_option maxHeartbeats 4000000
namespace F83
open PySem PySem.Spec PyProof.Rows L2 Fw
/-! class Truth -/
def IsTab (M : Mem) (a : Addr) (S : LP) : Prop := ∃ k t, M a = some (.dict k t) ∧ LT k S
def But (d : Addr) (M M' : Mem) : Prop := ∀ b o, b ≠ d → M b = some o → M' b = some o
theorem IsTab.but {d : Addr} {M M' : Mem} {a : Addr} {S : LP} (h : IsTab M a S) (b : But d M M') (ne : a ≠ d) : IsTab M' a S := let ⟨k, t, e, q⟩ := h; ⟨k, t, b a _ ne e, q⟩
theorem SubM.but {d : Addr} {M M' Mb : Mem} (b : But d M M') (s : SubM Mb M) (h : Mb d = none) : SubM Mb M' := fun a o e => b a o (fun z => by subst z; rw [h] at e; cases e) (s a o e)
abbrev tFs (bs : Bans) (d : Addr) : List (PySem.Str × D) := [(Str.ofString "bans", encB bs), (Str.ofString "banned", D.ref d)]
structure TrAt (C : Addr) (M : Mem) (x d : Addr) (bs : Bans) (n : Nat) : Prop where
  ins : M x = some (.ins C (tFs bs d))
  ne : x ≠ d
  tab : ∃ cache t, M d = some (.dict cache t) ∧ cache.length ≤ n ∧ ∀ q ∈ cache, ∃ k, KdOk k ∧ q.1 = .str (fmtK k) ∧ ∃ a, q.2 = .ref a ∧ a ≠ d ∧ IsTab M a (kindB bs k)
def sp_by (C : Addr) (nn : Nat) : DSp := fun ds M Q => ∃ (x d : Addr) (bs : Bans) (k : Kd) (n : Nat), ds = [.ref x, encK k] ∧ TrAt C M x d bs n ∧ n ≤ 50000 ∧ KdOk k ∧ k.dep < nn ∧ (fmtK k).length ≤ 100000 ∧ BsOk bs ∧
  ∀ a M', a ≠ d → But d M M' → TrAt C M' x d bs (n + 1) → IsTab M' a (kindB bs k) → Q (.ref a) M'
theorem lk1 {bs : Bans} {d : Addr} : (tFs bs d).lookup (Str.ofString "bans") = some (encB bs) := by
  rw [List.lookup_cons]; rfl
theorem lk2 {bs : Bans} {d : Addr} : (tFs bs d).lookup (Str.ofString "banned") = some (.ref d) := by
  rw [List.lookup_cons, show (Str.ofString "banned" == Str.ofString "bans") = false by decide, List.lookup_cons]; rfl
theorem by_ok (C : Addr) (nn : Nat) : ∀ ds M Q, sp_by C nn ds M Q → w_Truth_banned_by C (sp_fk nn) (sp_kind nn) (ends Q) (startD 3 ds) M := by
  rintro ds M Q ⟨x, d, bs, k, n, rfl, tr, hn, kok, hd, hl, bok, q⟩
  have h5 := sz5
  obtain ⟨cache, t, hc, hcl, hall⟩ := tr.tab
  have hins := tr.ins
  unfold w_Truth_banned_by
  simp [-Bool.exists_bool]
  refine ⟨k, rfl, hd, hl, ?_⟩
  simp [-Bool.exists_bool]
  have fk2 : ∀ {M' : Mem} (cache : List (D × D)), (∀ q ∈ cache, ∃ k, KdOk k ∧ q.1 = .str (fmtK k) ∧ ∃ a, q.2 = .ref a ∧ a ≠ d ∧ IsTab M' a (kindB bs k)) → keyOk cache (.str (fmtK k)) := fun cache h => keyOk_f rfl fun e he => by
    unfold kys at he
    rw [List.mem_map] at he
    obtain ⟨z, hz, rfl⟩ := he
    obtain ⟨k', _, e, _⟩ := h z hz
    rw [e]; rfl
  refine ⟨_, hins, _, lk2, ?_⟩
  rw [y_inD hc]
  refine ⟨fk2 cache hall, ?_⟩
  simp only [ex_bl]
  cases hv : valD cache (.str (fmtK k)) with
  | some v =>
    simp
    refine ⟨_, hins, _, lk2, ?_⟩
    rw [y_ixD hc]
    refine ⟨fk2 cache hall, v, hv, ?_⟩
    unfold valD at hv
    rw [Option.map_eq_some_iff] at hv
    obtain ⟨z, hz, rfl⟩ := hv
    have h0 := List.find?_some hz
    have h1 : z.1 = .str (fmtK k) := of_decide_eq_true h0
    obtain ⟨k', kok', e, a, ea, na, tb⟩ := hall z (List.mem_of_find?_eq_some hz)
    rw [h1] at e
    injection e with e
    have ek := fmtK_inj kok kok' e
    subst ek
    rw [ea]
    exact drops_of (q a M na (fun _ _ _ h => h) ⟨hins, tr.ne, cache, t, hc, by omega, hall⟩ tb)
  | none =>
    simp
    refine ⟨_, hins, _, lk1, bs, k, rfl, hd, bok, fun p kvs t2 hp lt => ?_⟩
    have px : x ≠ p := fun e => by rw [e, hp] at hins; cases hins
    have pd : d ≠ p := fun e => by rw [e, hp] at hc; cases hc
    refine ⟨tFs bs d, by rw [mset_ne px]; exact hins, _, lk2, ?_⟩
    rw [y_putD (kvs := cache) (t := t) (by rw [mset_ne pd]; exact hc)]
    refine ⟨fk2 cache hall, by omega, fun t3 => ?_⟩
    have hins' : mset (mset M p (.dict kvs t2)) d (.dict (putD cache (.str (fmtK k)) (.ref p)) t3) x = some (.ins C (tFs bs d)) := by rw [mset_ne tr.ne, mset_ne px]; exact hins
    refine ⟨_, hins', _, lk2, ?_⟩
    have but : But d M (mset (mset M p (.dict kvs t2)) d (.dict (putD cache (.str (fmtK k)) (.ref p)) t3)) := fun b o hb e => by
      rw [mset_ne hb, mset_ne (fun z => by rw [z, hp] at e; cases e)]; exact e
    have hno : ¬ (cache.any fun kv => decide (kv.1 = D.str (fmtK k))) = true := fun z => by
      have := valD_some (kvs := cache) (k := .str (fmtK k))
      rw [hv] at this
      have h2 : ¬ D.str (fmtK k) ∈ cache.map (·.1) := of_decide_eq_false this.symm
      rw [List.any_eq_true] at z
      obtain ⟨y, hy, e⟩ := z
      exact h2 (by rw [← of_decide_eq_true e]; exact List.mem_map_of_mem hy)
    have eput : putD cache (.str (fmtK k)) (.ref p) = cache ++ [(.str (fmtK k), .ref p)] := by unfold putD; rw [if_neg hno]
    have tabp : IsTab (mset (mset M p (.dict kvs t2)) d (.dict (putD cache (.str (fmtK k)) (.ref p)) t3)) p (kindB bs k) := ⟨kvs, t2, by rw [mset_ne (Ne.symm pd), mset_same], lt⟩
    have hnew : ∀ q ∈ putD cache (.str (fmtK k)) (.ref p), ∃ j, KdOk j ∧ q.1 = .str (fmtK j) ∧ ∃ a, q.2 = .ref a ∧ a ≠ d ∧ IsTab (mset (mset M p (.dict kvs t2)) d (.dict (putD cache (.str (fmtK k)) (.ref p)) t3)) a (kindB bs j) := fun q hq => by
      rw [eput] at hq
      rw [List.mem_append, List.mem_singleton] at hq
      rcases hq with hq | rfl
      · obtain ⟨k', h1, h2, a, h3, h4, h6⟩ := hall q hq
        exact ⟨k', h1, h2, a, h3, h4, h6.but but h4⟩
      · exact ⟨k, kok, rfl, p, rfl, Ne.symm pd, tabp⟩
    rw [y_ixD mset_same]
    refine ⟨fk2 _ hnew, .ref p, by rw [valD_put, if_pos rfl], drops_of (q p _ (Ne.symm pd) but ⟨hins', tr.ne, _, t3, mset_same, by rw [eput, List.length_append]; simp; omega, hnew⟩ tabp)⟩
def sp_init (C : Addr) : DSp := fun ds M Q => ∃ (x : Addr) (bs : Bans), ds = [.ref x, encB bs] ∧ M x = some (.ins C []) ∧ ∀ d M', M d = none → But x M M' → TrAt C M' x d bs 0 → Q .non M'
theorem init_ok (C : Addr) : ∀ ds M Q, sp_init C ds M Q → w_Truth___init__ C (ends Q) (startD 2 ds) M := by
  rintro ds M Q ⟨x, bs, rfl, hx, q⟩
  unfold w_Truth___init__
  simp [-Bool.exists_bool]
  refine ⟨[], hx, by simp, ?_⟩
  intro p ta tb hp
  have hpx : p ≠ x := fun e => by rw [e, mset_same] at hp; cases hp
  have np : M p = none := by rw [mset_ne hpx] at hp; exact hp
  refine ⟨[(Str.ofString "bans", encB bs)], by rw [mset_ne (Ne.symm hpx), mset_same]; rfl, (by show (1 : Nat) < 1000; decide), drops_of (q p _ np (fun b o hb e => ?_) ⟨by rw [mset_same]; rfl, Ne.symm hpx, [], (ta, tb), by rw [mset_ne hpx, mset_same], Nat.le_refl _, by simp⟩)⟩
  rw [mset_ne hb, mset_ne (fun z => by rw [z, np] at e; cases e), mset_ne hb]
  exact e
theorem comp_invM' {α : Type} {stab : Mem → Prop} {i : Nat} {ρ : Fw.Env} {we : WE} {Q : List D → Mem → Prop} {xs : List α} (enc : α → D) (I : List α → List D → Mem → Prop) (hst : ∀ done acc M, I done acc M → stab M)
    (turn : ∀ done x rest acc M, xs = done ++ x :: rest → I done acc M → ∀ N : D → Mem → Prop, (∀ d M2, I (done ++ [x]) (acc ++ [d]) M2 → N d M2) → we (ρ.set i (some (enc x))) M N) (fin : ∀ acc M, I xs acc M → Q acc M) (hz : xs.length ≤ sizeLine) :
    ∀ (ys done : List α) (acc : List D) (M : Mem), xs = done ++ ys → I done acc M → acc.length = done.length → compD stab (.nm i) ρ wYes we (ys.map enc) acc M Q
  | [], done, acc, M, h, hi, _ => by rw [List.append_nil] at h; subst h; exact ⟨M, .refl, hst _ _ _ hi, fin acc M hi⟩
  | y :: ys, done, acc, M, h, hi, hl => by
    refine ⟨M, .refl, hst _ _ _ hi, ?_⟩
    have hz' : acc.length < sizeLine := by
      have : xs.length = done.length + (ys.length + 1) := by rw [h]; simp
      omega
    simp only [y_tg1, y_yes, if_true]
    exact turn done y ys acc M h hi _ fun d M2 hi2 => ⟨hz', comp_invM' enc I hst turn fin hz ys (done ++ [y]) (acc ++ [d]) M2 (by rw [h]; simp) hi2 (by simp [hl])⟩
theorem comp_invM {α : Type} {stab : Mem → Prop} {i : Nat} {ρ : Fw.Env} {we : WE} {Q : List D → Mem → Prop} {xs : List α} {M : Mem} (enc : α → D) (I : List α → List D → Mem → Prop) (hst : ∀ done acc M, I done acc M → stab M) (h0 : I [] [] M)
    (turn : ∀ done x rest acc M, xs = done ++ x :: rest → I done acc M → ∀ N : D → Mem → Prop, (∀ d M2, I (done ++ [x]) (acc ++ [d]) M2 → N d M2) → we (ρ.set i (some (enc x))) M N) (fin : ∀ acc M, I xs acc M → Q acc M) (hz : xs.length ≤ sizeLine) : compD stab (.nm i) ρ wYes we (xs.map enc) [] M Q :=
  comp_invM' enc I hst turn fin hz xs [] [] M rfl h0 rfl
theorem TrAt.new {C : Addr} {M : Mem} {x d p : Addr} {bs : Bans} {n : Nat} {o : MO} (t : TrAt C M x d bs n) (hp : M p = none) : TrAt C (mset M p o) x d bs n := by
  obtain ⟨cache, tk, hc, hl, hall⟩ := t.tab
  have s : SubM M (mset M p o) := SubM.new hp
  exact ⟨s _ _ t.ins, t.ne, cache, tk, s _ _ hc, hl, fun q hq => let ⟨k, a1, a2, a, a3, a4, kk, tt, a5, a6⟩ := hall q hq; ⟨k, a1, a2, a, a3, a4, kk, tt, s _ _ a5, a6⟩⟩
theorem TrAt.more {C : Addr} {M : Mem} {x d : Addr} {bs : Bans} {n m : Nat} (t : TrAt C M x d bs n) (h : n ≤ m) : TrAt C M x d bs m := ⟨t.ins, t.ne, let ⟨c, k, a, b, e⟩ := t.tab; ⟨c, k, a, Nat.le_trans b h, e⟩⟩
/-! Truth.failing -/
def encS (ks : List Kd) (g : Kd) : D := .tup [.tup (ks.map encK), encK g]
def sp_failing (C : Addr) (nn : Nat) : DSp := fun ds M Q => ∃ (x d : Addr) (bs : Bans) (ks : List Kd) (g : Kd) (Mb : Mem), ds = [.ref x, encS ks g] ∧ TrAt C M x d bs 0 ∧ Mb d = none ∧ SubM Mb M ∧ BsOk bs ∧ ks.length ≤ 1000 ∧ (∀ k ∈ g :: ks, KdOk k ∧ k.dep < nn ∧ (fmtK k).length ≤ 100000) ∧
  (∀ l ps, kindB bs g l → Way (ks.map (kindB bs)) l l.length ps → Q (encLs ps) Mb) ∧ ((∀ l, kindB bs g l → ¬ Reach (ks.map (kindB bs)) l l.length) → Q .non Mb)
theorem failing_ok (C : Addr) (nn : Nat) : ∀ ds M Q, sp_failing C nn ds M Q → w_Truth_failing C (sp_by C nn) sp_pieces (ends Q) (startD 8 ds) M := by
  rintro ds M Q ⟨x, d, bs, ks, g, Mb, rfl, tr, hd, sb, bok, hks, hk, q1, q2⟩
  have h5 := sz5
  unfold w_Truth_failing encS
  simp [-Bool.exists_bool]
  have lkm : (tFs bs d).lookup (Str.ofString "banned_by") = none := by
    rw [List.lookup_cons, show (Str.ofString "banned_by" == Str.ofString "bans") = false by decide, List.lookup_cons, show (Str.ofString "banned_by" == Str.ofString "banned") = false by decide]; rfl
  refine comp_invM encK (fun done acc M' => ∃ zs : List (Addr × Kd), zs.map (·.2) = done ∧ acc = zs.map (fun z => D.ref z.1) ∧ TrAt C M' x d bs done.length ∧ SubM Mb M' ∧ ∀ z ∈ zs, z.1 ≠ d ∧ IsTab M' z.1 (kindB bs z.2)) (fun _ _ _ _ => trivial) ⟨[], rfl, rfl, tr, sb, by simp⟩ ?_ ?_ (by omega)
  · rintro done k rest acc M' hx ⟨zs, rfl, rfl, tr, sb, hzs⟩ N hN
    obtain ⟨k1, k2, k3⟩ := hk k (by rw [hx]; simp)
    have hle : (zs.map (·.2)).length ≤ 1000 := by
      have : ks.length = _ := congrArg List.length hx
      rw [List.length_append] at this
      omega
    simp only [y_meth, y_var, y_cons, y_nil, List.set_cons_succ, List.set_cons_zero]
    refine ⟨.ref x, rfl, x, tFs bs d, rfl, tr.ins, lkm, encK k, rfl, x, d, bs, k, _, rfl, tr, by omega, k1, k2, k3, bok, fun a M2 na bt tr2 tb => hN _ _ ⟨zs ++ [(a, k)], by simp, by simp, by simpa using tr2, SubM.but bt sb hd, fun z hz => ?_⟩⟩
    rw [List.mem_append, List.mem_singleton] at hz
    rcases hz with hz | rfl
    · exact ⟨(hzs z hz).1, (hzs z hz).2.but bt (hzs z hz).1⟩
    · exact ⟨na, tb⟩
  · rintro acc M' ⟨zs, rfl, rfl, tr, sb, hzs⟩ p hp
    obtain ⟨k1, k2, k3⟩ := hk g (by simp)
    have hpd : p ≠ d := fun e => by
      obtain ⟨c, t, e2, _⟩ := tr.tab
      rw [← e, hp] at e2; cases e2
    have tr1 := tr.new (o := .lst (zs.map fun z => D.ref z.1)) hp
    refine ⟨tFs bs d, tr1.ins, fun a b hab => ?_, ?_⟩
    · simp at hab
      rcases hab with ⟨rfl, _⟩ | ⟨rfl, _⟩ <;> decide
    refine ⟨x, d, bs, g, _, rfl, tr1, by omega, k1, k2, k3, bok, fun a M2 na bt tr2 ⟨kvs, t, ha, lt⟩ => ?_⟩
    show withSrc (.ref a) M2 _
    rw [y_srcD ha]
    obtain ⟨ls, els, hls, nls⟩ := lt.lines
    show loopD _ _ _ (kvs.map (·.1)) _ _ _
    rw [els]
    have sb2 : SubM Mb M2 := SubM.but bt (sb.trans (SubM.new hp)) hd
    have hpl : M2 p = some (.lst (zs.map fun z => D.ref z.1)) := bt p _ hpd mset_same
    refine loop_map (xs := ls) encL (fun done ρ M3 => M3 = M2 ∧ (∃ x6 x7, ρ = [some (.ref x), some (encS (zs.map (·.2)) g), some (.tup ((zs.map (·.2)).map encK)), some (encK g), some (.ref p), none, x6, x7]) ∧ ∀ l ∈ done, ¬ Reach ((zs.map (·.2)).map (kindB bs)) l l.length) ⟨rfl, ⟨none, none, rfl⟩, by simp⟩ ?_ ?_
    · rintro done l rest hx ρ M3 ⟨rfl, ⟨x6, x7, rfl⟩, hno⟩ N hN
      refine ⟨_, _, .refl, .refl, ha, ?_⟩
      have hSl := (hls l).mp (by rw [hx]; simp)
      unfold w_Truth_failing_1
      simp [-Bool.exists_bool]
      have efs : (zs.map fun z => (z.1, kindB bs z.2)).map (·.2) = (zs.map (·.2)).map (kindB bs) := by simp
      refine ⟨l, p, zs.map fun z => (z.1, kindB bs z.2), rfl, by rw [hpl, List.map_map]; rfl, fun y hy => ?_, (str_len bok (kind_str bok g l hSl)).2, by simpa using hks, fun ps w => ?_, fun nr => ?_⟩
      · rw [List.mem_map] at hy
        obtain ⟨z, hz, rfl⟩ := hy
        obtain ⟨na', tb⟩ := hzs z hz
        exact (show IsTab (mset M' p (.lst (zs.map fun z => D.ref z.1))) z.1 (kindB bs z.2) from let ⟨k, t, e, q⟩ := tb; ⟨k, t, SubM.new hp _ _ e, q⟩).but bt na'
      · rw [efs] at w
        simp [isN, encLs]
        exact drops_to sb2 (q1 l ps hSl w)
      · rw [efs] at nr
        simp [isN]
        exact hN _ _ ⟨rfl, ⟨some (encL l), some .non, by rw [List.map_map]⟩, fun m hm => by
          rw [List.mem_append, List.mem_singleton] at hm
          rcases hm with hm | rfl
          · exact hno m hm
          · exact nr⟩
    · rintro ρ M3 ⟨rfl, ⟨x6, x7, rfl⟩, hno⟩
      refine ⟨_, _, .refl, .refl, ha, ?_⟩
      simp
      exact drops_to sb2 (q2 fun l hl => hno l ((hls l).mpr hl))
end F83

set_option Elab.async false
set_option linter.all false
set_option maxRecDepth 100000
set_option maxHeartbeats 4000000
namespace F83
open PySem PySem.Spec PyProof.Rows L2 Fw
structure SeqOk (nn : Nat) (bs : Bans) (ks : List Kd) (g : Kd) : Prop where
  bans : BsOk bs
  few : ks.length ≤ 1000
  kinds : ∀ k ∈ g :: ks, KdOk k ∧ k.dep < nn ∧ (fmtK k).length ≤ 100000
/-- a line that the goal bans is made up of lines that the premises allow -/
def Fails (bs : Bans) (ks : List Kd) (g : Kd) : Prop := ∃ l, kindB bs g l ∧ Reach (ks.map (kindB bs)) l l.length
def sp_fl (nn : Nat) : DSp := fun ds M Q => ∃ (bs : Bans) (ks : List Kd) (g : Kd), ds = [encB bs, encS ks g] ∧ SeqOk nn bs ks g ∧
  (∀ l ps, kindB bs g l → Way (ks.map (kindB bs)) l l.length ps → Q (encLs ps) M) ∧ (¬ Fails bs ks g → Q .non M)
theorem fl_ok (C : Addr) (nn : Nat) : ∀ ds M Q, sp_fl nn ds M Q → w_failing_lines C (sp_init C) (sp_failing C nn) (ends Q) (startD 2 ds) M := by
  rintro ds M Q ⟨bs, ks, g, rfl, ok, q1, q2⟩
  unfold w_failing_lines
  simp [-Bool.exists_bool]
  intro x hx
  refine ⟨x, bs, rfl, mset_same, fun d M' hd bt tr => ⟨rfl, ?_⟩⟩
  refine ⟨tFs bs d, tr.ins, fun a b hab => ?_, ?_⟩
  · simp at hab
    rcases hab with ⟨rfl, _⟩ | ⟨rfl, _⟩ <;> decide
  · have hdx : d ≠ x := fun e => by rw [e, mset_same] at hd; cases hd
    have nd : M d = none := by rw [mset_ne hdx] at hd; exact hd
    have sb : SubM M M' := fun b o e => by
      have hbx : b ≠ x := fun z => by rw [z, hx] at e; cases e
      exact bt b o hbx (by rw [mset_ne hbx]; exact e)
    exact ⟨x, d, bs, ks, g, M, rfl, tr, nd, sb, ok.bans, ok.few, ok.kinds, fun l ps h1 h2 => drops_of (q1 l ps h1 h2), fun h => drops_of (q2 fun ⟨l, h1, h2⟩ => h l h1 h2)⟩
def sp_holds (nn : Nat) : DSp := fun ds M Q => ∃ (bs : Bans) (ks : List Kd) (g : Kd), ds = [encB bs, encS ks g] ∧ SeqOk nn bs ks g ∧ ∀ b, (b = true ↔ ¬ Fails bs ks g) → Q (.bl b) M
theorem holds_ok (nn : Nat) : ∀ ds M Q, sp_holds nn ds M Q → w_holds (sp_fl nn) (ends Q) (startD 2 ds) M := by
  rintro ds M Q ⟨bs, ks, g, rfl, ok, q⟩
  unfold w_holds
  simp [-Bool.exists_bool]
  refine ⟨bs, ks, g, rfl, ok, fun l ps h1 h2 => ?_, fun h => ?_⟩
  · simp [isN, encLs]
    exact drops_of (q false (by
      constructor
      · intro h; cases h
      · intro h; exact absurd ⟨l, h1, ps, h2⟩ h))
  · simp [isN]
    exact drops_of (q true (by simp [h]))
end F83

set_option Elab.async false
set_option linter.all false
set_option maxRecDepth 100000
set_option maxHeartbeats 4000000
namespace F83
open PySem PySem.Spec PyProof.Rows L2 Fw
/-! orders of lines -/
def pyL (l : Line) : PyData := .tuple (l.map .int)
theorem pys_ints : ∀ l : Line, D.pys (l.map D.int) = some (l.map PyData.int)
  | [] => by simp [D.pys]
  | i :: l => by simp [D.pys, D.py, pys_ints l]
theorem py_encL (l : Line) : (encL l).py = some (pyL l) := by simp [encL, D.py, pys_ints, pyL]
theorem pyd_encL (l : Line) : (encL l).pyd = pyL l := by unfold D.pyd; rw [py_encL]; rfl
theorem lt_pyL (a b : Line) : PySem.W.dataLt (pyL a) (pyL b) = decide (a < b) := by
  have h := congrFun (congrFun (PySem.W.dataLe_rows (β := Line) id) b) a
  rw [PySem.W.dataLe_eq] at h
  have h2 : (!PySem.W.dataLt (.list (a.map .int)) (.list (b.map .int))) = decide (b ≤ a) := h
  have e : PySem.W.dataLt (pyL a) (pyL b) = PySem.W.dataLt (.list (a.map .int)) (.list (b.map .int)) := by
    unfold pyL; rw [PySem.W.dataLt_tuple, PySem.W.dataLt_list]
  rw [e]
  cases c : PySem.W.dataLt (.list (a.map .int)) (.list (b.map .int)) with
  | true =>
    rw [c] at h2
    have : ¬ b ≤ a := of_decide_eq_false h2.symm
    exact (decide_eq_true (List.not_le.mp this)).symm
  | false =>
    rw [c] at h2
    have : b ≤ a := of_decide_eq_true h2.symm
    exact (decide_eq_false (List.not_lt.mpr this)).symm
/-- the shortest first, those of one length ascending -/
def Kle (a b : Line) : Prop := a.length < b.length ∨ (a.length = b.length ∧ a ≤ b)
theorem Kle.trans {a b c : Line} (h : Kle a b) (h' : Kle b c) : Kle a c := by
  rcases h with h | ⟨h, g⟩ <;> rcases h' with h' | ⟨h', g'⟩
  · exact .inl (by omega)
  · exact .inl (by omega)
  · exact .inl (by omega)
  · exact .inr ⟨by omega, List.le_trans g g'⟩
theorem Kle.anti {a b : Line} (h : Kle a b) (h' : Kle b a) : a = b := by
  rcases h with h | ⟨h, g⟩ <;> rcases h' with h' | ⟨h', g'⟩
  · omega
  · omega
  · omega
  · exact List.le_antisymm g g'
theorem Kle.total (a b : Line) : Kle a b ∨ Kle b a := by
  by_cases h : a.length < b.length
  · exact .inl (.inl h)
  · by_cases h2 : b.length < a.length
    · exact .inr (.inl h2)
    · rcases List.le_total a b with g | g
      · exact .inl (.inr ⟨by omega, g⟩)
      · exact .inr (.inr ⟨by omega, g⟩)
theorem kle_uniq : ∀ {ls ms : List Line}, ls.Pairwise Kle → ms.Pairwise Kle → ls.Nodup → ms.Nodup → (∀ l, l ∈ ls ↔ l ∈ ms) → ls = ms
  | [], [], _, _, _, _, _ => rfl
  | [], m :: ms, _, _, _, _, h => absurd ((h m).mpr List.mem_cons_self) (by simp)
  | l :: ls, [], _, _, _, _, h => absurd ((h l).mp List.mem_cons_self) (by simp)
  | l :: ls, m :: ms, p1, p2, n1, n2, h => by
    rw [List.pairwise_cons] at p1 p2
    rw [List.nodup_cons] at n1 n2
    have e : l = m := by
      rcases List.mem_cons.mp ((h l).mp List.mem_cons_self) with e | h1
      · exact e
      · rcases List.mem_cons.mp ((h m).mpr List.mem_cons_self) with e | h2
        · exact e.symm
        · exact Kle.anti (p1.1 m h2) (p2.1 l h1)
    subst e
    rw [kle_uniq p1.2 p2.2 n1.2 n2.2 fun x => ?_]
    constructor
    · intro hx
      rcases List.mem_cons.mp ((h x).mp (List.mem_cons_of_mem _ hx)) with e | h1
      · subst e; exact absurd hx n1.1
      · exact h1
    · intro hx
      rcases List.mem_cons.mp ((h x).mpr (List.mem_cons_of_mem _ hx)) with e | h1
      · subst e; exact absurd hx n2.1
      · exact h1
/-! line_key -/
def sp_key : DSp := fun ds M Q => ∃ l : Line, ds = [encL l] ∧ Q (.tup [.int l.length, encL l]) M
theorem key_ok : ∀ ds M Q, sp_key ds M Q → w_line_key (ends Q) (startD 1 ds) M := by
  rintro ds M Q ⟨l, rfl, q⟩
  unfold w_line_key
  have h5 := sz5
  simp [-Bool.exists_bool]
  exact ⟨by omega, drops_of q⟩
def keyD : D → D
  | .tup l => .tup [.int l.length, .tup l]
  | d => d
theorem keyD_L (l : Line) : keyD (encL l) = .tup [.int l.length, encL l] := by unfold encL keyD; simp
theorem pyd_key (l : Line) : (keyD (encL l)).pyd = .tuple [.int l.length, pyL l] := by
  rw [keyD_L]
  unfold D.pyd
  simp [D.py, D.pys, py_encL]
theorem lt_key (a b : Line) : PySem.W.dataLt (.tuple [.int a.length, pyL a]) (.tuple [.int b.length, pyL b]) = decide (a.length < b.length ∨ (a.length = b.length ∧ a < b)) := by
  rw [PySem.W.dataLt_tuple]
  by_cases h : a.length = b.length
  · rw [PySem.W.dataLt_all_yes (by simp [PySem.W.alike]) (by simp [PyData.eqv, h])]
    have al : PySem.W.alike (pyL a) (pyL b) = true := by
      unfold pyL
      simp only [PySem.W.alike]
      have : ∀ a b : Line, PySem.W.alikeAll (a.map PyData.int) (b.map PyData.int) = true := by
        intro a
        induction a with
        | nil => intro b; simp [PySem.W.alikeAll]
        | cons x a ih => intro b; cases b with
          | nil => simp [PySem.W.alikeAll]
          | cons y b => simp [PySem.W.alikeAll, PySem.W.alike, ih]
      exact this a b
    cases c : PyData.eqv (pyL a) (pyL b) with
    | true =>
      rw [PySem.W.dataLt_all_yes al c]
      have e : a = b := by
        have := D.eqv_cl (encL a) (encL b) (pyL a) (pyL b) (encL_cl a) (encL_cl b) (py_encL a) (py_encL b)
        rw [c] at this
        exact encL_inj.mp (of_decide_eq_true this.symm)
      subst e
      rw [show decide (a.length < a.length ∨ (a.length = a.length ∧ a < a)) = false by simp [List.lt_irrefl]]
      exact lex_irrefl _
    | false =>
      rw [PySem.W.dataLt_all_no al c, lt_pyL]
      simp [h]
  · rw [PySem.W.dataLt_all_no (by simp [PySem.W.alike]) (by simp [PyData.eqv]; omega), PySem.W.dataLt_int]
    simp [h]
end F83

set_option Elab.async false
set_option linter.all false
set_option maxRecDepth 100000
set_option maxHeartbeats 4000000
namespace F83
open PySem PySem.Spec PyProof.Rows L2 Fw
theorem keys_py : ∀ ls : List Line, D.pys ((ls.map encL).map keyD) = some (ls.map fun l => PyData.tuple [.int l.length, pyL l])
  | [] => by simp [D.pys]
  | l :: ls => by
    have ih := keys_py ls
    simp only [List.map_cons, D.pys, ih]
    rw [keyD_L]
    simp [D.py, D.pys, py_encL]
theorem pyL_depth (l : Line) : (pyL l).depth = 1 := by
  unfold pyL
  have : ∀ l : Line, PyData.depthAll (l.map PyData.int) = 0 := by
    intro l; induction l with
    | nil => simp [PyData.depthAll]
    | cons x l ih => simp [PyData.depthAll, PyData.depth, ih]
  simp [PyData.depth, this]
theorem alike_ints : ∀ a b : Line, PySem.W.alikeAll (a.map PyData.int) (b.map PyData.int) = true := by
  intro a
  induction a with
  | nil => intro b; simp [PySem.W.alikeAll]
  | cons x a ih => intro b; cases b with
    | nil => simp [PySem.W.alikeAll]
    | cons y b => simp [PySem.W.alikeAll, PySem.W.alike, ih]
theorem sortOk_keys (ls : List Line) : SortOk ((ls.map encL).map keyD) := by
  refine ⟨_, keys_py ls, fun d hd d' hd' => ?_, .inl fun d hd => ?_, fun d hd => ?_⟩
  · rw [List.mem_map] at hd hd'
    obtain ⟨l, _, rfl⟩ := hd
    obtain ⟨m, _, rfl⟩ := hd'
    simp [PySem.W.alike, PySem.W.alikeAll, pyL, alike_ints]
  · rw [List.mem_map] at hd
    obtain ⟨l, _, rfl⟩ := hd
    exact ⟨_, _, rfl⟩
  · rw [List.mem_map] at hd
    obtain ⟨l, _, rfl⟩ := hd
    simp [PyData.depth, PyData.depthAll, pyL_depth]
theorem kle_le (a b : Line) : PySem.W.dataLe false (fun d => (keyD d).pyd) (encL a) (encL b) = true ↔ Kle a b := by
  rw [PySem.W.dataLe_eq]
  show (!PySem.W.dataLt (keyD (encL b)).pyd (keyD (encL a)).pyd) = true ↔ _
  rw [pyd_key, pyd_key, lt_key, Bool.not_eq_true', decide_eq_false_iff_not]
  unfold Kle
  constructor
  · intro h
    by_cases h1 : a.length < b.length
    · exact .inl h1
    · have h2 : ¬ b.length < a.length := fun z => h (.inl z)
      have h3 : a.length = b.length := by omega
      exact .inr ⟨h3, List.not_lt.mp fun z => h (.inr ⟨h3.symm, z⟩)⟩
  · rintro (h | ⟨h, g⟩) (z | ⟨z, y⟩)
    · omega
    · omega
    · omega
    · exact List.not_lt.mpr g y
/-- a list of lines, sorted as keys -/
theorem sort_keys (ls : List Line) (hn : ls.Nodup) : ∃ ms : List Line, (ls.map encL).mergeSort (PySem.W.dataLe false fun d => (keyD d).pyd) = ms.map encL ∧ ms.Pairwise Kle ∧ ms.Nodup ∧ ∀ l, l ∈ ms ↔ l ∈ ls := by
  have hp := List.mergeSort_perm (ls.map encL) (PySem.W.dataLe false fun d => (keyD d).pyd)
  obtain ⟨ms, e⟩ := enc_list (ds := (ls.map encL).mergeSort (PySem.W.dataLe false fun d => (keyD d).pyd)) fun d hd => by
    rw [hp.mem_iff, List.mem_map] at hd
    obtain ⟨l, _, rfl⟩ := hd
    exact ⟨l, rfl⟩
  have hs : ((ls.map encL).mergeSort (PySem.W.dataLe false fun d => (keyD d).pyd)).Pairwise (fun a b => PySem.W.dataLe false (fun d => (keyD d).pyd) a b = true) := PySem.W.sort_pairwise (PySem.W.sortLe_total _ _ _) _
  rw [e] at hs hp
  refine ⟨ms, e, ?_, ?_, fun l => ?_⟩
  · rw [List.pairwise_map] at hs
    exact hs.imp fun h => (kle_le _ _).mp h
  · have h1 : (ls.map encL).Nodup := by
      rw [List.Nodup, List.pairwise_map]
      exact hn.imp fun h e => h (encL_inj.mp e)
    have h2 := (hp.nodup_iff).mpr h1
    exact (List.pairwise_map.mp h2).imp fun h e => h (by rw [e])
  · rw [← mem_enc, hp.mem_iff, mem_enc]
@[simp] theorem y_sortK {sp : List D → Mem → DK → Prop} {we : WE} {ρ : Fw.Env} {M : Mem} {Q : DK} : wSortK sp we ρ M Q = we ρ M fun d M1 => ∃ xs, ∃ key : D → D, seqD d M1 = some xs ∧ SortOk (xs.map key) ∧ (∀ x ∈ xs, ∀ Q' : DK, Q' (key x) M1 → sp [x] M1 Q') ∧ ∀ p, M1 p = none → Q (.ref p) (mset M1 p (.lst (xs.mergeSort (PySem.W.dataLe false fun d => (key d).pyd)))) := rfl
def sp_bl (nn : Nat) : DSp := fun ds M Q => ∃ (bs : Bans) (k : Kd), ds = [encB bs, encK k] ∧ k.dep < nn ∧ BsOk bs ∧ ∀ ls : List Line, ls.Pairwise Kle → ls.Nodup → (∀ l, l ∈ ls ↔ kindB bs k l) → Q (.tup (ls.map encL)) M
theorem bl_ok (nn : Nat) : ∀ ds M Q, sp_bl nn ds M Q → w_banned_lines (sp_kind nn) sp_key (ends Q) (startD 2 ds) M := by
  rintro ds M Q ⟨bs, k, rfl, hd, bok, q⟩
  unfold w_banned_lines
  simp [-Bool.exists_bool]
  refine ⟨bs, k, rfl, hd, bok, fun p kvs t hp lt => ?_⟩
  obtain ⟨ls, e, hls, hn⟩ := lt.lines
  obtain ⟨ms, em, h1, h2, h3⟩ := sort_keys ls hn
  refine ⟨kvs.map (·.1), by unfold seqD; simp only [mset_same], keyD, by rw [e]; exact sortOk_keys ls, fun x hx Q' hQ => ?_, fun p2 hp2 => ?_⟩
  · rw [e, List.mem_map] at hx
    obtain ⟨l, _, rfl⟩ := hx
    exact ⟨l, rfl, by rw [← keyD_L]; exact hQ⟩
  · rw [y_tupL mset_same]
    refine drops_to (sub_two hp hp2) ?_
    rw [e, em]
    exact q ms h1 h2 fun l => by rw [h3, hls]
end F83

set_option Elab.async false
set_option linter.all false
set_option maxRecDepth 100000
set_option maxHeartbeats 4000000
namespace F83
open PySem PySem.Spec PyProof.Rows L2 Fw
/-! cells, pools, draws -/
@[simp] theorem y_int1 {i : Int} {M : Mem} {Q : DK} : dInt1 [.int i] M Q = Q (.int i) M := rfl
@[simp] theorem y_int1b {b : Bool} {M : Mem} {Q : DK} : dInt1 [.bl b] M Q = Q (.int (if b = true then 1 else 0)) M := rfl
@[simp] theorem y_abs {i : Int} {M : Mem} {Q : DK} : dAbs [.int i] M Q = Q (.int (if i < 0 then -i else i)) M := rfl
@[simp] theorem y_str1 {i : Int} {M : Mem} {Q : DK} : dStr1 [.int i] M Q = (i.natAbs.log2 < 1920 ∧ Q (.str (toString i)) M) := rfl
theorem at_nat {α : Type} {l : List α} {n : Nat} {a : α} (h : l[n]? = some a) : L2.atI l (n : Int) = some a := by
  have hl : n < l.length := (List.getElem?_eq_some_iff.mp h).1
  unfold L2.atI ixN
  rw [if_pos (by omega), if_pos (by omega)]
  simp [h]
def sp_cell : DSp := fun ds M Q => ∃ (a : Addr) (ns : List Int) (k : Nat), ds = [.ref a, .int k] ∧ M a = some (.rl (ns.map D.int)) ∧ ∀ i, Q (.int i) M
theorem cell_ok : ∀ ds M Q, sp_cell ds M Q → w__law_cell (ends Q) (startD 2 ds) M := by
  rintro ds M Q ⟨a, ns, k, rfl, ha, q⟩
  unfold w__law_cell
  simp [-Bool.exists_bool]
  rw [y_lenR ha]
  simp [-Bool.exists_bool]
  by_cases h : k < ns.length
  · rw [if_pos h, y_ixR ha]
    exact ⟨.int ns[k], at_nat (by rw [List.getElem?_map, List.getElem?_eq_getElem h]; rfl), drops_of (q _)⟩
  · rw [if_neg h]
    exact drops_of (q 0)
def sp_mix : DSp := fun ds M Q => ∃ x : Int, ds = [.int x] ∧ -(2 ^ 60) < x ∧ x < 2 ^ 60 ∧ ∀ i, 0 ≤ i → i < 998244353 → Q (.int i) M
theorem mix_ok : ∀ ds M Q, sp_mix ds M Q → w__law_mix (ends Q) (startD 1 ds) M := by
  rintro ds M Q ⟨x, rfl, h1, h2, q⟩
  unfold w__law_mix
  have hp := Int.emod_nonneg (x * x + 3 * x + 7919) (b := 1000003) (by decide)
  have hq := Int.emod_lt_of_pos (x * x + 3 * x + 7919) (b := 1000003) (by decide)
  simp [-Bool.exists_bool]
  generalize (x * x + 3 * x + 7919) % 1000003 = y at hp hq
  refine ⟨.inl ⟨by omega, by omega⟩, .inl ⟨by omega, by omega⟩, .inl ⟨by omega, by omega⟩, .inl ⟨by omega, by omega⟩, drops_of (q _ (Int.emod_nonneg _ (by decide)) (Int.emod_lt_of_pos _ (by decide)))⟩
structure PoolAt (M : Mem) (a : Addr) (n : Nat) : Prop where
  ex : ∃ p q r : Int, M a = some (.lst [.int p, .int q, .int r]) ∧ 0 ≤ p ∧ 0 ≤ q ∧ q < 2 ^ 50 ∧ 0 ≤ r ∧ r ≤ n
theorem PoolAt.more {M : Mem} {a : Addr} {n m : Nat} (p : PoolAt M a n) (h : n ≤ m) : PoolAt M a m := let ⟨x, y, z, a1, a2, a3, a4, a5, a6⟩ := p.ex; ⟨x, y, z, a1, a2, a3, a4, a5, by omega⟩
theorem PoolAt.sub {M M' : Mem} {a : Addr} {n : Nat} (s : SubM M M') (p : PoolAt M a n) : PoolAt M' a n := let ⟨x, y, z, a1, a2⟩ := p.ex; ⟨x, y, z, s _ _ a1, a2⟩
def sp_pool : DSp := fun ds M Q => ∃ (a : Addr) (ns : List Int) (k : Nat), ds = [.ref a, .int k] ∧ M a = some (.rl (ns.map D.int)) ∧ k ≤ 10 ∧ ∀ p M', M p = none → SubM M M' → PoolAt M' p 0 → (∀ b, b ≠ p → M' b = M b) → Q (.ref p) M'
theorem pool_ok : ∀ ds M Q, sp_pool ds M Q → w__law_pool sp_cell (ends Q) (startD 3 ds) M := by
  rintro ds M Q ⟨a, ns, k, rfl, ha, hk, q⟩
  unfold w__law_pool
  simp [-Bool.exists_bool]
  refine ⟨a, ns, k, rfl, ha, fun i => ?_⟩
  have cp : CPow 10 18 := ⟨by decide, by decide, by decide⟩
  simp [-Bool.exists_bool, cp]
  by_cases h : (1000000000000000000 : Int) ≤ i
  · rw [if_pos h]
    refine ⟨.inl ⟨by omega, by omega⟩, (by rw [sizeLine_eq]; decide), fun p hp => drops_of (q p _ hp (SubM.new hp) ⟨_, _, _, mset_same, by omega, by omega, by omega, by omega, by omega⟩ fun b hb => mset_ne hb)⟩
  · rw [if_neg h]
    have h1 := Int.emod_nonneg (if i < 0 then -i else i) (b := 2000000011) (by decide)
    have h2 := Int.emod_lt_of_pos (if i < 0 then -i else i) (b := 2000000011) (by decide)
    refine ⟨.inl ⟨by omega, by omega⟩, (by rw [sizeLine_eq]; decide), fun p hp => drops_of (q p _ hp (SubM.new hp) ⟨_, _, _, mset_same, by omega, by omega, by omega, by omega, by omega⟩ fun b hb => mset_ne hb)⟩
def sp_draw : DSp := fun ds M Q => ∃ (a : Addr) (n m : Nat), ds = [.ref a, .int m] ∧ PoolAt M a n ∧ n < 1000000 ∧ 1 ≤ m ∧ m ≤ 1000000 ∧ ∀ (d : Nat) M', d < m → (∀ b, b ≠ a → M' b = M b) → PoolAt M' a (n + 1) → Q (.int d) M'
theorem draw_ok : ∀ ds M Q, sp_draw ds M Q → w__law_draw sp_mix (ends Q) (startD 3 ds) M := by
  rintro ds M Q ⟨a, n, m, rfl, ⟨x, y, z, ha, hx, hy, hy2, hz, hzn⟩, hn, hm, hm2, q⟩
  unfold w__law_draw
  have g0 : L2.atI [D.int x, D.int y, D.int z] 0 = some (.int x) := rfl
  have g1 : L2.atI [D.int x, D.int y, D.int z] 1 = some (.int y) := rfl
  have g2 : L2.atI [D.int x, D.int y, D.int z] 2 = some (.int z) := rfl
  simp [-Bool.exists_bool]
  rw [y_ixL ha, g0]
  simp [-Bool.exists_bool]
  by_cases h : 0 < x
  · rw [if_pos h]
    rw [y_ixL ha, g0]
    simp [-Bool.exists_bool]
    refine ⟨by omega, ?_⟩
    rw [y_ixL ha, g0]
    simp [-Bool.exists_bool]
    refine ⟨⟨by omega, by omega⟩, ?_⟩
    rw [y_putL ha]
    have e1 := Int.emod_nonneg x (b := (m : Int)) (by omega)
    have e2 := Int.emod_lt_of_pos x (b := (m : Int)) (by omega)
    obtain ⟨d, hd⟩ : ∃ d : Nat, x % (m : Int) = d := ⟨(x % (m : Int)).toNat, by omega⟩
    refine ⟨0, 0, rfl, rfl, ?_⟩
    rw [hd]
    exact drops_of (q d _ (by omega) (fun b hb => mset_ne hb) ⟨_, y, z, mset_same, Int.ediv_nonneg hx (by omega), hy, hy2, hz, by omega⟩)
  · rw [if_neg h]
    rw [y_ixL ha, g2]
    simp [-Bool.exists_bool]
    rw [y_putL ha]
    refine ⟨2, 2, rfl, rfl, ?_⟩
    have ha' : mset M a (.lst ([D.int x, D.int y, D.int z].set 2 (.int (z + 1)))) a = some (.lst [.int x, .int y, .int (z + 1)]) := mset_same
    have g1' : L2.atI [D.int x, D.int y, D.int (z + 1)] 1 = some (.int y) := rfl
    have g2' : L2.atI [D.int x, D.int y, D.int (z + 1)] 2 = some (.int (z + 1)) := rfl
    rw [y_ixL ha', g1']
    simp only [Option.some.injEq, exists_eq_left']
    rw [y_ixL ha', g2']
    simp [-Bool.exists_bool]
    refine ⟨.inl ⟨by omega, by omega⟩, _, rfl, by omega, by omega, fun i hi hi2 => ?_⟩
    simp [-Bool.exists_bool]
    have e1 := Int.emod_nonneg (i / 8) (b := (m : Int)) (by omega)
    have e2 := Int.emod_lt_of_pos (i / 8) (b := (m : Int)) (by omega)
    obtain ⟨d, hd⟩ : ∃ d : Nat, i / 8 % (m : Int) = d := ⟨(i / 8 % (m : Int)).toNat, by omega⟩
    refine ⟨⟨by decide, by decide⟩, by omega, ?_⟩
    rw [hd]
    exact drops_of (q d _ (by omega) (fun b hb => mset_ne hb) ⟨x, y, z + 1, mset_same, hx, hy, hy2, by omega, by omega⟩)
end F83

set_option Elab.async false
set_option linter.all false
set_option maxRecDepth 100000
set_option maxHeartbeats 4000000
namespace F83
open PySem PySem.Spec PyProof.Rows L2 Fw
/-! the texts of numbers -/
theorem digs_in : ∀ d, d < 10 → (48 + d) ∈ digs.cps.toList := by decide
theorem num_digits : ∀ (k n : Nat), n < 10 ^ k → 0 < n → ∃ h t, TL.numL n = h :: t ∧ h ≠ 48 ∧ (h :: t).length ≤ k ∧ ∀ c ∈ h :: t, c ∈ digs.cps.toList
  | 0, n, h, h0 => by simp at h; omega
  | k + 1, n, h, h0 => by
    by_cases h10 : n < 10
    · exact ⟨48 + n, [], TL.numL_lt h10, by omega, by simp, fun c hc => by rw [List.mem_singleton] at hc; subst hc; exact digs_in n h10⟩
    · obtain ⟨x, t, e, hx, hl, hd⟩ := num_digits k (n / 10) (by rw [Nat.pow_succ] at h; omega) (by omega)
      refine ⟨x, t ++ [48 + n % 10], by rw [TL.numL_step (by omega), e]; rfl, hx, ?_, fun c hc => ?_⟩
      · simp at hl ⊢; omega
      · rw [← List.cons_append, List.mem_append, List.mem_singleton] at hc
        rcases hc with hc | rfl
        · exact hd c hc
        · exact digs_in _ (Nat.mod_lt _ (by decide))
/-! drawn atoms -/
def Base (z : PySem.Str) (n : Nat) : Prop := ∃ c r, z.cps.toList = c :: r ∧ c ∈ lets.cps.toList ∧ (∀ x ∈ c :: r, okCh x = true) ∧ r.length = n
theorem ok_dot {c : Nat} (h : okCh c = true) : c ≠ 46 ∧ c ≠ 32 ∧ c ≠ 40 ∧ c ≠ 41 := by
  have : ∀ x ∈ lets.cps.toList ++ digs.cps.toList, x ≠ 46 ∧ x ≠ 32 ∧ x ≠ 40 ∧ x ≠ 41 := by decide
  unfold okCh at h
  rw [Bool.or_eq_true, decide_eq_true_eq, decide_eq_true_eq] at h
  exact this c (List.mem_append.mpr h)
theorem tw_all {p : Nat → Bool} : ∀ {l : List Nat}, (∀ x ∈ l, p x = true) → ∀ r, (l ++ r).takeWhile p = l ++ r.takeWhile p ∧ (l ++ r).dropWhile p = r.dropWhile p
  | [], _, r => ⟨rfl, rfl⟩
  | x :: l, h, r => by
    have hx := h x List.mem_cons_self
    have ih := tw_all (l := l) (fun y hy => h y (List.mem_cons_of_mem _ hy)) r
    rw [List.cons_append, List.takeWhile_cons, List.dropWhile_cons, if_pos hx, if_pos hx, ih.1, ih.2]
    exact ⟨rfl, rfl⟩
theorem base_cut {z : PySem.Str} {n : Nat} (h : Base z n) (t : List Nat) : (z.cps.toList ++ t).takeWhile (fun c => decide (c ≠ 46)) = z.cps.toList ++ t.takeWhile (fun c => decide (c ≠ 46)) ∧ (z.cps.toList ++ t).dropWhile (fun c => decide (c ≠ 46)) = t.dropWhile (fun c => decide (c ≠ 46)) := by
  obtain ⟨c, r, e, hc, hall, hr⟩ := h
  exact tw_all (fun x hx => decide_eq_true (ok_dot (hall x (by rw [← e]; exact hx))).1) t
theorem base_atom {z y : PySem.Str} {n : Nat} (h : Base z n) (hn : n ≤ 7) (hu : upTo y = z.cps.toList) (ht : onFrom y = [] ∨ isNum (strOf (onFrom y).tail) = true) : isAtom y = true := by
  obtain ⟨c, r, e, hc, hall, hr⟩ := h
  unfold isAtom
  rw [hu, e]
  have h1 : ¬ (c :: r).length < 1 := by simp
  have h2 : ¬ 8 < (c :: r).length := by simp; omega
  have h3 : (c :: r).all okCh = true := List.all_eq_true.mpr hall
  simp only [h1, h2, hc, h3, decide_false, decide_true, Bool.not_false, Bool.true_and, Bool.or_eq_true, decide_eq_true_eq]
  exact ht
theorem base_plain {z : PySem.Str} {n : Nat} (h : Base z n) (hn : n ≤ 7) : isAtom z = true := by
  have := base_cut h []
  simp only [List.append_nil, List.takeWhile_nil, List.dropWhile_nil] at this
  exact base_atom h hn this.1 (.inl this.2)
theorem base_num {z : PySem.Str} {n m : Nat} (h : Base z n) (hn : n ≤ 7) (hm : 0 < m) (hm2 : m < 10 ^ 6) : isAtom (z ++ Str.ofString "." ++ Str.ofString (toString ((m : Nat) : Int))) = true ∧ (Str.ofString (toString ((m : Nat) : Int))).length ≤ 6 := by
  obtain ⟨x, t, e, hx, hl, hd⟩ := num_digits 6 m hm2 hm
  have en : TL.tl (Str.ofString (toString ((m : Nat) : Int))) = x :: t := by rw [TL.tl_num, e]
  have ed : TL.tl (Str.ofString ".") = [46] := by decide
  have ey : (z ++ Str.ofString "." ++ Str.ofString (toString ((m : Nat) : Int))).cps.toList = z.cps.toList ++ 46 :: (x :: t) := by
    show TL.tl _ = _
    rw [TL.tl_append, TL.tl_append, en, ed]
    simp
  have hc := base_cut h (46 :: (x :: t))
  have hu : upTo (z ++ Str.ofString "." ++ Str.ofString (toString ((m : Nat) : Int))) = z.cps.toList := by
    unfold upTo; rw [ey, hc.1]; simp
  have ho : onFrom (z ++ Str.ofString "." ++ Str.ofString (toString ((m : Nat) : Int))) = 46 :: (x :: t) := by
    unfold onFrom; rw [ey, hc.2]; simp
  refine ⟨base_atom h hn hu (.inr ?_), by rw [← len_cps]; show (TL.tl _).length ≤ 6; rw [en]; exact hl⟩
  rw [ho]
  unfold isNum
  have hs : (strOf (List.tail (46 :: (x :: t)))).cps.toList = x :: t := rfl
  have h1 : ¬ (strOf (List.tail (46 :: (x :: t)))).length < 1 := by rw [strOf_len]; simp
  have h2 : ¬ 6 < (strOf (List.tail (46 :: (x :: t)))).length := by rw [strOf_len]; simp at hl ⊢; omega
  have h3 : (x :: t).all (fun c => decide (c ∈ digs.cps.toList)) = true := List.all_eq_true.mpr fun c hc => decide_eq_true (hd c hc)
  rw [hs]
  simp only [h1, h2, hx, h3, decide_false, Bool.not_false, Bool.true_and]
theorem atom_chars {z : PySem.Str} (h : isAtom z = true) : AtOk z ∧ z.cps.toList ≠ [] := by
  unfold isAtom at h
  simp only [Bool.and_eq_true, Bool.or_eq_true, decide_eq_true_eq] at h
  obtain ⟨⟨_, h1⟩, h2⟩ := h
  have hsp : z.cps.toList = upTo z ++ onFrom z := (List.takeWhile_append_dropWhile ..).symm
  cases hu : upTo z with
  | nil => rw [hu] at h1; cases h1
  | cons c r =>
    rw [hu] at h1
    simp only [Bool.and_eq_true] at h1
    refine ⟨fun x hx => ?_, by rw [hsp, hu]; simp⟩
    rw [hsp, List.mem_append] at hx
    rcases hx with hx | hx
    · rw [hu] at hx
      exact (ok_dot (List.all_eq_true.mp h1.2 x hx)).2
    · rcases h2 with h2 | h2
      · rw [h2] at hx; cases hx
      · cases ho : onFrom z with
        | nil => rw [ho] at hx; cases hx
        | cons d q =>
          rw [ho] at hx h2
          have hd : d = 46 := by
            have := List.head_dropWhile_not (fun c => decide (c ≠ 46)) (l := z.cps.toList) (by show onFrom z ≠ []; rw [ho]; simp)
            have h3 : (onFrom z).head (by rw [ho]; simp) = d := by simp [ho]
            unfold onFrom at h3
            rw [h3] at this
            simpa using this
          rcases List.mem_cons.mp hx with rfl | hx
          · rw [hd]; decide
          · unfold isNum at h2
            simp only [Bool.and_eq_true] at h2
            have h4 := h2.2
            have hs : (strOf (List.tail (d :: q))).cps.toList = q := rfl
            rw [hs] at h4
            cases q with
            | nil => cases hx
            | cons y q =>
              simp only [Bool.and_eq_true] at h4
              have h5 := List.all_eq_true.mp h4.2 x hx
              exact (ok_dot (c := x) (by unfold okCh; rw [h5, Bool.or_true])).2
def sp_anyAtom : DSp := fun ds M Q => ∃ (a : Addr) (n : Nat), ds = [.ref a] ∧ PoolAt M a n ∧ n + 20 < 1000000 ∧ ∀ (z : PySem.Str) M', isAtom z = true → z.length ≤ 20 → (∀ b, b ≠ a → M' b = M b) → PoolAt M' a (n + 11) → Q (.str z) M'
theorem at_some {α : Type} {l : List α} {n : Nat} (h : n < l.length) : L2.atI l (n : Int) = some l[n] := at_nat (List.getElem?_eq_getElem h)
theorem anyAtom_ok : ∀ ds M Q, sp_anyAtom ds M Q → w__law_any_atom sp_draw (ends Q) (startD 4 ds) M := by
  rintro ds M Q ⟨a, n, rfl, hp, hn, q⟩
  have h5 := sz5
  unfold w__law_any_atom
  have l1 : (Str.ofString "abcdefghijklmnopqrstuvwxyz").length = 26 := by decide
  have l2 : (Str.ofString "0123456789").length = 10 := by decide
  have t1 : (Str.ofString "abcdefghijklmnopqrstuvwxyz").cps.toList.length = 26 := by decide
  have t2 : (Str.ofString "abcdefghijklmnopqrstuvwxyz" ++ Str.ofString "0123456789").cps.toList = lets.cps.toList ++ digs.cps.toList := by
    show TL.tl _ = _
    rw [TL.tl_append]
  simp [-Bool.exists_bool]
  refine ⟨a, n, 26, rfl, hp, by omega, by omega, by omega, fun d M1 hd b1 p1 => ?_⟩
  simp [-Bool.exists_bool, -Array.length_toList]
  rw [at_some (by rw [t1]; exact hd)]
  refine ⟨by omega, _, rfl, ?_⟩
  refine ⟨a, n + 1, 8, rfl, p1, by omega, by omega, by omega, fun m M2 hm b2 p2 => ?_⟩
  simp [-Bool.exists_bool, -Array.length_toList]
  refine ⟨rg (i := 0) (j := m) (by omega) (by omega), ?_⟩
  have hget : (Str.ofString "abcdefghijklmnopqrstuvwxyz").cps[d]'(by rw [← Array.length_toList, t1]; exact hd) ∈ lets.cps.toList := by
    rw [← Array.getElem_toList]; exact List.getElem_mem _
  have hB : Base ⟨#[(Str.ofString "abcdefghijklmnopqrstuvwxyz").cps[d]'(by rw [← Array.length_toList, t1]; exact hd)]⟩ 0 := ⟨_, [], rfl, hget, fun x hx => by
    rw [List.mem_singleton] at hx
    subst hx
    unfold okCh
    rw [decide_eq_true hget, Bool.true_or], rfl⟩
  refine loop_range (lo := 0) (n := m) (fun i ρ M' => ∃ z x3, ρ = [some (.ref a), some (.str (Str.ofString "abcdefghijklmnopqrstuvwxyz")), some (.str z), x3] ∧ Base z i ∧ (∀ b, b ≠ a → M' b = M b) ∧ PoolAt M' a (n + 2 + i)) ⟨_, none, rfl, hB, fun b hb => by rw [b2 b hb, b1 b hb], p2⟩ ?_ ?_
  · rintro i hi ρ M3 ⟨z, x3, rfl, bz, b3, p3⟩ N hN
    refine ⟨_, _, .refl, .refl, trivial, ?_⟩
    unfold w__law_any_atom_1
    have lz : z.length = i + 1 := by
      obtain ⟨c, r, e, _, _, hr⟩ := bz
      rw [← len_cps, e]; simp [hr]
    simp [-Bool.exists_bool, -Array.length_toList, l1, l2]
    refine ⟨by omega, a, n + 2 + i, 36, rfl, p3, by omega, by omega, by omega, fun e M4 he b4 p4 => ?_⟩
    have hlen : (lets.cps.toList ++ digs.cps.toList).length = 36 := by decide
    simp [-Bool.exists_bool, -Array.length_toList, len_app, l1, l2, -Array.toList_append]
    rw [t2, at_some (by rw [hlen]; exact he)]
    refine ⟨by omega, _, rfl, ?_⟩
    have l4 : (⟨#[(lets.cps.toList ++ digs.cps.toList)[e]'(by rw [hlen]; exact he)]⟩ : PySem.Str).length = 1 := rfl
    simp [-Bool.exists_bool, -Array.length_toList, len_app, lz, -Array.toList_append]
    refine ⟨by omega, hN _ _ ⟨_, _, rfl, ?_, fun b hb => by rw [b4 b hb, b3 b hb], p4⟩⟩
    obtain ⟨c, r, ez, hc, hall, hr⟩ := bz
    have hmem : (lets.cps.toList ++ digs.cps.toList)[e]'(by rw [hlen]; exact he) ∈ lets.cps.toList ++ digs.cps.toList := List.getElem_mem _
    refine ⟨c, r ++ [_], by show TL.tl _ = _; rw [TL.tl_append]; show z.cps.toList ++ [_] = _; rw [ez]; rfl, hc, fun x hx => ?_, by simp [hr]⟩
    rw [← List.cons_append, List.mem_append, List.mem_singleton] at hx
    rcases hx with hx | rfl
    · exact hall x hx
    · unfold okCh
      rw [Bool.or_eq_true, decide_eq_true_eq, decide_eq_true_eq]
      exact List.mem_append.mp hmem
  · rintro ρ M3 ⟨z, x3, rfl, bz, b3, p3⟩
    refine ⟨_, _, .refl, .refl, trivial, ?_⟩
    have lz : z.length = m + 1 := by
      obtain ⟨c, r, e, _, _, hr⟩ := bz
      rw [← len_cps, e]; simp [hr]
    simp [-Bool.exists_bool]
    refine ⟨a, n + 2 + m, 4, rfl, p3, by omega, by omega, by omega, fun e M4 he b4 p4 => ?_⟩
    simp [-Bool.exists_bool]
    by_cases h3 : (e : Int) = 3
    · rw [if_pos h3]
      have ld : (Str.ofString ".").length = 1 := by decide
      simp [-Bool.exists_bool, lz, ld]
      refine ⟨by omega, a, n + 2 + m + 1, 999999, rfl, p4, by omega, by omega, by omega, fun f M5 hf b5 p5 => ?_⟩
      have ef : (1 : Int) + (f : Int) = ((1 + f : Nat) : Int) := by omega
      obtain ⟨g1, g2⟩ := base_num (m := 1 + f) bz (by omega) (by omega) (by omega)
      have g3 := g2
      simp [-Int.natCast_add] at g3
      simp [-Bool.exists_bool, -Int.natCast_add, ef, len_app, lz, ld]
      refine ⟨?_, by omega, ?_⟩
      · have : Nat.log2 (1 + f) ≤ 1 + f := Nat.log2_le_self _
        have h2 : Nat.log2 (1 + f) < 20 := (Nat.log2_lt (by omega)).mpr (by omega)
        omega
      · exact drops_of (q _ _ g1 (by rw [len_app, len_app, lz, ld]; omega) (fun b hb => by rw [b5 b hb, b4 b hb, b3 b hb]) (p5.more (by omega)))
    · rw [if_neg h3]
      exact drops_of (q z _ (base_plain bz (by omega)) (by omega) (fun b hb => by rw [b4 b hb, b3 b hb]) (p4.more (by omega)))
end F83

set_option Elab.async false
set_option linter.all false
set_option maxRecDepth 100000
set_option maxHeartbeats 4000000
namespace F83
open PySem PySem.Spec PyProof.Rows L2 Fw
/-! drawn kinds -/
def KdN (names : List PySem.Str) : Kd → Prop
  | .at a => a ∈ names
  | .op s l r => (s = over ∨ s = under ∨ s = star) ∧ KdN names l ∧ KdN names r
def Kd.cnt : Kd → Nat
  | .at _ => 1
  | .op _ l r => l.cnt + r.cnt
theorem cnt_pos : ∀ k : Kd, 1 ≤ k.cnt
  | .at _ => Nat.le_refl _
  | .op _ l r => by have := cnt_pos l; show 1 ≤ l.cnt + r.cnt; omega
theorem dep_cnt : ∀ k : Kd, k.dep < k.cnt
  | .at _ => Nat.zero_lt_one
  | .op _ l r => by
    have h1 := dep_cnt l
    have h2 := dep_cnt r
    have h3 := cnt_pos l
    have h4 := cnt_pos r
    show max l.dep r.dep + 1 < l.cnt + r.cnt
    omega
def sp_lkind (N : Nat) : DSp := fun ds M Q => ∃ (a b : Addr) (n sz : Nat) (names : List PySem.Str), ds = [.ref a, .ref b, .int sz] ∧ b ≠ a ∧ PoolAt M a n ∧ M b = some (.lst (names.map D.str)) ∧ names ≠ [] ∧ names.length ≤ 1000 ∧ 1 ≤ sz ∧ sz < N ∧ sz ≤ 1000 ∧ n + 3 * sz < 900000 ∧
  ∀ (k : Kd) M', KdN names k → k.cnt ≤ sz → (∀ c, c ≠ a → M' c = M c) → PoolAt M' a (n + (3 * sz - 2)) → Q (encK k) M'
theorem sign_at {e : Nat} (h : e < 3) : ∃ c, L2.atI (Str.ofString "/>*").cps.toList (e : Int) = some c ∧ ((⟨#[c]⟩ : PySem.Str) = over ∨ (⟨#[c]⟩ : PySem.Str) = under ∨ (⟨#[c]⟩ : PySem.Str) = star) := by
  match e, h with
  | 0, _ => exact ⟨47, by decide, .inl (by decide)⟩
  | 1, _ => exact ⟨62, by decide, .inr (.inl (by decide))⟩
  | 2, _ => exact ⟨42, by decide, .inr (.inr (by decide))⟩
theorem lkind_ok (N : Nat) : ∀ ds M Q, sp_lkind (N + 1) ds M Q → w__law_kind sp_draw (sp_lkind N) (ends Q) (startD 6 ds) M := by
  rintro ds M Q ⟨a, b, n, sz, names, rfl, hba, hp, hb, hne, hnl, h1, h2, h3, h4, q⟩
  have h5 := sz5
  have hnp : 0 < names.length := List.length_pos_iff.mpr hne
  unfold w__law_kind
  simp [-Bool.exists_bool]
  by_cases hs : sz = 1
  · subst hs
    simp [-Bool.exists_bool]
    rw [y_lenL hb]
    refine ⟨a, n, names.length, by simp, hp, by omega, by omega, by omega, fun d M1 hd b1 p1 => ?_⟩
    show dIxA (.ref b) (.int d) M1 _
    rw [y_ixL (show M1 b = _ from (b1 b hba).trans hb)]
    refine ⟨.str names[d], at_nat (by rw [List.getElem?_map, List.getElem?_eq_getElem hd]; rfl), drops_of (q (.at names[d]) _ (List.getElem_mem _) (Nat.le_refl _) b1 p1)⟩
  · rw [if_neg (by omega)]
    have e1 : ((sz : Int) - 1) = ((sz - 1 : Nat) : Int) := by omega
    refine ⟨a, n, sz - 1, by rw [e1], hp, by omega, by omega, by omega, fun d M1 hd b1 p1 => ?_⟩
    simp [-Bool.exists_bool]
    refine ⟨a, n + 1, 3, rfl, p1, by omega, by omega, by omega, fun e M2 he b2 p2 => ?_⟩
    obtain ⟨c, hc, hs3⟩ := sign_at he
    have l3 : (Str.ofString "/>*").length = 3 := by decide
    simp [-Bool.exists_bool, hc, l3]
    have e2 : ((1 : Int) + (d : Int)) = ((1 + d : Nat) : Int) := by omega
    refine ⟨by omega, a, b, n + 2, 1 + d, names, by rw [e2], hba, p2, by rw [b2 b hba, b1 b hba]; exact hb, hne, hnl, by omega, by omega, by omega, by omega, fun k1 M3 kn1 kc1 b3 p3 => ?_⟩
    simp [-Bool.exists_bool]
    have e3 : ((sz : Int) - (1 + (d : Int))) = ((sz - (1 + d) : Nat) : Int) := by omega
    refine ⟨a, b, n + 2 + (3 * (1 + d) - 2), sz - (1 + d), names, by rw [e3], hba, p3, by rw [b3 b hba, b2 b hba, b1 b hba]; exact hb, hne, hnl, by omega, by omega, by omega, by omega, fun k2 M4 kn2 kc2 b4 p4 => ?_⟩
    refine ⟨by omega, drops_of (q (.op ⟨#[c]⟩ k1 k2) _ ⟨hs3, kn1, kn2⟩ (by show k1.cnt + k2.cnt ≤ sz; omega) (fun x hx => by rw [b4 x hx, b3 x hx, b2 x hx, b1 x hx]) (p4.more (by omega)))⟩
end F83

set_option Elab.async false
set_option linter.all false
set_option maxRecDepth 100000
set_option maxHeartbeats 4000000
namespace F83
open PySem PySem.Spec PyProof.Rows L2 Fw
def sp_isint : DSp := fun ds M Q => ∃ i : Int, ds = [.int i] ∧ Q (.bl true) M
theorem isint_ok : ∀ ds M Q, sp_isint ds M Q → w__law_is_integer (ends Q) (startD 1 ds) M := by
  rintro ds M Q ⟨i, rfl, q⟩
  unfold w__law_is_integer
  simp [-Bool.exists_bool]
  exact drops_of q
def sp_truth : DSp := fun ds M Q => ∃ b c : Bool, ds = [.bl b, .bl c] ∧ Q (.bl (decide (b = c))) M
theorem truth_ok : ∀ ds M Q, sp_truth ds M Q → w__law_is_truth (ends Q) (startD 2 ds) M := by
  rintro ds M Q ⟨b, c, rfl, q⟩
  unfold w__law_is_truth
  simp [-Bool.exists_bool]
  exact drops_of (by simpa using q)
/-- told the same twice -/
def sp_places : DSp := fun ds M Q => ∃ l : Line, ds = [encL l, encL l] ∧ l.length ≤ 1000 ∧ Q (.bl true) M
theorem ixL_at {l : Line} {i : Nat} (h : i < l.length) {M : Mem} {Q : DK} : dIxA (encL l) (.int (i : Int)) M Q = Q (.int l[i]) M := by
  show (∃ d, L2.atI (l.map D.int) (i : Int) = some d ∧ Q d M) = _
  rw [at_nat (a := D.int l[i]) (by rw [List.getElem?_map, List.getElem?_eq_getElem h]; rfl)]
  simp
theorem places_ok : ∀ ds M Q, sp_places ds M Q → w__law_is_places sp_isint (ends Q) (startD 3 ds) M := by
  rintro ds M Q ⟨l, rfl, hl, q⟩
  unfold w__law_is_places
  simp [-Bool.exists_bool]
  refine ⟨rg (i := 0) (by omega) (by omega), ?_⟩
  refine loop_range (lo := 0) (n := l.length) (fun i ρ M' => M' = M ∧ ∃ x, ρ = [some (encL l), some (encL l), x]) ⟨rfl, none, rfl⟩ ?_ ?_
  · rintro i hi ρ M' ⟨rfl, x, rfl⟩ N hN
    refine ⟨_, _, .refl, .refl, trivial, ?_⟩
    unfold w__law_is_places_1
    simp [-Bool.exists_bool, ixL_at hi]
    refine ⟨l[i], rfl, ?_⟩
    simp [-Bool.exists_bool]
    exact hN _ _ ⟨rfl, _, rfl⟩
  · rintro ρ M' ⟨rfl, x, rfl⟩
    refine ⟨_, _, .refl, .refl, trivial, ?_⟩
    simp
    exact drops_of q
/-! the law's own bans -/
theorem ixP {p : PySem.Str × List Line} {M : Mem} {Q : DK} : dIxA (encP p) (.int 1) M Q = Q (.tup (p.2.map encL)) M := by
  show (∃ d, L2.atI [D.str p.1, D.tup (p.2.map encL)] 1 = some d ∧ Q d M) = _
  rw [show L2.atI [D.str p.1, D.tup (p.2.map encL)] 1 = some (D.tup (p.2.map encL)) from rfl]
  simp
theorem ixP0 {p : PySem.Str × List Line} {M : Mem} {Q : DK} : dIxA (encP p) (.int 0) M Q = Q (.str p.1) M := by
  show (∃ d, L2.atI [D.str p.1, D.tup (p.2.map encL)] 0 = some d ∧ Q d M) = _
  rw [show L2.atI [D.str p.1, D.tup (p.2.map encL)] 0 = some (D.str p.1) from rfl]
  simp
def sp_str : DSp := fun ds M Q => ∃ (bs : Bans), ds = [encB bs] ∧ BsOk bs ∧ ∀ p kvs t, M p = none → LT kvs (strB bs) → Q (.ref p) (mset M p (.dict kvs t))
theorem str_ok : ∀ ds M Q, sp_str ds M Q → w__law_stretches (ends Q) (startD 6 ds) M := by
  rintro ds M Q ⟨bs, rfl, ok, q⟩
  obtain ⟨U, hU, hin⟩ := ok.uni
  unfold w__law_stretches
  simp [-Bool.exists_bool]
  intro p ta tb hp
  refine fill_map (xs := bs) (M := M) (enc := encL) (U := U) (p := p) (S := fun _ => False) (R := fun ρ => ∃ x2 x3 x4 x5, ρ = [some (encB bs), some (.ref p), x2, x3, x4, x5]) encP (fun q l => ∃ m ∈ q.2, ∃ i, i < m.length ∧ ∃ j, i + 1 ≤ j ∧ j ≤ m.length ∧ l = (m.take j).drop i) (fun _ _ => trivial) (.start ⟨_, _, _, _, rfl⟩ hp) ?_ ?_
  · intro pr hq S' ρ M' s N hN
    obtain ⟨x2, x3, x4, x5, rfl⟩ := s.env
    unfold w__law_stretches_4
    simp [-Bool.exists_bool, ixP]
    refine fill_map (xs := pr.2) (M := M) (enc := encL) (U := U) (p := p) (S := S') (R := fun ρ => ∃ x3 x4 x5, ρ = [some (encB bs), some (.ref p), some (encP pr), x3, x4, x5]) encL (fun m l => ∃ i, i < m.length ∧ ∃ j, i + 1 ≤ j ∧ j ≤ m.length ∧ l = (m.take j).drop i) (fun _ _ => trivial) ⟨⟨_, _, _, rfl⟩, s.sub, s.tab, s.bnd⟩ ?_ ?_
    · intro m hm S1 ρ M1 s N1 hN1
      obtain ⟨x3, x4, x5, rfl⟩ := s.env
      have hml := (ok.len _ hq m hm).2
      unfold w__law_stretches_3
      simp [-Bool.exists_bool]
      refine ⟨rg (i := 0) (by omega) (by omega), ?_⟩
      refine fill_range (lo := 0) (n := m.length) (p := p) (M := M) (enc := encL) (U := U) (S := S1) (R := fun ρ => ∃ x4 x5, ρ = [some (encB bs), some (.ref p), some (encP pr), some (encL m), x4, x5]) (fun i l => ∃ j, i + 1 ≤ j ∧ j ≤ m.length ∧ l = (m.take j).drop i) (fun _ _ => trivial) ⟨⟨_, _, rfl⟩, s.sub, s.tab, s.bnd⟩ ?_ ?_
      · intro i _ hi S2 ρ M2 s N2 hN2
        obtain ⟨x4, x5, rfl⟩ := s.env
        unfold w__law_stretches_2
        simp [-Bool.exists_bool]
        have e1 : (((m.length : Nat) : Int) + 1 - ((i : Int) + 1)).toNat = m.length - i := by omega
        refine ⟨by unfold RgOk2; omega, ?_⟩
        try rw [e1]
        refine fill_range (lo := i + 1) (n := m.length - i) (p := p) (M := M) (enc := encL) (U := U) (S := S2) (R := fun ρ => ∃ x5, ρ = [some (encB bs), some (.ref p), some (encP pr), some (encL m), some (.int (i : Int)), x5]) (fun j l => l = (m.take j).drop i) (fun _ _ => trivial) ⟨⟨_, rfl⟩, s.sub, s.tab, s.bnd⟩ ?_ ?_
        · intro j h1 h2 S3 ρ M3 s N3 hN3
          obtain ⟨x5, rfl⟩ := s.env
          unfold w__law_stretches_1
          simp [-Bool.exists_bool]
          exact s.put (R' := fun ρ => ∃ x5, ρ = [some (encB bs), some (.ref p), some (encP pr), some (encL m), some (.int (i : Int)), x5]) encL_ok hU hp (hin _ ⟨_, hq, m, hm, i, j, by omega, by omega, rfl⟩) ⟨_, rfl⟩ fun M'' s => hN3 _ _ s
        · intro ρ M3 s
          exact hN2 _ _ ((s.env' fun ρ ⟨z, h⟩ => ⟨_, z, h⟩).congr fun l => or_congr Iff.rfl ⟨fun ⟨j, h1, h2, h3⟩ => ⟨j, h1, by omega, h3⟩, fun ⟨j, h1, h2, h3⟩ => ⟨j, h1, by omega, h3⟩⟩)
      · intro ρ M2 s
        exact hN1 _ _ ((s.env' fun ρ ⟨y, z, h⟩ => ⟨_, y, z, h⟩).congr fun l => or_congr Iff.rfl ⟨fun ⟨i, h1, h2, h3⟩ => ⟨i, by omega, h3⟩, fun ⟨i, h2, h3⟩ => ⟨i, by omega, by omega, h3⟩⟩)
    · intro ρ M1 s
      exact hN _ _ (s.env' fun ρ ⟨x, y, z, h⟩ => ⟨_, x, y, z, h⟩)
  · intro ρ M' s
    obtain ⟨x2, x3, x4, x5, rfl⟩ := s.env
    obtain ⟨kvs, t, hm, kt⟩ := s.tab
    simp
    refine drops_to (s.sub.to hm) (q p kvs t hp ((KTlt kt).congr fun l => ?_))
    unfold strB
    constructor
    · rintro (h | ⟨q, hq, m, hm, i, h1, j, h2, h3, h4⟩)
      · exact h.elim
      · exact ⟨q, hq, m, hm, i, j, by omega, h3, h4⟩
    · rintro ⟨q, hq, m, hm, i, j, h1, h2, h3⟩
      exact .inr ⟨q, hq, m, hm, i, by omega, j, by omega, h2, h3⟩
def sp_goes : DSp := sp_row
theorem goes_ok : ∀ ds M Q, sp_goes ds M Q → w__law_goes_on (ends Q) (startD 4 ds) M := by
  rintro ds M Q ⟨l, a, b, k1, k2, t1, t2, F, G, rfl, ha, hb, lt1, lt2, hl, q⟩
  unfold w__law_goes_on
  simp [-Bool.exists_bool]
  refine ⟨rg (i := 1) (by omega) (by omega), ?_⟩
  refine loop_range (lo := 1) (n := l.length - 1) (fun i ρ M' => M' = M ∧ (∃ x, ρ = [some (encL l), some (.ref a), some (.ref b), x]) ∧ ∀ c, 1 ≤ c → c < 1 + i → F (l.take c) ∨ G (l.drop c)) ⟨rfl, ⟨none, rfl⟩, by omega⟩ ?_ ?_
  · rintro i hi ρ M' ⟨rfl, ⟨x, rfl⟩, hno⟩ N hN
    refine ⟨_, _, .refl, .refl, trivial, ?_⟩
    unfold w__law_goes_on_1
    simp [-Bool.exists_bool, -Int.natCast_add]
    rw [y_inD ha]
    refine ⟨lt1.ok _, ?_⟩
    simp only [ex_bl]
    have more : F (l.take (1 + i)) ∨ G (l.drop (1 + i)) → N [some (encL l), some (.ref a), some (.ref b), some (.int ((1 + i : Nat) : Int))] M' := fun h => hN _ _ ⟨rfl, ⟨_, rfl⟩, fun c h1 h2 => by
      by_cases hc : c = 1 + i
      · subst hc; exact h
      · exact hno c h1 (by omega)⟩
    by_cases hF : F (l.take (1 + i))
    · rw [(lt1.has _).mpr hF]
      simp
      exact more (.inl hF)
    · rw [show (valD k1 (encL (l.take (1 + i)))).isSome = false from by rw [Bool.eq_false_iff]; exact fun e => hF ((lt1.has _).mp e)]
      rw [Bool.not_false, if_pos rfl, y_inD hb]
      refine ⟨lt2.ok _, ?_⟩
      simp only [ex_bl]
      by_cases hG : G (l.drop (1 + i))
      · rw [(lt2.has _).mpr hG]
        simp
        exact more (.inr hG)
      · rw [show (valD k2 (encL (l.drop (1 + i)))).isSome = false from by rw [Bool.eq_false_iff]; exact fun e => hG ((lt2.has _).mp e)]
        simp
        exact drops_of (q true ⟨fun _ => ⟨1 + i, by omega, by omega, hF, hG⟩, fun _ => rfl⟩)
  · rintro ρ M' ⟨rfl, ⟨x, rfl⟩, hno⟩
    refine ⟨_, _, .refl, .refl, trivial, ?_⟩
    simp
    refine drops_of (q false ?_)
    constructor
    · intro h; cases h
    · rintro ⟨c, h1, h2, h3, h4⟩
      rcases hno c h1 (by omega) with h | h
      · exact absurd h h3
      · exact absurd h h4
/-! frames by the law -/
def FrE (ls : List Line) (F G : LP) (u v : Line) : Prop := ∃ m ∈ ls, u.length + v.length < m.length ∧ m.take u.length = u ∧ m.drop (m.length - v.length) = v ∧ rowB F G ((m.take (m.length - v.length)).drop u.length)
def sp_free : DSp := fun ds M Q => ∃ (ls : List Line) (u v : Line) (a b : Addr) (k1 k2 : List (D × D)) (t1 t2 : Tk) (F G : LP), ds = [.tup (ls.map encL), encL u, encL v, .ref a, .ref b] ∧ M a = some (.dict k1 t1) ∧ M b = some (.dict k2 t2) ∧ LT k1 F ∧ LT k2 G ∧ (∀ l ∈ ls, l.length ≤ 1000) ∧ ∀ c, (c = true ↔ ¬ FrE ls F G u v) → Q (.bl c) M
theorem free_ok : ∀ ds M Q, sp_free ds M Q → w__law_frame_free sp_goes (ends Q) (startD 6 ds) M := by
  rintro ds M Q ⟨ls, u, v, a, b, k1, k2, t1, t2, F, G, rfl, ha, hb, lt1, lt2, hl, q⟩
  unfold w__law_frame_free
  simp [-Bool.exists_bool]
  refine loop_map (xs := ls) encL (fun done ρ M' => M' = M ∧ (∃ x, ρ = [some (.tup (ls.map encL)), some (encL u), some (encL v), some (.ref a), some (.ref b), x]) ∧ ¬ FrE done F G u v) ⟨rfl, ⟨none, rfl⟩, fun ⟨m, h, _⟩ => by cases h⟩ ?_ ?_
  · rintro done m rest hx ρ M' ⟨rfl, ⟨x, rfl⟩, hno⟩ N hN
    refine ⟨_, _, .refl, .refl, trivial, ?_⟩
    have hml := hl m (by rw [hx]; simp)
    unfold w__law_frame_free_1
    simp [-Bool.exists_bool]
    have more : ¬ (u.length + v.length < m.length ∧ m.take u.length = u ∧ m.drop (m.length - v.length) = v ∧ rowB F G ((m.take (m.length - v.length)).drop u.length)) → N [some (.tup (ls.map encL)), some (encL u), some (encL v), some (.ref a), some (.ref b), some (encL m)] M' := fun h => hN _ _ ⟨rfl, ⟨_, rfl⟩, fun ⟨m', h1, h2⟩ => by
      rw [List.mem_append, List.mem_singleton] at h1
      rcases h1 with h1 | rfl
      · exact hno ⟨m', h1, h2⟩
      · exact h h2⟩
    by_cases h1 : (u.length : Int) + (v.length : Int) < (m.length : Int)
    · rw [if_pos h1]
      refine y_eqL ?_
      simp only [ex_bl]
      by_cases h2 : m.take u.length = u
      · simp only [h2, decide_true, id, if_true]
        have e1 : (m.length : Int) - (v.length : Int) = ((m.length - v.length : Nat) : Int) := by omega
        rw [e1]
        simp only [y_slL2]
        refine y_eqL ?_
        simp only [ex_bl]
        by_cases h3 : m.drop (m.length - v.length) = v
        · simp only [h3, decide_true, id, if_true]
          simp [-Bool.exists_bool]
          refine ⟨_, a, b, k1, k2, t1, t2, F, G, rfl, ha, hb, lt1, lt2, by rw [List.length_drop, List.length_take]; omega, fun c hc => ?_⟩
          simp only [ex_tr]
          cases c with
          | true =>
            rw [if_pos rfl]
            exact drops_of (q false ⟨fun h => (by cases h), fun h => absurd ⟨m, by rw [hx]; simp, by omega, h2, h3, hc.mp rfl⟩ h⟩)
          | false =>
            rw [if_neg Bool.false_ne_true]
            exact more fun h => Bool.false_ne_true (hc.mpr h.2.2.2)
        · simp only [h3, decide_false, id]
          simp
          exact more fun h => h3 h.2.2.1
      · simp only [h2, decide_false, id]
        simp
        exact more fun h => h2 h.2.1
    · rw [if_neg h1]
      exact more fun h => h1 (by omega)
  · rintro ρ M' ⟨rfl, ⟨x, rfl⟩, hno⟩
    refine ⟨_, _, .refl, .refl, trivial, ?_⟩
    simp
    exact drops_of (q true (by simp [hno]))
end F83

set_option Elab.async false
set_option linter.all false
set_option maxRecDepth 100000
set_option maxHeartbeats 4000000
namespace F83
open PySem PySem.Spec PyProof.Rows L2 Fw
theorem frE_frB {ls : List Line} {F G : LP} {u v : Line} : frB ls F G (u, v) ↔ FrE ls F G u v := by
  constructor
  · rintro ⟨m, hm, i, hi, j, h1, h2, e, hr⟩
    injection e with e1 e2
    have lu : u.length = i := by rw [e1, List.length_take]; omega
    have lv : v.length = m.length - j := by rw [e2, List.length_drop]
    have ej : m.length - v.length = j := by omega
    exact ⟨m, hm, by omega, by rw [lu, e1], by rw [ej, e2], by rw [ej, lu]; exact hr⟩
  · rintro ⟨m, hm, h1, h2, h3, hr⟩
    have hr' := hr
    obtain ⟨c, h4, h6, _⟩ := hr'
    rw [List.length_drop, List.length_take] at h6
    exact ⟨m, hm, u.length, by omega, m.length - v.length, by omega, by omega, by rw [h2, h3], hr⟩
section
variable {l : Line} {n m : Nat} {M : Mem} {Q : DK}
theorem y_slA1 : dSl (encL l) (some ((n : Int) + (m : Int))) none M Q = Q (encL (l.drop (n + m))) M := by rw [show (n : Int) + (m : Int) = ((n + m : Nat) : Int) by omega]; exact y_slL2
theorem y_slA2 : dSl (encL l) (some (n : Int)) (some ((n : Int) + (m : Int))) M Q = Q (encL ((l.take (n + m)).drop n)) M := by rw [show (n : Int) + (m : Int) = ((n + m : Nat) : Int) by omega]; exact y_slL3
end
def sp_lpair : DSp := fun ds M Q => ∃ (bs : Bans) (x : Line) (a b : Addr) (k1 k2 : List (D × D)) (t1 t2 : Tk) (F G : LP), ds = [encB bs, encL x, .ref a, .ref b] ∧ M a = some (.dict k1 t1) ∧ M b = some (.dict k2 t2) ∧ LT k1 F ∧ LT k2 G ∧ (∀ q ∈ bs, ∀ l ∈ q.2, l.length ≤ 1000) ∧ 1 ≤ x.length ∧ x.length ≤ 1000 ∧ ∀ c, (c = true ↔ pairB bs F G x) → Q (.bl c) M
theorem lpair_ok : ∀ ds M Q, sp_lpair ds M Q → w__law_pair_bans sp_free (ends Q) (startD 9 ds) M := by
  rintro ds M Q ⟨bs, x, a, b, k1, k2, t1, t2, F, G, rfl, ha, hb, lt1, lt2, hl, hx1, hx2, q⟩
  unfold w__law_pair_bans
  simp [-Bool.exists_bool]
  have yes : ∀ {q : PySem.Str × List Line} {m : Line} {s : Nat}, q ∈ bs → m ∈ q.2 → s + x.length ≤ m.length → (m.take (s + x.length)).drop s = x → ¬ FrE q.2 F G (m.take s) (m.drop (s + x.length)) → pairB bs F G x := fun {q m s} hq hm h1 h2 h3 =>
    ⟨q, hq, m, hm, s, by omega, s + x.length, by omega, h1, h2.symm, fun h => h3 (frE_frB.mp h)⟩
  let P : PySem.Str × List Line → Line → Nat → Prop := fun q m s => s + x.length ≤ m.length ∧ (m.take (s + x.length)).drop s = x ∧ ¬ FrE q.2 F G (m.take s) (m.drop (s + x.length))
  refine loop_map (xs := bs) encP (fun done ρ M' => M' = M ∧ (∃ x4 x5 x6 x7 x8, ρ = [some (encB bs), some (encL x), some (.ref a), some (.ref b), x4, x5, x6, x7, x8]) ∧ ∀ q ∈ done, ∀ m ∈ q.2, ∀ s, ¬ P q m s) ⟨rfl, ⟨_, _, _, _, _, rfl⟩, by simp⟩ ?_ ?_
  · rintro done pr rest hx ρ M' ⟨rfl, ⟨x4, x5, x6, x7, x8, rfl⟩, hno⟩ N hN
    refine ⟨_, _, .refl, .refl, trivial, ?_⟩
    have hpr : pr ∈ bs := by rw [hx]; simp
    unfold w__law_pair_bans_3
    simp [-Bool.exists_bool, ixP]
    refine loop_map (xs := pr.2) encL (fun dl ρ M'' => M'' = M' ∧ (∃ x5 x6 x7 x8, ρ = [some (encB bs), some (encL x), some (.ref a), some (.ref b), some (encP pr), x5, x6, x7, x8]) ∧ ∀ m ∈ dl, ∀ s, ¬ P pr m s) ⟨rfl, ⟨_, _, _, _, rfl⟩, by simp⟩ ?_ ?_
    · rintro dl m rl hm ρ M'' ⟨rfl, ⟨x5, x6, x7, x8, rfl⟩, hno2⟩ N2 hN2
      refine ⟨_, _, .refl, .refl, trivial, ?_⟩
      have hmm : m ∈ pr.2 := by rw [hm]; simp
      have hml := hl pr hpr m hmm
      unfold w__law_pair_bans_2
      simp [-Bool.exists_bool]
      refine ⟨by unfold RgOk2; omega, ?_⟩
      have en : ((m.length : Int) - (x.length : Int) + 1).toNat = m.length + 1 - x.length := by omega
      try rw [en]
      refine loop_range (lo := 0) (n := m.length + 1 - x.length) (fun i ρ M3 => M3 = M'' ∧ (∃ x6 x7 x8, ρ = [some (encB bs), some (encL x), some (.ref a), some (.ref b), some (encP pr), some (encL m), x6, x7, x8]) ∧ ∀ s, s < i → ¬ P pr m s) ⟨rfl, ⟨_, _, _, rfl⟩, by omega⟩ ?_ ?_
      · rintro s hs ρ M3 ⟨rfl, ⟨x6, x7, x8, rfl⟩, hno3⟩ N3 hN3
        refine ⟨_, _, .refl, .refl, trivial, ?_⟩
        unfold w__law_pair_bans_1
        simp only [Nat.zero_add]
        simp [-Bool.exists_bool, y_slA1, y_slA2]
        have more : ¬ P pr m s → N3 [some (encB bs), some (encL x), some (.ref a), some (.ref b), some (encP pr), some (encL m), some (.int (s : Int)), some (encL (m.take s)), some (encL (m.drop (s + x.length)))] M3 := fun h => hN3 _ _ ⟨rfl, ⟨_, _, _, rfl⟩, fun s' hs' => by
          by_cases e : s' = s
          · subst e; exact h
          · exact hno3 s' (by omega)⟩
        refine ⟨_, _, ⟨rfl, rfl⟩, y_eqL ?_⟩
        simp only [ex_bl]
        by_cases h2 : (m.take (s + x.length)).drop s = x
        · simp only [h2, decide_true, id, if_true, ixP]
          refine ⟨pr.2, m.take s, m.drop (s + x.length), a, b, k1, k2, t1, t2, F, G, rfl, ha, hb, lt1, lt2, hl pr hpr, fun c hc => ?_⟩
          simp only [ex_tr]
          cases c with
          | true =>
            rw [if_pos rfl]
            exact drops_of (q true ⟨fun _ => yes hpr hmm (by omega) h2 (hc.mp rfl), fun _ => rfl⟩)
          | false =>
            rw [if_neg Bool.false_ne_true]
            exact more fun h => Bool.false_ne_true (hc.mpr h.2.2)
        · simp only [h2, decide_false, id]
          simp
          exact more fun h => h2 h.2.1
      · rintro ρ M3 ⟨rfl, ⟨x6, x7, x8, rfl⟩, hno3⟩
        refine ⟨_, _, .refl, .refl, trivial, hN2 _ _ ⟨rfl, ⟨_, _, _, _, rfl⟩, fun m' hm' s => ?_⟩⟩
        rw [List.mem_append, List.mem_singleton] at hm'
        rcases hm' with h | rfl
        · exact hno2 m' h s
        · by_cases hs : s < m'.length + 1 - x.length
          · exact hno3 s hs
          · exact fun h => hs (by have := h.1; omega)
    · rintro ρ M'' ⟨rfl, ⟨x5, x6, x7, x8, rfl⟩, hno2⟩
      refine ⟨_, _, .refl, .refl, trivial, hN _ _ ⟨rfl, ⟨_, _, _, _, _, rfl⟩, fun q' hq' m hm s => ?_⟩⟩
      rw [List.mem_append, List.mem_singleton] at hq'
      rcases hq' with h | rfl
      · exact hno q' h m hm s
      · exact hno2 m hm s
  · rintro ρ M' ⟨rfl, ⟨x4, x5, x6, x7, x8, rfl⟩, hno⟩
    refine ⟨_, _, .refl, .refl, trivial, ?_⟩
    simp
    refine drops_of (q false ?_)
    constructor
    · intro h; cases h
    · rintro ⟨pr, hpr, m, hm, i, hi, j, h1, h2, h3, h4⟩
      have lx : x.length = j - i := by rw [h3, List.length_drop, List.length_take]; omega
      have ej : i + x.length = j := by omega
      exact absurd ⟨by omega, by rw [ej, h3], by rw [ej]; exact fun h => h4 (frE_frB.mpr h)⟩ (hno pr hpr m hm i)
end F83

set_option Elab.async false
set_option linter.all false
set_option maxRecDepth 100000
set_option maxHeartbeats 4000000
namespace F83
open PySem PySem.Spec PyProof.Rows L2 Fw
@[simp] theorem y_mulT {a : List D} {k : Int} {M : Mem} {Q : DK} : dMul (.tup a) (.int k) M Q = (a.length ≤ 1000 ∧ -1000 ≤ k ∧ k ≤ 1000 ∧ Q (.tup (List.replicate k.toNat a).flatten) M) := rfl
theorem ixK {s : PySem.Str} {x y : Kd} {M : Mem} {Q : DK} : dIxA (encK (.op s x y)) (.int 0) M Q = Q (.str s) M ∧ dIxA (encK (.op s x y)) (.int 1) M Q = Q (encK x) M ∧ dIxA (encK (.op s x y)) (.int 2) M Q = Q (encK y) M := by
  refine ⟨?_, ?_, ?_⟩
  · show (∃ d, L2.atI [D.str s, encK x, encK y] 0 = some d ∧ Q d M) = _
    rw [show L2.atI [D.str s, encK x, encK y] 0 = some (D.str s) from rfl]; simp
  · show (∃ d, L2.atI [D.str s, encK x, encK y] 1 = some d ∧ Q d M) = _
    rw [show L2.atI [D.str s, encK x, encK y] 1 = some (encK x) from rfl]; simp
  · show (∃ d, L2.atI [D.str s, encK x, encK y] 2 = some d ∧ Q d M) = _
    rw [show L2.atI [D.str s, encK x, encK y] 2 = some (encK y) from rfl]; simp
theorem over_law {S T : LP} {x : Line} (hx : 1 ≤ x.length) : overB S T x ↔ ∃ m, S m ∧ (x.length < m.length ∧ m.take x.length = x) ∧ ¬ T (m.drop x.length) := by
  constructor
  · rintro ⟨m, hm, c, h1, h2, rfl, h3⟩
    have lc : (m.take c).length = c := by rw [List.length_take]; omega
    exact ⟨m, hm, ⟨by omega, by rw [lc]⟩, by rw [lc]; exact h3⟩
  · rintro ⟨m, hm, ⟨h1, h2⟩, h3⟩
    exact ⟨m, hm, x.length, hx, h1, h2.symm, h3⟩
theorem under_law {S T : LP} {x : Line} (hx : 1 ≤ x.length) : underB T S x ↔ ∃ m, S m ∧ (m.drop (m.length - x.length) = x ∧ x.length < m.length) ∧ ¬ T (m.take (m.length - x.length)) := by
  constructor
  · rintro ⟨m, hm, c, h1, h2, rfl, h3⟩
    have lc : (m.drop c).length = m.length - c := List.length_drop ..
    have ec : m.length - (m.drop c).length = c := by omega
    exact ⟨m, hm, ⟨by rw [ec], by omega⟩, by rw [ec]; exact h3⟩
  · rintro ⟨m, hm, ⟨h1, h2⟩, h3⟩
    exact ⟨m, hm, m.length - x.length, by omega, by omega, h1.symm, h3⟩
theorem cut_enc (m : Line) (lo hi : Option Int) : ∃ l', D.tup (Fw.cutD (m.map D.int) lo hi) = encL l' := by
  unfold Fw.cutD
  rw [map_drop, map_take]
  exact ⟨_, rfl⟩
theorem tail_hit {k : List (D × D)} {T S : LP} {ls : List Line} {C : Line → Prop} (lt : LT k T) (hls : ∀ l, l ∈ ls ↔ S l) (c : Line → Bool) (f : Line → Line) (hc : ∀ m, c m = true ↔ C m) : (∃ x, x ∈ (ls.filter c).map f ∧ valD k (encL x) = none) ↔ ∃ m, S m ∧ C m ∧ ¬ T (f m) := by
  constructor
  · rintro ⟨w, hw, h2⟩
    rw [List.mem_map] at hw
    obtain ⟨m, hm, rfl⟩ := hw
    rw [List.mem_filter] at hm
    exact ⟨m, (hls m).mp hm.1, (hc m).mp hm.2, fun hT => by have := (lt.has _).mpr hT; rw [h2] at this; cases this⟩
  · rintro ⟨m, hm, hC, hT⟩
    refine ⟨f m, List.mem_map.mpr ⟨m, List.mem_filter.mpr ⟨(hls m).mpr hm, (hc m).mpr hC⟩, rfl⟩, ?_⟩
    cases h : valD k (encL (f m)) with
    | none => rfl
    | some v => exact absurd ((lt.has _).mp (by rw [h]; rfl)) hT
def sp_lb (n : Nat) : DSp := sp_kind n
theorem lb_ok (n : Nat) : ∀ ds M Q, sp_lb (n + 1) ds M Q → w__law_banned (sp_lb n) sp_str sp_lpair (ends Q) (startD 12 ds) M := by
  rintro ds M Q ⟨bs, k, rfl, hn, ok, q⟩
  obtain ⟨U, hU, hin⟩ := ok.uni
  have h5 := sz5
  unfold w__law_banned
  cases k with
  | «at» a =>
    simp [-Bool.exists_bool, encK]
    intro p ta tb hp
    refine fill_map (xs := bs) (M := M) (enc := encL) (U := U) (p := p) (S := fun _ => False) (R := fun ρ => ∃ x3 x4, ρ = [some (encB bs), some (.str a), some (.ref p), x3, x4, none, none, none, none, none, none, none]) encP (fun q l => q.1 = a ∧ l ∈ q.2) (fun _ _ => trivial) (.start ⟨_, _, rfl⟩ hp) ?_ ?_
    · intro pr hq S' ρ M' s N hN
      obtain ⟨x3, x4, rfl⟩ := s.env
      unfold w__law_banned_2
      simp [-Bool.exists_bool, ixP, ixP0]
      refine ⟨ok.few pr hq, by split <;> decide, by split <;> decide, ?_⟩
      have e : (List.replicate (if pr.1 = a then (1 : Int) else 0).toNat (pr.2.map encL)).flatten = (if pr.1 = a then pr.2 else []).map encL := by
        by_cases h : pr.1 = a
        · rw [if_pos h, if_pos h]; simp
        · rw [if_neg h, if_neg h]; simp
      rw [e]
      refine fill_map (M := M) (enc := encL) (U := U) (p := p) (S := S') (R := fun ρ => ∃ x3 x4, ρ = [some (encB bs), some (.str a), some (.ref p), x3, x4, none, none, none, none, none, none, none]) encL (fun m l => l = m) (fun _ _ => trivial) ⟨⟨_, _, rfl⟩, s.sub, s.tab, s.bnd⟩ ?_ ?_
      · intro m hm S1 ρ M1 s N1 hN1
        obtain ⟨x3, x4, rfl⟩ := s.env
        have hm2 : pr.1 = a ∧ m ∈ pr.2 := by
          by_cases h : pr.1 = a
          · rw [if_pos h] at hm; exact ⟨h, hm⟩
          · rw [if_neg h] at hm; cases hm
        unfold w__law_banned_1
        simp [-Bool.exists_bool]
        exact s.put (R' := fun ρ => ∃ x3 x4, ρ = [some (encB bs), some (.str a), some (.ref p), x3, x4, none, none, none, none, none, none, none]) encL_ok hU hp (hin _ (kind_str ok (.at a) m ⟨pr, hq, hm2⟩)) ⟨_, _, rfl⟩ fun M'' s => hN1 _ _ s
      · intro ρ M1 s
        refine hN _ _ (s.congr fun l => or_congr Iff.rfl ?_)
        by_cases h : pr.1 = a
        · rw [if_pos h]; simp [h]
        · rw [if_neg h]; simp [h]
    · intro ρ M' s
      obtain ⟨x3, x4, rfl⟩ := s.env
      obtain ⟨kvs, t, hm, kt⟩ := s.tab
      simp
      exact drops_to (s.sub.to hm) (q p kvs t hp ((KTlt kt).congr fun l => by show _ ↔ atomB bs a l; unfold atomB; simp))
  | op s x y =>
    have hx : x.dep < n := by have : max x.dep y.dep + 1 < n + 1 := hn; omega
    have hy : y.dep < n := by have : max x.dep y.dep + 1 < n + 1 := hn; omega
    simp [-Bool.exists_bool, encK]
    intro p ta tb hp
    refine ⟨_, rfl, bs, x, rfl, hx, ok, fun p5 k5 t5 hp5 lt5 => ?_⟩
    refine ⟨_, rfl, bs, y, rfl, hy, ok, fun p6 k6 t6 hp6 lt6 => ?_⟩
    refine ⟨bs, rfl, ok, fun p7 k7 t7 hp7 lt7 => ?_⟩
    show withSrc (.ref p7) _ _
    rw [y_srcD mset_same]
    obtain ⟨ls7, els7, hls7, _⟩ := lt7.lines
    show loopD _ _ _ (k7.map (·.1)) _ _ _
    rw [els7]
    obtain ⟨ls5, els5, hls5, _⟩ := lt5.lines
    obtain ⟨ls6, els6, hls6, _⟩ := lt6.lines
    have l5 : ls5.length ≤ 100000 := by
      have := lt5.len (fun l h => hin l (kind_str ok x l h))
      have e := congrArg List.length els5
      rw [List.length_map, List.length_map] at e
      omega
    have l6 : ls6.length ≤ 100000 := by
      have := lt6.len (fun l h => hin l (kind_str ok y l h))
      have e := congrArg List.length els6
      rw [List.length_map, List.length_map] at e
      omega
    have n5 : M p5 = none := (SubM.new hp).none hp5
    have n6 : M p6 = none := (sub_two hp hp5).none hp6
    have n7 : M p7 = none := ((sub_two hp hp5).trans (SubM.new hp6)).none hp7
    have d65 : p5 ≠ p6 := fun e => by rw [← e, mset_same] at hp6; cases hp6
    have d75 : p5 ≠ p7 := fun e => by rw [← e, mset_ne d65, mset_same] at hp7; cases hp7
    have d76 : p6 ≠ p7 := fun e => by rw [← e, mset_same] at hp7; cases hp7
    have dp5 : p ≠ p5 := fun e => by rw [← e, mset_same] at hp5; cases hp5
    have dp6 : p ≠ p6 := fun e => by rw [← e, mset_ne dp5, mset_same] at hp6; cases hp6
    have dp7 : p ≠ p7 := fun e => by rw [← e, mset_ne dp6, mset_ne dp5, mset_same] at hp7; cases hp7
    generalize hM4 : mset (mset (mset (mset M p (.dict [] (ta, tb))) p5 (.dict k5 t5)) p6 (.dict k6 t6)) p7 (.dict k7 t7) = M4
    have g5 : M4 p5 = some (.dict k5 t5) := by rw [← hM4, mset_ne d75, mset_ne d65, mset_same]
    have g6 : M4 p6 = some (.dict k6 t6) := by rw [← hM4, mset_ne d76, mset_same]
    have g7 : M4 p7 = some (.dict k7 t7) := by rw [← hM4, mset_same]
    have gp : M4 p = some (.dict [] (ta, tb)) := by rw [← hM4, mset_ne dp7, mset_ne dp6, mset_ne dp5, mset_same]
    have s4 : SubM M M4 := by rw [← hM4]; exact ((sub_two hp hp5).trans (SubM.new hp6)).trans (SubM.new hp7)
    have sb : SubM (mset (mset (mset M p5 (.dict k5 t5)) p6 (.dict k6 t6)) p7 (.dict k7 t7)) M4 := ((s4.to g5).to g6).to g7
    have hpb : mset (mset (mset M p5 (.dict k5 t5)) p6 (.dict k6 t6)) p7 (.dict k7 t7) p = none := by rw [mset_ne dp7, mset_ne dp6, mset_ne dp5]; exact hp
    have b5 : mset (mset (mset M p5 (.dict k5 t5)) p6 (.dict k6 t6)) p7 (.dict k7 t7) p5 = some (.dict k5 t5) := by rw [mset_ne d75, mset_ne d65, mset_same]
    have b6 : mset (mset (mset M p5 (.dict k5 t5)) p6 (.dict k6 t6)) p7 (.dict k7 t7) p6 = some (.dict k6 t6) := by rw [mset_ne d76, mset_same]
    have b7 : mset (mset (mset M p5 (.dict k5 t5)) p6 (.dict k6 t6)) p7 (.dict k7 t7) p7 = some (.dict k7 t7) := mset_same
    have sM : SubM M (mset (mset (mset M p5 (.dict k5 t5)) p6 (.dict k6 t6)) p7 (.dict k7 t7)) := ((SubM.new n5).set n6).set n7
    generalize mset (mset (mset M p5 (.dict k5 t5)) p6 (.dict k6 t6)) p7 (.dict k7 t7) = Mb at sb hpb b5 b6 b7 sM
    refine fill_map (M := Mb) (enc := encL) (U := U) (p := p) (S := fun _ => False) (R := fun ρ => ∃ x4 x7 x8 x9 x10 x11, ρ = [some (encB bs), some (encK (.op s x y)), some (.ref p), none, x4, some (.ref p5), some (.ref p6), x7, x8, x9, x10, x11]) encL (fun z l => l = z ∧ kindB bs (.op s x y) z) (fun M' hs => hs _ _ b7) ⟨⟨_, _, _, _, _, _, rfl⟩, sb, ⟨_, _, gp, KT.nil⟩, fun _ h => h.elim⟩ ?_ ?_
    · intro z hz S' ρ M' st N hN
      obtain ⟨x4, x7, x8, x9, x10, x11, rfl⟩ := st.env
      have hzs : strB bs z := (hls7 z).mp hz
      have hzl := str_len ok hzs
      have c5 := st.sub _ _ b5
      have c6 := st.sub _ _ b6
      -- the end of a turn
      have fin : ∀ (hit : Bool) (ρ' : Fw.Env) (M'' : Mem), (hit = true ↔ kindB bs (.op s x y) z) → SubM M' M'' → (∃ x4 x8 x10 x11, ρ' = [some (encB bs), some (encK (.op s x y)), some (.ref p), none, x4, some (.ref p5), some (.ref p6), some (encL z), x8, some (.bl hit), x10, x11]) → wIf (wTru (wVar 9)) (wPut (wC (.bl true)) (wVar 2) (wVar 7)) wNext { nx := N, rt := drops Q, bk := wRet (wVar 2) (ends Q), ct := N } ρ' M'' := by
        rintro hit ρ' M'' hh sm ⟨x4, x8, x10, x11, rfl⟩
        simp [-Bool.exists_bool]
        have st2 : Fw.St (fun ρ => ∃ x4 x7 x8 x9 x10 x11, ρ = [some (encB bs), some (encK (.op s x y)), some (.ref p), none, x4, some (.ref p5), some (.ref p6), x7, x8, x9, x10, x11]) p Mb encL U S' [some (encB bs), some (encK (.op s x y)), some (.ref p), none, x4, some (.ref p5), some (.ref p6), some (encL z), x8, some (.bl hit), x10, x11] M'' :=
          ⟨⟨_, _, _, _, _, _, rfl⟩, st.sub.trans sm, let ⟨k, t, e, q⟩ := st.tab; ⟨k, t, sm _ _ e, q⟩, st.bnd⟩
        cases hit with
        | true =>
          rw [if_pos rfl]
          have hk := hh.mp rfl
          exact st2.put (R' := fun ρ => ∃ x4 x7 x8 x9 x10 x11, ρ = [some (encB bs), some (encK (.op s x y)), some (.ref p), none, x4, some (.ref p5), some (.ref p6), x7, x8, x9, x10, x11]) encL_ok hU hpb (hin _ hzs) ⟨_, _, _, _, _, _, rfl⟩ fun M3 s3 => hN _ _ (s3.congr fun l => by simp [hk])
        | false =>
          rw [if_neg Bool.false_ne_true]
          have hk : ¬ kindB bs (.op s x y) z := fun h => Bool.false_ne_true (hh.mpr h)
          exact hN _ _ (st2.congr fun l => by simp [hk])
      unfold w__law_banned_3
      generalize wIf (wTru (wVar 9)) (wPut (wC (.bl true)) (wVar 2) (wVar 7)) wNext = KK at fin ⊢
      simp [-Bool.exists_bool, ixK]
      show if s = over then _ else _
      by_cases h1 : s = over
      · rw [if_pos h1]
        rw [y_srcD c5]
        show compD _ _ _ _ _ (k5.map (·.1)) _ _ _
        rw [els5]
        refine comp_if encL (fun m => decide (z.length < m.length ∧ m.take z.length = z)) (fun m => encL (m.drop z.length)) c5 (fun m hm N' n => ?_) (fun m hm _ N' n => ?_) (by omega) ?_
        · simp [-Bool.exists_bool]
          by_cases c1 : z.length < m.length
          · rw [if_pos c1]
            refine y_eqL ?_
            simp only [ex_bl]
            simpa [c1] using n
          · rw [if_neg c1]
            simpa [c1] using n
        · simp [-Bool.exists_bool]
          exact n
        · intro p8 hp8
          rw [y_srcL mset_same, show (ls5.filter fun m => decide (z.length < m.length ∧ m.take z.length = z)).map (fun m => encL (m.drop z.length)) = ((ls5.filter fun m => decide (z.length < m.length ∧ m.take z.length = z)).map fun m => m.drop z.length).map encL by rw [List.map_map]; rfl]
          generalize hE : ((ls5.filter fun m => decide (z.length < m.length ∧ m.take z.length = z)).map fun m => m.drop z.length) = es
          have hes : es.length ≤ 100000 := by rw [← hE, List.length_map]; exact Nat.le_trans (List.length_filter_le ..) l5
          have n86 : p6 ≠ p8 := fun e => by rw [← e, c6] at hp8; cases hp8
          refine comp_if encL (fun m => !(valD k6 (encL m)).isSome) encL mset_same (fun m hm N' n => ?_) (fun m hm _ N' n => ?_) (by omega) ?_
          · simp [-Bool.exists_bool]
            rw [y_inD (by rw [mset_ne n86]; exact c6)]
            refine ⟨lt6.ok _, ?_⟩
            simp only [ex_bl]
            exact n
          · simp [-Bool.exists_bool]
            exact n
          · intro p10 hp10
            simp only [y_lenL (mset_same (M := _) (a := p10))]
            simp [-Bool.exists_bool]
            refine fin _ _ _ ?_ (sub_two hp8 hp10) ⟨_, _, _, _, rfl⟩
            rw [decide_eq_true_eq, kindB, if_pos h1, over_law hzl.1, ← hE]
            exact tail_hit lt6 hls5 _ _ (fun m => by rw [decide_eq_true_eq])
      · rw [if_neg h1]
        show if s = under then _ else _
        by_cases h2 : s = under
        · rw [if_pos h2]
          rw [y_srcD c6]
          show compD _ _ _ _ _ (k6.map (·.1)) _ _ _
          rw [els6]
          refine comp_if encL (fun m => decide (m.drop (m.length - z.length) = z ∧ z.length < m.length)) (fun m => encL (m.take (m.length - z.length))) c6 (fun m hm N' n => ?_) (fun m hm hc N' n => ?_) (by omega) ?_
          · simp [-Bool.exists_bool]
            by_cases c1 : z.length < m.length
            · rw [show (m.length : Int) - (z.length : Int) = ((m.length - z.length : Nat) : Int) by omega, y_slL2]
              refine y_eqL ?_
              simp only [ex_bl]
              by_cases c2 : m.drop (m.length - z.length) = z
              · simpa [c1, c2] using n
              · simpa [c1, c2] using n
            · obtain ⟨l', el⟩ := cut_enc m (some ((m.length : Int) - (z.length : Int))) none
              have ed : ∀ Qz : DK, dSl (encL m) (some ((m.length : Int) - (z.length : Int))) none M' Qz = Qz (encL l') M' := fun Qz => by rw [← el]; rfl
              rw [ed]
              refine y_eqL ?_
              simp only [ex_bl]
              have n' : N' false M' := by simpa [c1] using n
              by_cases c2 : l' = z
              · simpa [c1, c2] using n'
              · simpa [c2] using n'
          · rw [decide_eq_true_eq] at hc
            simp [-Bool.exists_bool]
            rw [show (m.length : Int) - (z.length : Int) = ((m.length - z.length : Nat) : Int) by omega, y_slL1]
            exact n
          · intro p8 hp8
            rw [y_srcL mset_same, show (ls6.filter fun m => decide (m.drop (m.length - z.length) = z ∧ z.length < m.length)).map (fun m => encL (m.take (m.length - z.length))) = ((ls6.filter fun m => decide (m.drop (m.length - z.length) = z ∧ z.length < m.length)).map fun m => m.take (m.length - z.length)).map encL by rw [List.map_map]; rfl]
            generalize hE : ((ls6.filter fun m => decide (m.drop (m.length - z.length) = z ∧ z.length < m.length)).map fun m => m.take (m.length - z.length)) = es
            have hes : es.length ≤ 100000 := by rw [← hE, List.length_map]; exact Nat.le_trans (List.length_filter_le ..) l6
            have n85 : p5 ≠ p8 := fun e => by rw [← e, c5] at hp8; cases hp8
            refine comp_if encL (fun m => !(valD k5 (encL m)).isSome) encL mset_same (fun m hm N' n => ?_) (fun m hm _ N' n => ?_) (by omega) ?_
            · simp [-Bool.exists_bool]
              rw [y_inD (by rw [mset_ne n85]; exact c5)]
              refine ⟨lt5.ok _, ?_⟩
              simp only [ex_bl]
              exact n
            · simp [-Bool.exists_bool]
              exact n
            · intro p10 hp10
              simp only [y_lenL (mset_same (M := _) (a := p10))]
              simp [-Bool.exists_bool]
              refine fin _ _ _ ?_ (sub_two hp8 hp10) ⟨_, _, _, _, rfl⟩
              rw [decide_eq_true_eq, kindB, if_neg h1, if_pos h2, under_law hzl.1, ← hE]
              exact tail_hit lt5 hls6 _ _ (fun m => by rw [decide_eq_true_eq])
        · rw [if_neg h2]
          refine ⟨bs, z, p5, p6, k5, k6, t5, t6, _, _, rfl, c5, c6, lt5, lt6, fun q hq l hl => (ok.len q hq l hl).2, hzl.1, hzl.2, fun c hc => ?_⟩
          refine fin c _ _ ?_ (fun _ _ h => h) ⟨_, _, _, _, rfl⟩
          rw [hc, kindB, if_neg h1, if_neg h2]
    · intro ρ M' st
      obtain ⟨x4, x7, x8, x9, x10, x11, rfl⟩ := st.env
      obtain ⟨kvs, t, hm, kt⟩ := st.tab
      simp
      refine drops_to ((sM.trans st.sub).to hm) (q p kvs t hp ((KTlt kt).congr fun l => ?_))
      constructor
      · rintro (h | ⟨z, hz, rfl, h⟩)
        · exact h.elim
        · exact h
      · intro h
        exact .inr ⟨l, (hls7 l).mpr (kind_str ok _ l h), rfl, h⟩
end F83

set_option Elab.async false
set_option linter.all false
set_option maxRecDepth 100000
set_option maxHeartbeats 4000000
namespace F83
open PySem PySem.Spec PyProof.Rows L2 Fw
/-! tables of whole numbers -/
def encN (n : Nat) : D := .int (n : Int)
theorem encN_inj {a b : Nat} (h : encN a = encN b) : a = b := by
  unfold encN at h
  injection h with h
  omega
section
variable {kvs : List (D × D)} {S : Nat → Prop}
theorem okN (t : KT encN kvs S) (n : Nat) : keyOk kvs (.int (n : Int)) := keyOk_f rfl fun d hd => by
  obtain ⟨m, _, rfl⟩ := (t.mem d).mp hd
  rfl
theorem hasN (t : KT encN kvs S) (n : Nat) : (valD kvs (.int (n : Int))).isSome = true ↔ S n := by
  rw [valD_some, decide_eq_true_eq]
  show D.int (n : Int) ∈ kys kvs ↔ _
  rw [t.mem]
  exact ⟨fun ⟨m, h, q⟩ => (encN_inj (a := n) (b := m) q) ▸ h, fun h => ⟨n, h, rfl⟩⟩
theorem putN {R R' : Fw.Env → Prop} {p : Addr} {M : Mem} {U : List Nat} {ρ ρ' : Fw.Env} {M' : Mem} {l : Nat} {v : D} {Q : Mem → Prop} (hU : U.length ≤ 100000) (hp : M p = none) (s : Fw.St R p M encN U S ρ M') (hl : l ∈ U) (hr : R' ρ')
    (k : ∀ M'', Fw.St R' p M encN U (fun m => S m ∨ m = l) ρ' M'' → Q M'') : dSetA (.ref p) (.int (l : Int)) v M' Q := by
  obtain ⟨kvs, t, hm, kt⟩ := s.tab
  rw [y_putD hm]
  have h5 := sz5
  have := kt.len s.bnd
  exact ⟨okN kt l, by omega, fun t => k _ ⟨hr, s.sub.set hp, ⟨_, _, mset_same, kt.put (l := l)⟩, fun m hm => hm.elim (s.bnd m) fun e => e ▸ hl⟩⟩
theorem num_list : ∀ {ds : List D}, (∀ d ∈ ds, ∃ n : Nat, d = encN n) → ∃ ns : List Nat, ds = ns.map encN
  | [], _ => ⟨[], rfl⟩
  | d :: ds, h => by
    obtain ⟨l, rfl⟩ := h d List.mem_cons_self
    obtain ⟨ls, rfl⟩ := num_list (ds := ds) fun d hd => h d (List.mem_cons_of_mem _ hd)
    exact ⟨l :: ls, rfl⟩
theorem nums (t : KT encN kvs S) : ∃ ns : List Nat, kvs.map (·.1) = ns.map encN ∧ ∀ n, n ∈ ns ↔ S n := by
  obtain ⟨ns, e⟩ := num_list (ds := kys kvs) fun d hd => let ⟨l, _, h⟩ := (t.mem d).mp hd; ⟨l, h⟩
  refine ⟨ns, e, fun n => ?_⟩
  constructor
  · intro h
    have : encN n ∈ kys kvs := by rw [e]; exact List.mem_map_of_mem h
    obtain ⟨m, hm, e2⟩ := (t.mem _).mp this
    rw [encN_inj e2]; exact hm
  · intro h
    have : encN n ∈ kys kvs := (t.mem _).mpr ⟨n, h, rfl⟩
    rw [e, List.mem_map] at this
    obtain ⟨m, hm, e2⟩ := this
    rw [← encN_inj e2]; exact hm
end
/-! _law_splits -/
theorem y_listD {a : Addr} {kvs : List (D × D)} {t : Tk} {M : Mem} {Q : DK} (h : M a = some (.dict kvs t)) : dList [.ref a] M Q = ∀ p, M p = none → Q (.ref p) (mset M p (.lst (kvs.map (·.1)))) := by unfold dList; simp only [h]
def sp_splits : DSp := fun ds M Q => ∃ (l : Line) (b : Addr) (xs : List (Addr × LP)), ds = [encL l, .ref b] ∧ M b = some (.lst (xs.map fun x => .ref x.1)) ∧ TabL M xs ∧ l.length ≤ 1000 ∧ ∀ c, (c = true ↔ Reach (xs.map (·.2)) l l.length) → Q (.bl c) M
theorem splits_ok : ∀ ds M Q, sp_splits ds M Q → w__law_splits (ends Q) (startD 7 ds) M := by
  rintro ds M Q ⟨l, b, xs, rfl, hb, htab, hl, q⟩
  have h5 := sz5
  unfold w__law_splits
  simp [-Bool.exists_bool]
  refine ⟨rfl, fun p0 ta tb hp0 => ?_⟩
  have hb0 : b ≠ p0 := fun e => by rw [e, hp0] at hb; cases hb
  rw [y_srcL (by rw [mset_ne hb0]; exact hb)]
  have le : ∀ {Fs : List LP} {n : Nat}, Reach Fs l n → n ≤ l.length := fun ⟨ps, w⟩ => w.1
  refine loop_map (xs := xs) (fun x => D.ref x.1) (fun done ρ M' => ∃ pr x3 x4 x5 x6 kvs t, ρ = [some (encL l), some (.ref b), some (.ref pr), x3, x4, x5, x6] ∧ SubM M M' ∧ M' pr = some (.dict kvs t) ∧ KT encN kvs (Reach (done.map (·.2)) l)) ⟨p0, none, none, none, none, _, (ta, tb), rfl, SubM.new hp0, mset_same, ?_⟩ ?_ ?_
  · refine ⟨by simp [kys], fun d => ?_⟩
    simp only [kys, List.map_cons, List.map_nil, List.mem_singleton]
    constructor
    · rintro rfl
      exact ⟨0, ⟨[], Nat.zero_le _, trivial, by simp⟩, rfl⟩
    · rintro ⟨m, ⟨ps, h1, h2, h3⟩, rfl⟩
      cases ps with
      | nil =>
        have := congrArg List.length h3
        simp at this
        have e0 : m = 0 := by omega
        rw [e0]; rfl
      | cons => exact h2.elim
  · rintro done ⟨aF, F⟩ rest hx ρ M' ⟨pr, x3, x4, x5, x6, kvs, t, rfl, sm, hm, kt⟩ N hN
    refine ⟨_, _, .refl, .refl, sm b _ hb, ?_⟩
    obtain ⟨kF, tF, haF, ltF⟩ := htab (aF, F) (by rw [hx]; simp)
    unfold w__law_splits_3
    simp [-Bool.exists_bool]
    intro p2 tc td hp2
    have n2 : M p2 = none := sm.none hp2
    have hr2 : pr ≠ p2 := fun e => by rw [e, hp2] at hm; cases hm
    rw [y_listD (by rw [mset_ne hr2]; exact hm)]
    intro p3 hp3
    show withSrc (.ref p3) _ _
    rw [y_srcL mset_same]
    obtain ⟨ns, ens, hns⟩ := nums kt
    have h23 : p2 ≠ p3 := fun e => by rw [← e, mset_same] at hp3; cases hp3
    have n3' : M' p3 = none := (SubM.new hp2).none hp3
    have n3 : M p3 = none := sm.none n3'
    generalize hU : List.range (l.length + 1) = U
    have lU : U.length ≤ 100000 := by rw [← hU, List.length_range]; omega
    have inU : ∀ m, m ≤ l.length → m ∈ U := fun m h => by rw [← hU, List.mem_range]; omega
    have hMb : mset M p3 (.lst (kvs.map (·.1))) p2 = none := by rw [mset_ne h23]; exact n2
    rw [ens] at hMb ⊢
    refine fill_map (xs := ns) (M := mset M p3 (.lst (ns.map encN))) (enc := encN) (U := U) (p := p2) (S := fun _ => False) (R := fun ρ => ∃ x5 x6, ρ = [some (encL l), some (.ref b), some (.ref pr), some (.ref aF), some (.ref p2), x5, x6]) encN (fun n m => n + 1 ≤ m ∧ m ≤ l.length ∧ ¬ F ((l.take m).drop n)) (fun M'' hs => hs _ _ mset_same) ⟨⟨_, _, rfl⟩, ((sm.set n2).set n3).to mset_same, ⟨[], (tc, td), by rw [mset_ne h23]; exact mset_same, KT.nil⟩, fun _ h => h.elim⟩ ?_ ?_
    · intro n hn S' ρ M1 s N1 hN1
      obtain ⟨x5, x6, rfl⟩ := s.env
      have hnl : n ≤ l.length := le ((hns n).mp hn)
      unfold w__law_splits_2
      simp [-Bool.exists_bool, encN]
      refine ⟨by unfold RgOk2; omega, ?_⟩
      have en : (((l.length : Nat) : Int) + 1 - ((n : Int) + 1)).toNat = l.length - n := by omega
      try rw [en]
      have e3 : ((n : Int) + 1) = ((n + 1 : Nat) : Int) := by omega
      rw [e3]
      refine fill_range (lo := n + 1) (n := l.length - n) (M := mset M p3 (.lst (ns.map encN))) (enc := encN) (U := U) (p := p2) (S := S') (R := fun ρ => ∃ x6, ρ = [some (encL l), some (.ref b), some (.ref pr), some (.ref aF), some (.ref p2), some (.int (n : Int)), x6]) (fun m j => j = m ∧ ¬ F ((l.take m).drop n)) (fun _ _ => trivial) ⟨⟨_, rfl⟩, s.sub, s.tab, s.bnd⟩ ?_ ?_
      · intro m h1 h2 S2 ρ M2 s N2 hN2
        obtain ⟨x6, rfl⟩ := s.env
        unfold w__law_splits_1
        simp [-Bool.exists_bool]
        have hF' : M2 aF = some (.dict kF tF) := s.sub _ _ (SubM.new n3 _ _ haF)
        rw [y_inD hF']
        refine ⟨ltF.ok _, ?_⟩
        simp only [ex_bl]
        by_cases hT : F ((l.take m).drop n)
        · rw [(ltF.has _).mpr hT]
          simp
          exact hN2 _ _ ⟨⟨_, rfl⟩, s.sub, let ⟨k, t, e, q⟩ := s.tab; ⟨k, t, e, q.congr fun j => by simp [hT]⟩, fun j hj => hj.elim (s.bnd j) fun h => absurd hT h.2⟩
        · rw [show (valD kF (encL ((l.take m).drop n))).isSome = false from by rw [Bool.eq_false_iff]; exact fun e => hT ((ltF.has _).mp e)]
          rw [Bool.not_false, if_pos rfl]
          exact putN (R' := fun ρ => ∃ x6, ρ = [some (encL l), some (.ref b), some (.ref pr), some (.ref aF), some (.ref p2), some (.int (n : Int)), x6]) lU hMb s (inU m (by omega)) ⟨_, rfl⟩ fun M'' s => hN2 _ _ (s.congr fun j => by simp [hT])
      · intro ρ M2 s
        refine hN1 _ _ ((s.env' fun ρ ⟨y, h⟩ => ⟨_, y, h⟩).congr fun j => or_congr Iff.rfl ?_)
        constructor
        · rintro ⟨m, h1, h2, rfl, h3⟩
          exact ⟨h1, by omega, h3⟩
        · rintro ⟨h1, h2, h3⟩
          exact ⟨j, h1, by omega, rfl, h3⟩
    · intro ρ M1 s
      obtain ⟨x5, x6, rfl⟩ := s.env
      obtain ⟨kvs2, t2, hm2, kt2⟩ := s.tab
      simp
      refine hN _ _ ⟨p2, _, _, _, _, kvs2, t2, rfl, (SubM.new n3).trans s.sub, hm2, ?_⟩
      rw [List.map_append]
      refine kt2.congr fun m => ?_
      show _ ↔ Reach (done.map (·.2) ++ [F]) l m
      rw [reach_step]
      constructor
      · rintro (h | ⟨n, hn, h⟩)
        · exact h.elim
        · exact ⟨n, (hns n).mp hn, h⟩
      · rintro ⟨n, hn, h⟩
        exact .inr ⟨n, (hns n).mpr hn, h⟩
  · rintro ρ M' ⟨pr, x3, x4, x5, x6, kvs, t, rfl, sm, hm, kt⟩
    refine ⟨_, _, .refl, .refl, sm b _ hb, ?_⟩
    simp [-Bool.exists_bool]
    rw [y_inD hm]
    exact ⟨okN kt _, drops_to sm (q _ (hasN kt _))⟩
end F83

set_option Elab.async false
set_option linter.all false
set_option maxRecDepth 100000
set_option maxHeartbeats 4000000
namespace F83
open PySem PySem.Spec PyProof.Rows L2 Fw
/-! _law_fails -/
theorem ixS0 {ks : List Kd} {g : Kd} {M : Mem} {Q : DK} : dIxA (encS ks g) (.int 0) M Q = Q (.tup (ks.map encK)) M := by
  show (∃ d, L2.atI [D.tup (ks.map encK), encK g] 0 = some d ∧ Q d M) = _
  rw [show L2.atI [D.tup (ks.map encK), encK g] 0 = some (D.tup (ks.map encK)) from rfl]; simp
theorem ixS1 {ks : List Kd} {g : Kd} {M : Mem} {Q : DK} : dIxA (encS ks g) (.int 1) M Q = Q (encK g) M := by
  show (∃ d, L2.atI [D.tup (ks.map encK), encK g] 1 = some d ∧ Q d M) = _
  rw [show L2.atI [D.tup (ks.map encK), encK g] 1 = some (encK g) from rfl]; simp
def sp_fails (nn : Nat) : DSp := fun ds M Q => ∃ (bs : Bans) (ks : List Kd) (g : Kd), ds = [encB bs, encS ks g] ∧ SeqOk nn bs ks g ∧ ∀ c, (c = true ↔ Fails bs ks g) → Q (.bl c) M
theorem fails_ok (nn : Nat) : ∀ ds M Q, sp_fails nn ds M Q → w__law_fails (sp_lb nn) sp_splits (ends Q) (startD 5 ds) M := by
  rintro ds M Q ⟨bs, ks, g, rfl, ok, q⟩
  have h5 := sz5
  have hfew := ok.few
  unfold w__law_fails
  simp [-Bool.exists_bool, ixS0]
  refine comp_invM encK (fun done acc M' => ∃ zs : List (Addr × Kd), zs.map (·.2) = done ∧ acc = zs.map (fun z => D.ref z.1) ∧ SubM M M' ∧ ∀ z ∈ zs, IsTab M' z.1 (kindB bs z.2)) (fun _ _ _ _ => trivial) ⟨[], rfl, rfl, .refl, by simp⟩ ?_ ?_ (by omega)
  · rintro done k rest acc M' hx ⟨zs, rfl, rfl, sm, hzs⟩ N hN
    obtain ⟨k1, k2, k3⟩ := ok.kinds k (by rw [hx]; simp)
    simp
    refine ⟨bs, k, rfl, k2, ok.bans, fun p kvs t hp lt => hN _ _ ⟨zs ++ [(p, k)], by simp, by simp, sm.trans (SubM.new hp), fun z hz => ?_⟩⟩
    rw [List.mem_append, List.mem_singleton] at hz
    rcases hz with hz | rfl
    · obtain ⟨a, b, c, d⟩ := hzs z hz
      exact ⟨a, b, SubM.new hp _ _ c, d⟩
    · exact ⟨kvs, t, mset_same, lt⟩
  · rintro acc M' ⟨zs, rfl, rfl, sm, hzs⟩ p hp
    obtain ⟨k1, k2, k3⟩ := ok.kinds g (by simp)
    simp [-Bool.exists_bool, ixS1]
    refine ⟨bs, g, rfl, k2, ok.bans, fun a kvs t ha lt => ?_⟩
    show withSrc (.ref a) _ _
    rw [y_srcD mset_same]
    obtain ⟨ls, els, hls, nls⟩ := lt.lines
    show loopD _ _ _ (kvs.map (·.1)) _ _ _
    rw [els]
    have hpa : p ≠ a := fun e => by rw [← e, mset_same] at ha; cases ha
    have sM : SubM M' (mset (mset M' p (.lst (zs.map fun z => D.ref z.1))) a (.dict kvs t)) := (SubM.new hp).trans (SubM.new ha)
    generalize hM2 : mset (mset M' p (.lst (zs.map fun z => D.ref z.1))) a (.dict kvs t) = M2 at sM
    have ga : M2 a = some (.dict kvs t) := by rw [← hM2]; exact mset_same
    have gp : M2 p = some (.lst (zs.map fun z => D.ref z.1)) := by rw [← hM2, mset_ne hpa, mset_same]
    refine loop_map (xs := ls) encL (fun done ρ M3 => M3 = M2 ∧ (∃ x4, ρ = [some (encB bs), some (encS (zs.map (·.2)) g), some (.ref p), none, x4]) ∧ ∀ l ∈ done, ¬ Reach ((zs.map (·.2)).map (kindB bs)) l l.length) ⟨rfl, ⟨_, rfl⟩, by simp⟩ ?_ ?_
    · rintro done l rest hx ρ M3 ⟨rfl, ⟨x4, rfl⟩, hno⟩ N hN
      refine ⟨_, _, .refl, .refl, ga, ?_⟩
      have hSl := (hls l).mp (by rw [hx]; simp)
      unfold w__law_fails_1
      simp [-Bool.exists_bool]
      have efs : (zs.map fun z => (z.1, kindB bs z.2)).map (·.2) = (zs.map (·.2)).map (kindB bs) := by simp
      refine ⟨l, p, zs.map fun z => (z.1, kindB bs z.2), rfl, by rw [gp, List.map_map]; rfl, fun y hy => ?_, (str_len ok.bans (kind_str ok.bans g l hSl)).2, fun c hc => ?_⟩
      · rw [List.mem_map] at hy
        obtain ⟨z, hz, rfl⟩ := hy
        obtain ⟨a, b, c, d⟩ := hzs z hz
        exact ⟨a, b, sM _ _ c, d⟩
      · rw [efs] at hc
        simp only [ex_tr]
        cases c with
        | true =>
          rw [if_pos rfl]
          exact drops_to (sm.trans sM) (q true ⟨fun _ => ⟨l, hSl, hc.mp rfl⟩, fun _ => rfl⟩)
        | false =>
          rw [if_neg Bool.false_ne_true]
          exact hN _ _ ⟨rfl, ⟨_, rfl⟩, fun m hm => by
            rw [List.mem_append, List.mem_singleton] at hm
            rcases hm with hm | rfl
            · exact hno m hm
            · exact fun h => Bool.false_ne_true (hc.mpr h)⟩
    · rintro ρ M3 ⟨rfl, ⟨x4, rfl⟩, hno⟩
      refine ⟨_, _, .refl, .refl, ga, ?_⟩
      simp
      refine drops_to (sm.trans sM) (q false ?_)
      constructor
      · intro h; cases h
      · rintro ⟨l, h1, h2⟩
        exact absurd h2 (hno l ((hls l).mpr h1))
/-! _law_some_line -/
def sp_some : DSp := fun ds M Q => ∃ (a b : Addr) (n most : Nat) (marks : List Int), ds = [.ref a, .ref b, .int most] ∧ b ≠ a ∧ PoolAt M a n ∧ M b = some (.lst (marks.map D.int)) ∧ marks ≠ [] ∧ marks.length ≤ 10 ∧ 1 ≤ most ∧ most ≤ 10 ∧ n + 20 < 900000 ∧
  ∀ (l : Line) M', 1 ≤ l.length → l.length ≤ most → (∀ x ∈ l, x ∈ marks) → (∀ c, c ≠ a → M' c = M c) → PoolAt M' a (n + 11) → Q (encL l) M'
theorem some_ok : ∀ ds M Q, sp_some ds M Q → w__law_some_line sp_draw (ends Q) (startD 4 ds) M := by
  rintro ds M Q ⟨a, b, n, most, marks, rfl, hba, hp, hb, hne, hml, h1, h2, h3, q⟩
  have h5 := sz5
  have hnp : 0 < marks.length := List.length_pos_iff.mpr hne
  unfold w__law_some_line
  simp [-Bool.exists_bool]
  refine ⟨a, n, most, rfl, hp, by omega, by omega, by omega, fun d M1 hd b1 p1 => ?_⟩
  simp [-Bool.exists_bool]
  have e : ((1 : Int) + (d : Int)) = ((1 + d : Nat) : Int) := by omega
  refine ⟨by unfold RgOk2; omega, ?_⟩
  have e2 : ranged 0 ((1 : Int) + (d : Int)).toNat = (List.range (1 + d)).map fun i : Nat => D.int (i : Int) := by unfold ranged; rw [show ((1 : Int) + (d : Int)).toNat = 1 + d by omega]; simp
  rw [e2]
  refine comp_invM (fun i : Nat => D.int (i : Int)) (fun done acc M' => ∃ l : Line, acc = l.map D.int ∧ l.length = done.length ∧ (∀ x ∈ l, x ∈ marks) ∧ (∀ c, c ≠ a → M' c = M c) ∧ PoolAt M' a (n + 1 + done.length)) (fun _ _ _ _ => trivial) ⟨[], rfl, rfl, by simp, b1, p1⟩ ?_ ?_ (by rw [List.length_range]; omega)
  · rintro done i rest acc M' hx ⟨l, rfl, hl, hm, b2, p2⟩ N hN
    have hdl : done.length ≤ 10 := by
      have := congrArg List.length hx
      rw [List.length_range, List.length_append] at this
      omega
    simp [-Bool.exists_bool]
    rw [y_lenL (show M' b = _ from (b2 b hba).trans hb)]
    refine ⟨a, n + 1 + done.length, marks.length, by simp, p2, by omega, by omega, by omega, fun e M2 he b3 p3 => ?_⟩
    show dIxA (.ref b) (.int e) M2 _
    rw [y_ixL (show M2 b = _ from (b3 b hba).trans ((b2 b hba).trans hb))]
    refine ⟨.int marks[e], at_nat (by rw [List.getElem?_map, List.getElem?_eq_getElem he]; rfl), hN _ _ ⟨l ++ [marks[e]], by simp, by simp [hl], fun x hx => ?_, fun c hc => by rw [b3 c hc, b2 c hc], p3.more (by simp; omega)⟩⟩
    rw [List.mem_append, List.mem_singleton] at hx
    rcases hx with hx | rfl
    · exact hm x hx
    · exact List.getElem_mem _
  · rintro acc M' ⟨l, rfl, hl, hm, b2, p2⟩ p hp
    rw [List.length_range] at hl p2
    rw [y_tupL mset_same]
    exact drops_to (SubM.new hp) (q l _ (by omega) (by omega) hm b2 (p2.more (by omega)))
end F83

set_option Elab.async false
set_option linter.all false
set_option maxRecDepth 100000
set_option maxHeartbeats 4000000
namespace F83
open PySem PySem.Spec PyProof.Rows L2 Fw
/-! sorted lines -/
theorem pys_lines : ∀ ls : List Line, D.pys (ls.map encL) = some (ls.map pyL)
  | [] => by simp [D.pys]
  | l :: ls => by
    have ih := pys_lines ls
    simp only [List.map_cons, D.pys, ih, py_encL]
theorem sortOk_lines {ls : List Line} (h : ∀ l ∈ ls, 1 ≤ l.length) : SortOk (ls.map encL) := by
  refine ⟨_, pys_lines ls, fun d hd d' hd' => ?_, .inl fun d hd => ?_, fun d hd => ?_⟩
  · rw [List.mem_map] at hd hd'
    obtain ⟨l, _, rfl⟩ := hd
    obtain ⟨m, _, rfl⟩ := hd'
    simp [PySem.W.alike, pyL, alike_ints]
  · rw [List.mem_map] at hd
    obtain ⟨l, hl, rfl⟩ := hd
    have := h l hl
    cases l with
    | nil => simp at this
    | cons x l => exact ⟨_, _, rfl⟩
  · rw [List.mem_map] at hd
    obtain ⟨l, _, rfl⟩ := hd
    rw [pyL_depth]; decide
theorem sort_lines (ls : List Line) (hn : ls.Nodup) : ∃ ms : List Line, sortD (ls.map encL) = ms.map encL ∧ ms.Pairwise (fun a b => a ≤ b) ∧ ms.Nodup ∧ ∀ l, l ∈ ms ↔ l ∈ ls := by
  unfold sortD
  have hp := List.mergeSort_perm (ls.map encL) (PySem.W.dataLe false D.pyd)
  obtain ⟨ms, e⟩ := enc_list (ds := (ls.map encL).mergeSort (PySem.W.dataLe false D.pyd)) fun d hd => by
    rw [hp.mem_iff, List.mem_map] at hd
    obtain ⟨l, _, rfl⟩ := hd
    exact ⟨l, rfl⟩
  have hs : ((ls.map encL).mergeSort (PySem.W.dataLe false D.pyd)).Pairwise (fun a b => PySem.W.dataLe false D.pyd a b = true) := PySem.W.sort_pairwise (PySem.W.sortLe_total _ _ _) _
  rw [e] at hs hp
  refine ⟨ms, e, ?_, ?_, fun l => ?_⟩
  · rw [List.pairwise_map] at hs
    refine hs.imp fun {a b} h => ?_
    rw [PySem.W.dataLe_eq] at h
    have h2 : (!PySem.W.dataLt (encL b).pyd (encL a).pyd) = true := h
    rw [pyd_encL, pyd_encL, lt_pyL, Bool.not_eq_true', decide_eq_false_iff_not] at h2
    exact List.not_lt.mp h2
  · have h1 : (ls.map encL).Nodup := by
      rw [List.Nodup, List.pairwise_map]
      exact hn.imp fun h e => h (encL_inj.mp e)
    have h2 := (hp.nodup_iff).mpr h1
    exact (List.pairwise_map.mp h2).imp fun h e => h (by rw [e])
  · rw [← mem_enc, hp.mem_iff, mem_enc]
theorem y_sortedL {a : Addr} {ds : List D} {M : Mem} {Q : DK} (h : M a = some (.lst ds)) : dSorted [.ref a] M Q = (SortOk ds ∧ ∀ p, M p = none → Q (.ref p) (mset M p (.lst (sortD ds)))) := by unfold dSorted; simp only [h]
theorem y_sortedD {a : Addr} {kvs : List (D × D)} {t : Tk} {M : Mem} {Q : DK} (h : M a = some (.dict kvs t)) : dSorted [.ref a] M Q = (SortOk (kvs.map (·.1)) ∧ ∀ p, M p = none → Q (.ref p) (mset M p (.lst (sortD (kvs.map (·.1)))))) := by unfold dSorted; simp only [h]
theorem y_addL {a b : Addr} {xs ys : List D} {M : Mem} {Q : DK} (h : M a = some (.lst xs)) (h' : M b = some (.lst ys)) (hz : xs.length + ys.length ≤ sizeLine) (q : ∀ p, M p = none → Q (.ref p) (mset M p (.lst (xs ++ ys)))) : dAdd (.ref a) (.ref b) M Q := ⟨xs, ys, h, h', hz, q⟩
def sp_right : DSp := fun ds M Q => ∃ (ls : List Line) (a : Addr) (kvs : List (D × D)) (t : Tk) (S : LP) (U : List Line), ds = [.tup (ls.map encL), .ref a] ∧ M a = some (.dict kvs t) ∧ LT kvs S ∧ ls.Pairwise Kle ∧ ls.Nodup ∧ (∀ l, l ∈ ls ↔ S l) ∧ (∀ l, S l → 1 ≤ l.length ∧ l.length ≤ 81) ∧ U.length ≤ 100000 ∧ (∀ l, S l → l ∈ U) ∧ Q (.bl true) M
theorem right_ok : ∀ ds M Q, sp_right ds M Q → w__law_lines_right sp_places (ends Q) (startD 6 ds) M := by
  rintro ds M Q ⟨ls, a, kvs, t, S, U, rfl, ha, lt, hpw, hnd, hS, hlen, hU, hin, q⟩
  have h5 := sz5
  obtain ⟨ls0, els, hls0, nls0⟩ := lt.lines
  have lk : kvs.length = ls0.length := by
    have := congrArg List.length els
    simpa using this
  have l0 : ls.length = ls0.length := Nat.le_antisymm (nodup_le hnd fun x hx => (hls0 x).mpr ((hS x).mp hx)) (nodup_le nls0 fun x hx => (hS x).mpr ((hls0 x).mp hx))
  have lU : ls0.length ≤ 100000 := Nat.le_trans (nodup_le nls0 fun x hx => hin x ((hls0 x).mp hx)) hU
  unfold w__law_lines_right
  simp [-Bool.exists_bool]
  rw [y_lenD ha]
  simp [-Bool.exists_bool, l0, lk]
  intro p0 hp0
  refine ⟨by unfold RgOk2; omega, ?_⟩
  refine loop_range (lo := 1) (n := 81) (fun i ρ M' => ∃ pe os x3, ρ = [some (.tup (ls.map encL)), some (.ref a), some (.ref pe), x3, none, none] ∧ SubM M M' ∧ M' pe = some (.lst (os.map encL)) ∧ os.Pairwise Kle ∧ os.Nodup ∧ ∀ l, l ∈ os ↔ S l ∧ l.length < 1 + i) ⟨p0, [], none, rfl, SubM.new hp0, mset_same, by simp, by simp, fun l => ⟨fun h => absurd h (by simp), fun h => absurd (hlen l h.1).1 (by omega)⟩⟩ ?_ ?_
  · rintro i hi ρ M' ⟨pe, os, x3, rfl, sm, hpe, w1, w2, w3⟩ N hN
    refine ⟨_, _, .refl, .refl, trivial, ?_⟩
    unfold w__law_lines_right_1
    simp [-Bool.exists_bool, -Int.natCast_add]
    have ga := sm _ _ ha
    rw [y_srcD ga]
    show compD _ _ _ _ _ (kvs.map (·.1)) _ _ _
    rw [els]
    refine comp_if encL (fun m => decide (m.length = 1 + i)) encL ga (fun m hm N' n => ?_) (fun m hm _ N' n => ?_) (by omega) ?_
    · simp [-Bool.exists_bool, -Int.natCast_add]
      have e : decide ((m.length : Int) = ((1 + i : Nat) : Int)) = decide (m.length = 1 + i) := decide_eq_decide.mpr (by omega)
      first | (rw [e]; exact n) | exact n
    · simp [-Bool.exists_bool]
      exact n
    · intro p1 hp1
      rw [y_sortedL mset_same]
      generalize hf : ls0.filter (fun m => decide (m.length = 1 + i)) = fs
      have hfm : ∀ l, l ∈ fs ↔ S l ∧ l.length = 1 + i := fun l => by rw [← hf, List.mem_filter, decide_eq_true_eq, hls0]
      have nfs : fs.Nodup := by rw [← hf]; exact nls0.filter _
      obtain ⟨ms, em, v1, v2, v3⟩ := sort_lines fs nfs
      refine ⟨sortOk_lines fun l hl => (hlen l ((hfm l).mp hl).1).1, fun p2 hp2 => ?_⟩
      rw [em]
      have n1 : pe ≠ p1 := fun e => by rw [← e, hpe] at hp1; cases hp1
      have n2 : pe ≠ p2 := fun e => by rw [← e, mset_ne n1, hpe] at hp2; cases hp2
      have lo : os.length ≤ ls0.length := nodup_le w2 fun x hx => (hls0 x).mpr ((w3 x).mp hx).1
      have lm : ms.length ≤ ls0.length := nodup_le v2 fun x hx => (hls0 x).mpr ((hfm x).mp ((v3 x).mp hx)).1
      have hz : (os.map encL).length + (ms.map encL).length ≤ sizeLine := by
        rw [List.length_map, List.length_map]
        have := sizeLine_eq
        omega
      refine y_addL (by rw [mset_ne n2, mset_ne n1]; exact hpe) mset_same hz fun p3 hp3 => hN _ _ ⟨p3, os ++ ms, _, rfl, (sm.trans (sub_two hp1 hp2)).trans (SubM.new hp3), by rw [mset_same, List.map_append], ?_, ?_, fun l => ?_⟩
      · rw [List.pairwise_append]
        refine ⟨w1, v1.imp_of_mem fun {x y} hx hy h => .inr ⟨?_, h⟩, fun x hx y hy => .inl ?_⟩
        · rw [((hfm x).mp ((v3 x).mp hx)).2, ((hfm y).mp ((v3 y).mp hy)).2]
        · rw [((hfm y).mp ((v3 y).mp hy)).2]; exact ((w3 x).mp hx).2
      · rw [List.nodup_append]
        refine ⟨w2, v2, fun x hx y hy e => ?_⟩
        subst e
        have h1 := ((w3 x).mp hx).2
        have h2 := ((hfm x).mp ((v3 x).mp hy)).2
        omega
      · rw [List.mem_append, w3, v3, hfm]
        constructor
        · rintro (⟨h1, h2⟩ | ⟨h1, h2⟩)
          · exact ⟨h1, by omega⟩
          · exact ⟨h1, by omega⟩
        · rintro ⟨h1, h2⟩
          by_cases h : l.length < 1 + i
          · exact .inl ⟨h1, h⟩
          · exact .inr ⟨h1, by omega⟩
  · rintro ρ M' ⟨pe, os, x3, rfl, sm, hpe, w1, w2, w3⟩
    refine ⟨_, _, .refl, .refl, trivial, ?_⟩
    have eos : os = ls := kle_uniq w1 hpw w2 hnd fun l => by
      rw [w3, hS]
      exact ⟨fun h => h.1, fun h => ⟨h, by have := (hlen l h).2; omega⟩⟩
    subst eos
    simp [-Bool.exists_bool]
    refine ⟨rg (i := 0) (by omega) (by omega), ?_⟩
    have e0 : ranged 0 os.length = (List.range os.length).map fun i : Nat => D.int (i : Int) := by unfold ranged; simp
    rw [e0]
    refine comp_if (fun i : Nat => D.int (i : Int)) (fun _ => false) (fun _ => .non) trivial (fun i hi N' n => ?_) (fun i hi h N' n => absurd h Bool.false_ne_true) (by rw [List.length_range]; omega) ?_
    · rw [List.mem_range] at hi
      have hoi : os[i]? = some os[i] := List.getElem?_eq_getElem hi
      simp [-Bool.exists_bool]
      refine ⟨encL os[i], at_nat (by rw [List.getElem?_map, hoi]; rfl), ?_⟩
      rw [y_ixL hpe]
      refine ⟨encL os[i], at_nat (by rw [List.getElem?_map, hoi]; rfl), os[i], rfl, ?_, ?_⟩
      · have := (hlen os[i] ((hS _).mp (List.getElem_mem hi))).2; omega
      · simp [-Bool.exists_bool]; exact n
    · intro p hp
      simp only [y_lenL (mset_same (M := _) (a := p))]
      simp [-Bool.exists_bool]
      exact drops_to (sm.trans (SubM.new hp)) q
end F83

set_option Elab.async false
set_option linter.all false
set_option maxRecDepth 100000
set_option maxHeartbeats 4000000
namespace F83
open PySem PySem.Spec PyProof.Rows L2 Fw
/-! _law_shown, _law_judged -/
theorem cut_at : ∀ {Fs : List LP} {ps : List Line}, Cut Fs ps → ps.length = Fs.length ∧ ∀ i (h : i < ps.length) (h' : i < Fs.length), ps[i] ≠ [] ∧ ¬ Fs[i] ps[i]
  | [], [], _ => ⟨rfl, fun i h => absurd h (by simp)⟩
  | [], p :: ps, h => h.elim
  | F :: Fs, [], h => h.elim
  | F :: Fs, p :: ps, h => by
    obtain ⟨h1, h2⟩ := cut_at h.2.2
    refine ⟨by simp [h1], fun i a b => ?_⟩
    cases i with
    | zero => exact ⟨h.1, h.2.1⟩
    | succ i => exact h2 i (by simpa using a) (by simpa using b)
theorem ixLs {ps : List Line} {i : Nat} (h : i < ps.length) {M : Mem} {Q : DK} : dIxA (encLs ps) (.int (i : Int)) M Q = Q (encL ps[i]) M := by
  show (∃ d, L2.atI (ps.map encL) (i : Int) = some d ∧ Q d M) = _
  rw [at_nat (a := encL ps[i]) (by rw [List.getElem?_map, List.getElem?_eq_getElem h]; rfl)]
  simp
theorem ixKs {ks : List Kd} {i : Nat} (h : i < ks.length) {M : Mem} {Q : DK} : dIxA (.tup (ks.map encK)) (.int (i : Int)) M Q = Q (encK ks[i]) M := by
  show (∃ d, L2.atI (ks.map encK) (i : Int) = some d ∧ Q d M) = _
  rw [at_nat (a := encK ks[i]) (by rw [List.getElem?_map, List.getElem?_eq_getElem h]; rfl)]
  simp
@[simp] theorem y_lenLs {ps : List Line} {M : Mem} {Q : DK} : dLen [encLs ps] M Q = Q (.int ps.length) M := by show Q (.int ((ps.map encL).length : Nat)) M = _; rw [List.length_map]
@[simp] theorem y_isiLs {T : Ty} {ps : List Line} {M : Mem} : isiD T (encLs ps) M = some (tyLe "tuple" T) := rfl
@[simp] theorem y_addL' {l m : Line} {M : Mem} {Q : DK} : dAdd (encL l) (encL m) M Q = (l.length + m.length ≤ sizeLine ∧ Q (encL (l ++ m)) M) := by show ((l.map D.int).length + (m.map D.int).length ≤ sizeLine ∧ Q (.tup (l.map D.int ++ m.map D.int)) M) = _; rw [List.length_map, List.length_map, ← List.map_append]; rfl
def sp_shown (nn : Nat) : DSp := fun ds M Q => ∃ (bs : Bans) (ks : List Kd) (g : Kd) (l : Line) (ps : List Line), ds = [encLs ps, encB bs, encS ks g] ∧ SeqOk nn bs ks g ∧ kindB bs g l ∧ Way (ks.map (kindB bs)) l l.length ps ∧ Q (.bl true) M
theorem shown_ok (nn : Nat) : ∀ ds M Q, sp_shown nn ds M Q → w__law_shown sp_isint (sp_lb nn) (ends Q) (startD 6 ds) M := by
  rintro ds M Q ⟨bs, ks, g, l, ps, rfl, ok, hg, way, q⟩
  have h5 := sz5
  have hfew := ok.few
  obtain ⟨lps, hcut⟩ := cut_at way.2.1
  rw [List.length_map] at lps
  have hll := str_len ok.bans (kind_str ok.bans g l hg)
  have hfl : ps.flatten = l := by rw [way.2.2, List.take_length]
  unfold w__law_shown
  simp [-Bool.exists_bool, ixS0, lps]
  refine ⟨rg (i := 0) (by omega) (by omega), ?_⟩
  refine loop_range (lo := 0) (n := ks.length) (fun i ρ M' => SubM M M' ∧ ∃ x y, ρ = [some (encLs ps), some (encB bs), some (encS ks g), some (encL (ps.take i).flatten), x, y]) ⟨.refl, none, none, rfl⟩ ?_ ?_
  · rintro i hi ρ M' ⟨sm, x, y, rfl⟩ N hN
    refine ⟨_, _, .refl, .refl, trivial, ?_⟩
    have hip : i < ps.length := by omega
    obtain ⟨hne, hnF⟩ := hcut i hip (by rw [List.length_map]; exact hi)
    rw [List.getElem_map] at hnF
    have hmem : ps[i] ∈ ps := List.getElem_mem hip
    have htk : (ps.take (i + 1)).flatten = (ps.take i).flatten ++ ps[i] := by
      rw [List.take_succ, List.getElem?_eq_getElem hip, List.flatten_append]
      simp
    have hlt : (ps.take i).flatten.length + ps[i].length ≤ l.length := by
      have e : ps.flatten = (ps.take (i + 1)).flatten ++ (ps.drop (i + 1)).flatten := by rw [← List.flatten_append, List.take_append_drop]
      have e2 := congrArg List.length (hfl.symm.trans e)
      rw [htk, List.length_append, List.length_append] at e2
      omega
    rw [htk] at hN
    generalize (ps.take i).flatten = pre at hlt hN ⊢
    generalize hpi : ps[i] = pi at hne hnF hlt hN
    unfold w__law_shown_1
    simp [-Bool.exists_bool, ixLs hip, ixS0, ixKs hi, hpi, hne]
    refine comp_if (xs := pi) D.int (fun _ => false) D.int trivial (fun i hi N' n => ?_) (fun i hi h N' n => absurd h Bool.false_ne_true) (by omega) ?_
    · simp [-Bool.exists_bool]
      exact ⟨i, rfl, by simpa using n⟩
    · intro p hp
      rw [y_lenL mset_same]
      obtain ⟨k1, k2, k3⟩ := ok.kinds ks[i] (by simp)
      simp [-Bool.exists_bool]
      refine ⟨bs, ks[i], rfl, k2, ok.bans, fun p2 kvs t hp2 lt => ?_⟩
      show dIn id (encL pi) (.ref p2) _ _
      rw [y_inD mset_same]
      refine ⟨lt.ok _, ?_⟩
      have hno : (valD kvs (encL pi)).isSome = false := by
        rw [Bool.eq_false_iff]
        exact fun h => hnF ((lt.has pi).mp h)
      rw [hno]
      simp [-Bool.exists_bool]
      exact ⟨by omega, hN _ _ ⟨(sm.trans (SubM.new hp)).trans (SubM.new hp2), _, _, rfl⟩⟩
  · rintro ρ M' ⟨sm, x, y, rfl⟩
    refine ⟨_, _, .refl, .refl, trivial, ?_⟩
    rw [← lps, List.take_length, hfl]
    obtain ⟨k1, k2, k3⟩ := ok.kinds g (by simp)
    simp [-Bool.exists_bool, ixS1]
    refine ⟨bs, g, rfl, k2, ok.bans, fun p kvs t hp lt => ?_⟩
    simp [-Bool.exists_bool]
    rw [y_inD mset_same]
    refine ⟨lt.ok _, ?_⟩
    rw [(lt.has l).mpr hg]
    exact drops_to (sm.trans (SubM.new hp)) q
def sp_judged (nn : Nat) : DSp := fun ds M Q => ∃ (bs : Bans) (ks : List Kd) (g : Kd), ds = [encB bs, encS ks g] ∧ SeqOk nn bs ks g ∧ Q (.bl true) M
theorem judged_ok (nn : Nat) : ∀ ds M Q, sp_judged nn ds M Q → w__law_judged (sp_fails nn) (sp_holds nn) sp_truth (sp_fl nn) (sp_shown nn) (ends Q) (startD 4 ds) M := by
  rintro ds M Q ⟨bs, ks, g, rfl, ok, q⟩
  unfold w__law_judged
  simp [-Bool.exists_bool]
  refine ⟨bs, ks, g, rfl, ok, fun c hc => ?_⟩
  simp [-Bool.exists_bool]
  refine ⟨bs, ks, g, rfl, ok, fun b hb => ?_⟩
  have hbc : b = !c := by
    cases b with
    | true =>
      cases c with
      | true => exact absurd (hc.mp rfl) (hb.mp rfl)
      | false => rfl
    | false =>
      cases c with
      | true => rfl
      | false => exact absurd (hb.mpr fun h => Bool.false_ne_true (hc.mpr h)) Bool.false_ne_true
  simp [-Bool.exists_bool]
  refine ⟨b, !c, rfl, ?_⟩
  rw [decide_eq_true hbc]
  simp [-Bool.exists_bool]
  refine ⟨bs, ks, g, rfl, ok, fun l ps h1 h2 => ?_, fun h => ?_⟩
  · have e : c = true := hc.mpr ⟨l, h1, ps, h2⟩
    subst e
    simp [-Bool.exists_bool]
    exact ⟨bs, ks, g, l, ps, rfl, ok, h1, h2, drops_of q⟩
  · have e : c = false := by rw [Bool.eq_false_iff]; exact fun z => h (hc.mp z)
    subst e
    simp [-Bool.exists_bool]
    exact drops_of q
end F83

set_option Elab.async false
set_option linter.all false
set_option maxRecDepth 100000
set_option maxHeartbeats 4000000
namespace F83
open PySem PySem.Spec PyProof.Rows L2 Fw
/-! _law_bans -/
theorem cls_lines : ∀ ls : List Line, D.cls (ls.map encL) = true
  | [] => by simp [D.cls]
  | l :: ls => by simp [D.cls, encL_cl, cls_lines ls]
theorem deps_lines : ∀ ls : List Line, D.deps (ls.map encL) ≤ 1
  | [] => by simp [D.deps]
  | l :: ls => by have := deps_lines ls; simp [D.deps, encL_dep]; omega
theorem y_slRef {a : Addr} {ds : List D} {lo hi : Option Int} {M : Mem} {Q : DK} (h : M a = some (.lst ds)) (q : ∀ p, M p = none → Q (.ref p) (mset M p (.lst (cutD ds lo hi)))) : dSl (.ref a) lo hi M Q := by unfold dSl; simp only [h]; exact q
@[simp] theorem y_intB {b : Bool} {M : Mem} {Q : DK} : dInt1 [.bl b] M Q = Q (.int (if b = true then 1 else 0)) M := rfl
theorem pys_strs : ∀ ss : List PySem.Str, D.pys (ss.map D.str) = some (ss.map PyData.str)
  | [] => by simp [D.pys]
  | s :: ss => by
    have ih := pys_strs ss
    simp only [List.map_cons, D.pys, D.py, ih]
theorem sortOk_strs (ss : List PySem.Str) : SortOk (ss.map D.str) := by
  refine ⟨_, pys_strs ss, fun d hd d' hd' => ?_, .inr fun d hd => ?_, fun d hd => ?_⟩
  · rw [List.mem_map] at hd hd'
    obtain ⟨l, _, rfl⟩ := hd
    obtain ⟨m, _, rfl⟩ := hd'
    simp [PySem.W.alike]
  · rw [List.mem_map] at hd
    obtain ⟨l, hl, rfl⟩ := hd
    simp
  · rw [List.mem_map] at hd
    obtain ⟨l, _, rfl⟩ := hd
    simp [PyData.depth]
theorem str_list : ∀ {ds : List D}, (∀ d ∈ ds, ∃ s, d = D.str s) → ∃ ss : List PySem.Str, ds = ss.map D.str
  | [], _ => ⟨[], rfl⟩
  | d :: ds, h => by
    obtain ⟨l, rfl⟩ := h d List.mem_cons_self
    obtain ⟨ls, rfl⟩ := str_list (ds := ds) fun d hd => h d (List.mem_cons_of_mem _ hd)
    exact ⟨l :: ls, rfl⟩
theorem sort_strs (ss : List PySem.Str) (hn : ss.Nodup) : ∃ ms : List PySem.Str, sortD (ss.map D.str) = ms.map D.str ∧ ms.Nodup ∧ ms.length = ss.length ∧ ∀ l, l ∈ ms ↔ l ∈ ss := by
  unfold sortD
  have hp := List.mergeSort_perm (ss.map D.str) (PySem.W.dataLe false D.pyd)
  obtain ⟨ms, e⟩ := str_list (ds := (ss.map D.str).mergeSort (PySem.W.dataLe false D.pyd)) fun d hd => by
    rw [hp.mem_iff, List.mem_map] at hd
    obtain ⟨l, _, rfl⟩ := hd
    exact ⟨l, rfl⟩
  rw [e] at hp
  have inj : ∀ {a b : PySem.Str}, D.str a = D.str b → a = b := fun h => by injection h
  refine ⟨ms, e, ?_, by simpa using hp.length_eq, fun l => ?_⟩
  · have h1 : (ss.map D.str).Nodup := by
      rw [List.Nodup, List.pairwise_map]
      exact hn.imp fun h e => h (inj e)
    have h2 := (hp.nodup_iff).mpr h1
    exact (List.pairwise_map.mp h2).imp fun h e => h (by rw [e])
  · have := hp.mem_iff (a := D.str l)
    rw [List.mem_map, List.mem_map] at this
    constructor
    · intro h
      obtain ⟨b, hb, e⟩ := this.mp ⟨l, h, rfl⟩
      exact inj e ▸ hb
    · intro h
      obtain ⟨b, hb, e⟩ := this.mpr ⟨l, h, rfl⟩
      exact inj e ▸ hb
/-- a table of lists of lines -/
structure TS (M : Mem) (a p : Addr) (names : List PySem.Str) (ok : List Line → Prop) : Prop where
  ex : ∃ kvs t, M p = some (.dict kvs t) ∧ (kys kvs).Nodup ∧ ∀ d e, valD kvs d = some e → ∃ s ∈ names, d = .str s ∧ ∃ b ls, e = .ref b ∧ b ≠ a ∧ b ≠ p ∧ M b = some (.lst (ls.map encL)) ∧ ok ls
theorem TS.but {M M' : Mem} {a p : Addr} {names : List PySem.Str} {ok : List Line → Prop} (hpa : p ≠ a) (b : But a M M') (h : TS M a p names ok) : TS M' a p names ok := by
  obtain ⟨kvs, t, h1, h2, h3⟩ := h.ex
  refine ⟨kvs, t, b _ _ hpa h1, h2, fun d e he => ?_⟩
  obtain ⟨s, hs, e1, c, ls, e2, c1, c2, c3, c4⟩ := h3 d e he
  exact ⟨s, hs, e1, c, ls, e2, c1, c2, b _ _ c1 c3, c4⟩
theorem TS.imp {M : Mem} {a p : Addr} {names : List PySem.Str} {ok ok' : List Line → Prop} (h : TS M a p names ok) (f : ∀ ls, ok ls → ok' ls) : TS M a p names ok' := by
  obtain ⟨kvs, t, h1, h2, h3⟩ := h.ex
  refine ⟨kvs, t, h1, h2, fun d e he => ?_⟩
  obtain ⟨s, hs, e1, c, ls, e2, c1, c2, c3, c4⟩ := h3 d e he
  exact ⟨s, hs, e1, c, ls, e2, c1, c2, c3, f _ c4⟩
theorem key_val {kvs : List (D × D)} {d : D} (h : d ∈ kys kvs) : ∃ e, valD kvs d = some e := by
  have : (valD kvs d).isSome = true := by rw [valD_some]; exact decide_eq_true h
  exact Option.isSome_iff_exists.mp this
theorem ts_keys {kvs : List (D × D)} {names : List PySem.Str} {R : D → Prop} (h2 : (kys kvs).Nodup) (h3 : ∀ d e, valD kvs d = some e → ∃ s ∈ names, d = .str s ∧ R e) : (∀ d ∈ kys kvs, fkey d = true) ∧ kvs.length ≤ names.length ∧ ∃ ss : List PySem.Str, kys kvs = ss.map D.str ∧ ss.Nodup ∧ ∀ s ∈ ss, s ∈ names := by
  have hk : ∀ d ∈ kys kvs, ∃ s ∈ names, d = .str s := fun d hd => by
    obtain ⟨e, he⟩ := key_val hd
    obtain ⟨s, hs, e1, _⟩ := h3 d e he
    exact ⟨s, hs, e1⟩
  obtain ⟨ss, ess⟩ := str_list (ds := kys kvs) fun d hd => let ⟨s, _, e⟩ := hk d hd; ⟨s, e⟩
  have hss : ∀ s ∈ ss, s ∈ names := fun s hs => by
    obtain ⟨s', h', e⟩ := hk (.str s) (by rw [ess]; exact List.mem_map_of_mem hs)
    injection e with e
    exact e ▸ h'
  have nss : ss.Nodup := by
    rw [ess] at h2
    exact (List.pairwise_map.mp h2).imp fun h e => h (by rw [e])
  refine ⟨fun d hd => ?_, ?_, ss, ess, nss, hss⟩
  · obtain ⟨s, _, rfl⟩ := hk d hd
    rfl
  · have := congrArg List.length ess
    rw [List.length_map] at this
    have h0 : (kys kvs).length = kvs.length := List.length_map _
    have := nodup_le nss hss
    omega
theorem TS.put {M : Mem} {a p b : Addr} {names : List PySem.Str} {ok : List Line → Prop} {s : PySem.Str} {ls : List Line} {Q : Mem → Prop} (h : TS M a p names ok) (hs : s ∈ names) (hn : names.length ≤ 1000) (hba : b ≠ a) (hbp : b ≠ p) (hb : M b = some (.lst (ls.map encL))) (ho : ok ls)
    (q : ∀ M', (∀ c, c ≠ p → M' c = M c) → TS M' a p names ok → Q M') : dSetA (.ref p) (.str s) (.ref b) M Q := by
  obtain ⟨kvs, t, h1, h2, h3⟩ := h.ex
  obtain ⟨k1, k2, _⟩ := ts_keys h2 h3
  have h5 := sz5
  rw [y_putD h1]
  refine ⟨keyOk_f rfl k1, by omega, fun t' => q _ (fun c hc => mset_ne hc) ⟨_, t', mset_same, kys_nodup h2, fun d e he => ?_⟩⟩
  rw [valD_put] at he
  by_cases hd : d = .str s
  · rw [if_pos hd] at he
    injection he with he
    exact ⟨s, hs, hd, b, ls, he.symm, hba, hbp, by rw [mset_ne hbp]; exact hb, ho⟩
  · rw [if_neg hd] at he
    obtain ⟨s', hs', e1, c, ls', e2, c1, c2, c3, c4⟩ := h3 d e he
    exact ⟨s', hs', e1, c, ls', e2, c1, c2, by rw [mset_ne c2]; exact c3, c4⟩
def LnOk (m : Line) : Prop := 1 ≤ m.length ∧ m.length ≤ 6 ∧ ∀ x ∈ m, 0 ≤ x ∧ x ≤ 999999
def LsOk (n : Nat) (ls : List Line) : Prop := ls.Nodup ∧ ls.length ≤ n ∧ ∀ m ∈ ls, LnOk m
def BsG (names : List PySem.Str) (bs : Bans) : Prop := (bs.map (·.1)).Nodup ∧ ∀ q ∈ bs, q.1 ∈ names ∧ LsOk 14 q.2
def sp_bans : DSp := fun ds M Q => ∃ (a b : Addr) (n : Nat) (c : Bool) (names : List PySem.Str), ds = [.ref a, .ref b, .bl c] ∧ b ≠ a ∧ PoolAt M a n ∧ M b = some (.lst (names.map D.str)) ∧ names.length ≤ 4 ∧ n + 200 < 800000 ∧
  ∀ (bs : Bans) M', BsG names bs → (∀ c, c ≠ a → M' c = M c) → PoolAt M' a (n + 200) → Q (encB bs) M'
theorem But.rfl' {a : Addr} {M : Mem} : But a M M := fun _ _ _ h => h
theorem But.tr {a : Addr} {M M' M'' : Mem} (h : But a M M') (k : But a M' M'') : But a M M'' := fun b o n e => k b o n (h b o n e)
theorem But.eq {a : Addr} {M M' : Mem} (h : ∀ c, c ≠ a → M' c = M c) : But a M M' := fun b o n e => (h b n).trans e
theorem But.new {a p : Addr} {M : Mem} {o : MO} (h : M p = none) : But a M (mset M p o) := fun b u n e => by rw [mset_ne (fun z => by rw [z, h] at e; cases e)]; exact e
theorem PoolAt.ne {M : Mem} {a p : Addr} {n : Nat} (h : PoolAt M a n) (hp : M p = none) : p ≠ a := fun e => by
  obtain ⟨x, y, z, h1, _⟩ := h.ex
  rw [← e, hp] at h1
  cases h1
theorem PoolAt.new {M : Mem} {a p : Addr} {n : Nat} {o : MO} (h : PoolAt M a n) (hp : M p = none) : PoolAt (mset M p o) a n := h.sub (SubM.new hp)
theorem PoolAt.eqv {M M' : Mem} {a : Addr} {n : Nat} (h : PoolAt M a n) (e : M' a = M a) : PoolAt M' a n := let ⟨x, y, z, h1, h2⟩ := h.ex; ⟨x, y, z, e.trans h1, h2⟩
theorem But.put {a p : Addr} {M M' M'' : Mem} (h : But a M M') (hp : M p = none) (e : ∀ c, c ≠ p → M'' c = M' c) : But a M M'' := fun b o n x => (e b fun z => by rw [z, hp] at x; cases x).trans (h b o n x)
theorem bans_ok : ∀ ds M Q, sp_bans ds M Q → w__law_bans sp_draw sp_some (ends Q) (startD 10 ds) M := by
  rintro ds M Q ⟨a, nb, n, c, names, rfl, hba, hp, hb, hnl, hn, q⟩
  have h5 := sz5
  unfold w__law_bans
  simp [-Bool.exists_bool]
  refine ⟨by omega, fun p1 hp1 => ?_⟩
  refine ⟨a, n, 4, rfl, hp.new hp1, by omega, by omega, by omega, fun d0 M1 hd0 b1 q1 => ?_⟩
  have np1 : p1 ≠ a := hp.ne hp1
  have bt1 : But a M M1 := (But.new hp1).tr (But.eq b1)
  show dIxA (.ref p1) (.int d0) M1 _
  rw [y_ixL (show M1 p1 = _ from (b1 p1 np1).trans mset_same)]
  have hx0 : ∃ x0 : Int, L2.atI [D.int 0, .int 999999, .int 1, .int 7] (d0 : Int) = some (.int x0) ∧ 0 ≤ x0 ∧ x0 ≤ 999999 := by
    match d0, hd0 with
    | 0, _ => exact ⟨0, rfl, by omega, by omega⟩
    | 1, _ => exact ⟨999999, rfl, by omega, by omega⟩
    | 2, _ => exact ⟨1, rfl, by omega, by omega⟩
    | 3, _ => exact ⟨7, rfl, by omega, by omega⟩
  obtain ⟨x0, ex0, hx1, hx2⟩ := hx0
  refine ⟨_, ex0, ?_⟩
  refine ⟨a, n + 1, 1000000, rfl, q1, by omega, by omega, by omega, fun d1 M2 hd1 b2 q2 => ?_⟩
  refine ⟨a, n + 1 + 1, 1000000, rfl, q2, by omega, by omega, by omega, fun d2 M3 hd2 b3 q3 => ?_⟩
  simp [-Bool.exists_bool]
  have bt3 : But a M M3 := (bt1.tr (But.eq b2)).tr (But.eq b3)
  refine ⟨by omega, fun p2 hp2 => ⟨a, n + 1 + 1 + 1, 3, rfl, q3.new hp2, by omega, by omega, by omega, fun d3 M4 hd3 b4 q4 => ?_⟩⟩
  have np2 : p2 ≠ a := q3.ne hp2
  have bt4 : But a M M4 := (bt3.tr (But.new hp2)).tr (But.eq b4)
  simp [-Bool.exists_bool]
  have e3 : ((1 : Int) + (d3 : Int)) = ((1 + d3 : Nat) : Int) := by omega
  rw [e3]
  refine y_slRef (show M4 p2 = _ from (b4 p2 np2).trans mset_same) fun p3 hp3 => ?_
  rw [cut_to]
  have em : ∃ marks : List Int, [D.int x0, D.int ↑d1, D.int ↑d2].take (1 + d3) = marks.map D.int ∧ marks ≠ [] ∧ marks.length ≤ 10 ∧ ∀ x ∈ marks, 0 ≤ x ∧ x ≤ 999999 := by
    refine ⟨[x0, (d1 : Int), (d2 : Int)].take (1 + d3), by rw [List.map_take]; rfl, ?_, ?_, fun x hx => ?_⟩
    · rw [show 1 + d3 = d3 + 1 by omega]; simp
    · rw [List.length_take]; simp; omega
    · have := List.mem_of_mem_take hx
      simp at this
      omega
  obtain ⟨marks, em, mne, mlen, mrk⟩ := em
  rw [em]
  have np3 : p3 ≠ a := q4.ne hp3
  refine ⟨by omega, fun p4 hp4 => ?_⟩
  rw [y_ixL mset_same]
  have hmm : ∃ many most : Nat, L2.atI [D.tup [D.int 9, D.int 5], D.tup [D.int 14, D.int 6]] (if c = true then 1 else 0) = some (.tup [.int many, .int most]) ∧ many ≤ 14 ∧ 1 ≤ most ∧ most ≤ 6 := by
    cases c with
    | true => exact ⟨14, 6, rfl, by omega, by omega, by omega⟩
    | false => exact ⟨9, 5, rfl, by omega, by omega, by omega⟩
  obtain ⟨many, most, emm, hmany, hm1, hm6⟩ := hmm
  refine ⟨_, emm, _, rfl, rfl, ?_⟩
  intro p ta tb hp6
  have bt5 : But a M (mset (mset M4 p3 (.lst (marks.map D.int))) p4 (.lst [D.tup [D.int 9, D.int 5], D.tup [D.int 14, D.int 6]])) := (bt4.tr (But.new hp3)).tr (But.new hp4)
  have q5 : PoolAt (mset (mset M4 p3 (.lst (marks.map D.int))) p4 (.lst [D.tup [D.int 9, D.int 5], D.tup [D.int 14, D.int 6]])) a (n + 4) := (q4.new hp3).new hp4
  have g3 : (mset (mset M4 p3 (.lst (marks.map D.int))) p4 (.lst [D.tup [D.int 9, D.int 5], D.tup [D.int 14, D.int 6]])) p3 = some (.lst (marks.map D.int)) := by
    rw [mset_ne (fun e => by rw [← e, mset_same] at hp4; cases hp4), mset_same]
  generalize (mset (mset M4 p3 (.lst (marks.map D.int))) p4 (.lst [D.tup [D.int 9, D.int 5], D.tup [D.int 14, D.int 6]])) = M5 at bt5 q5 g3 hp6 ⊢
  have np : p ≠ a := q5.ne hp6
  have np3' : p3 ≠ p := fun e => by rw [← e, g3] at hp6; cases hp6
  have nbp : nb ≠ p := fun e => by rw [← e, bt5 nb _ hba hb] at hp6; cases hp6
  have hMp : M p = none := by
    cases h : M p with
    | none => rfl
    | some o => rw [bt5 p o np h] at hp6; cases hp6
  refine ⟨_, rfl, ?_⟩
  rw [y_srcL (show (mset M5 p (.dict [] (ta, tb))) nb = _ by rw [mset_ne nbp]; exact bt5 nb _ hba hb)]
  let I : Mem → Nat → Nat → Prop := fun M' m i => But a M M' ∧ PoolAt M' a m ∧ M' nb = some (.lst (names.map D.str)) ∧ M' p3 = some (.lst (marks.map D.int)) ∧ TS M' a p names (LsOk i)
  refine loop_map (xs := names) D.str (fun done ρ M' => I M' (n + 4 + done.length) 0 ∧ ∃ x7, ρ = [some (.ref a), some (.ref nb), some (.bl c), some (.ref p3), some (.int many), some (.int most), some (.ref p), x7, none, none]) ⟨⟨bt5.tr (But.new hp6), q5.new hp6, by rw [mset_ne nbp]; exact bt5 nb _ hba hb, by rw [mset_ne np3']; exact g3, ⟨[], (ta, tb), mset_same, List.nodup_nil, fun d e h => by cases h⟩⟩, none, rfl⟩ ?_ ?_
  · rintro done s rest hx ρ M' ⟨⟨i1, i2, i3, i4, i5⟩, x7, rfl⟩ N hN
    have hdl := congrArg List.length hx
    rw [List.length_append, List.length_cons] at hdl
    refine ⟨_, _, .refl, .refl, i3, ?_⟩
    unfold w__law_bans_1
    simp [-Bool.exists_bool]
    refine ⟨a, n + 4 + done.length, 5, rfl, i2, by omega, by omega, by omega, fun d4 M6 hd4 b6 q6 => ?_⟩
    have bt6 : But a M' M6 := But.eq b6
    simp [-Bool.exists_bool]
    by_cases hz : d4 = 0
    · subst hz
      simp [-Bool.exists_bool]
      exact hN _ _ ⟨⟨i1.tr bt6, by simpa [Nat.add_assoc] using q6, bt6 _ _ hba i3, bt6 _ _ np3 i4, i5.but np bt6⟩, _, rfl⟩
    · rw [if_pos (by omega)]
      intro p7 hp7
      have i5' := (i5.but np bt6)
      have np7 : p7 ≠ a := q6.ne hp7
      have hpp : p7 ≠ p := fun e => by
        obtain ⟨kvs, t, h1, _⟩ := i5'.ex
        rw [← e, hp7] at h1; cases h1
      have bt7 : But a M6 (mset M6 p7 (.lst [])) := But.new hp7
      refine (i5'.but np bt7).put (ls := []) (by rw [hx]; simp) (by omega) np7 hpp mset_same ⟨List.nodup_nil, by simp, by simp⟩ fun M8 hM8 ts => ?_
      exact hN _ _ ⟨⟨((i1.tr bt6).tr bt7).put hMp hM8, ((q6.new hp7).eqv (hM8 a np.symm)).more (by simp; omega), (hM8 _ nbp).trans (bt7 _ _ hba (bt6 _ _ hba i3)), (hM8 _ np3').trans (bt7 _ _ np3 (bt6 _ _ np3 i4)), ts⟩, _, rfl⟩
  · rintro ρ M' ⟨⟨i1, i2, i3, i4, i5⟩, x7, rfl⟩
    refine ⟨_, _, .refl, .refl, i3, ?_⟩
    simp [-Bool.exists_bool]
    have e1 : ((many : Int) + 1) = ((many + 1 : Nat) : Int) := by omega
    refine ⟨a, n + 4 + names.length, many + 1, by rw [e1], i2, by omega, by omega, by omega, fun turns M6 ht b6 q6 => ?_⟩
    have bt6 : But a M' M6 := But.eq b6
    simp [-Bool.exists_bool]
    refine ⟨rg (i := 0) (by omega) (by omega), ?_⟩
    refine loop_range (lo := 0) (n := turns) (fun i ρ M' => I M' (n + 9 + 12 * i) i ∧ ∃ x7 x8 x9, ρ = [some (.ref a), some (.ref nb), some (.bl c), some (.ref p3), some (.int many), some (.int most), some (.ref p), x7, x8, x9]) ⟨⟨i1.tr bt6, q6.more (by omega), bt6 _ _ hba i3, bt6 _ _ np3 i4, i5.but np bt6⟩, x7, none, none, rfl⟩ ?_ ?_
    · rintro i hi ρ M7 ⟨⟨j1, j2, j3, j4, j5⟩, x7, x8, x9, rfl⟩ N hN
      refine ⟨_, _, .refl, .refl, trivial, ?_⟩
      unfold w__law_bans_2
      simp [-Bool.exists_bool]
      obtain ⟨kvs, t, h1, h2, h3⟩ := j5.ex
      obtain ⟨k1, k2, ss, ess, nss, hss⟩ := ts_keys h2 h3
      rw [y_lenD h1]
      simp [-Bool.exists_bool]
      have lk : kvs.length = ss.length := by
        have := congrArg List.length ess
        rw [List.length_map] at this
        exact (List.length_map (as := kvs) (·.1)).symm.trans this
      by_cases h0 : kvs.length = 0
      · rw [if_neg (by omega)]
        exact hN _ _ ⟨⟨j1, j2.more (by omega), j3, j4, j5.imp fun ls h => ⟨h.1, by have := h.2.1; omega, h.2.2⟩⟩, _, _, _, rfl⟩
      · rw [if_pos (by omega)]
        rw [y_sortedD h1]
        show SortOk (kys kvs) ∧ _
        rw [ess]
        obtain ⟨ms, ems, nms, lms, hms⟩ := sort_strs ss nss
        refine ⟨sortOk_strs ss, fun p8 hp8 => ?_⟩
        rw [show kvs.map (·.1) = _ from ess, ems]
        have bt8 : But a M7 (mset M7 p8 (.lst (ms.map D.str))) := But.new hp8
        have np8 : p8 ≠ a := j2.ne hp8
        have n8 : p ≠ p8 := fun e => by rw [e, hp8] at h1; cases h1
        have h1' := bt8 _ _ np h1
        show dLen [.ref p] _ _
        rw [y_lenD h1']
        refine ⟨a, n + 9 + 12 * i, kvs.length, rfl, j2.new hp8, by omega, by omega, by omega, fun e M9 he b9 q9 => ?_⟩
        have bt9 : But a M7 M9 := bt8.tr (But.eq b9)
        show dIxA (.ref p8) (.int e) M9 _
        rw [y_ixL (show M9 p8 = _ from (b9 p8 np8).trans mset_same)]
        have hem : e < ms.length := by omega
        refine ⟨.str ms[e], at_nat (by rw [List.getElem?_map, List.getElem?_eq_getElem hem]; rfl), ?_⟩
        have hsm : ms[e] ∈ ss := (hms _).mp (List.getElem_mem hem)
        generalize ms[e] = s at hsm
        have hsk : D.str s ∈ kys kvs := by rw [ess]; exact List.mem_map_of_mem hsm
        obtain ⟨ev, hev⟩ := key_val hsk
        obtain ⟨s', hs', es, b, ls, rfl, nba, nbp', hbl, hok⟩ := h3 _ _ hev
        refine ⟨a, p3, n + 9 + 12 * i + 1, most, marks, rfl, np3, q9, bt9 _ _ np3 j4, mne, mlen, hm1, by omega, by omega, fun l M10 l1 l2 lm b10 q10 => ?_⟩
        have bt10 : But a M7 M10 := bt9.tr (But.eq b10)
        have g10 := bt10 _ _ np h1
        have gb := bt10 _ _ nba hbl
        have kO : keyOk kvs (.str s) := keyOk_f rfl k1
        simp [-Bool.exists_bool]
        rw [y_ixD g10]
        refine ⟨kO, _, hev, ?_⟩
        show dIn not (encL l) (.ref b) M10 _
        rw [y_inL gb]
        refine inL_cl (encL_cl l) (cls_lines ls) (by rw [encL_dep]; decide) (by have := deps_lines ls; omega) ?_
        simp [-Bool.exists_bool]
        have hmore : TS M10 a p names (LsOk (i + 1)) := (j5.but np bt10).imp fun ls h => ⟨h.1, by have := h.2.1; omega, h.2.2⟩
        have hend : ∀ M11, But a M7 M11 → PoolAt M11 a (n + 9 + 12 * i + 1 + 11) → TS M11 a p names (LsOk (i + 1)) → I M11 (n + 9 + 12 * (i + 1)) (i + 1) := fun M11 u1 u2 u3 => ⟨j1.tr u1, u2.more (by omega), u1 _ _ hba j3, u1 _ _ np3 j4, u3⟩
        by_cases hin : ∀ x ∈ ls, ¬ encL x = encL l
        · rw [if_pos hin, y_ixD g10]
          refine ⟨kO, _, hev, ⟨by omega, fun p11 hp11 => ?_⟩⟩
          have n11 : p11 ≠ a := q10.ne hp11
          have bt11 : But a M10 (mset M10 p11 (.lst [encL l])) := But.new hp11
          refine y_addL (bt11 _ _ nba gb) mset_same (by have := hok.2.1; rw [List.length_map]; show ls.length + 1 ≤ _; omega) fun p12 hp12 => ?_
          have q11 := q10.new (o := .lst [encL l]) hp11
          have n12 : p12 ≠ a := q11.ne hp12
          have bt12 : But a (mset M10 p11 (.lst [encL l])) (mset (mset M10 p11 (.lst [encL l])) p12 (.lst (ls.map encL ++ [encL l]))) := But.new hp12
          have bt13 := (bt10.tr bt11).tr bt12
          have hp12p : p12 ≠ p := fun e => by
            have := bt11 _ _ np g10
            rw [← e, hp12] at this; cases this
          have hl : LnOk l := ⟨l1, by omega, fun x hx => mrk x (lm x hx)⟩
          refine (hmore.but np (bt11.tr bt12)).put (ls := ls ++ [l]) (hss _ hsm) (by omega) n12 hp12p (by rw [mset_same, List.map_append]; rfl) ⟨?_, ?_, fun m hm => ?_⟩ fun M13 hM13 ts => ?_
          · rw [List.nodup_append]
            refine ⟨hok.1, by simp, fun x hx y hy e => ?_⟩
            rw [List.mem_singleton] at hy
            subst hy; subst e
            exact hin x hx rfl
          · have := hok.2.1
            simp; omega
          · rw [List.mem_append, List.mem_singleton] at hm
            rcases hm with hm | rfl
            · exact hok.2.2 m hm
            · exact hl
          · refine hN _ _ ⟨⟨j1.tr ?_ |>.put hMp hM13, ((q11.new hp12).eqv (hM13 a np.symm)).more (by omega), (hM13 _ nbp).trans (bt13 _ _ hba j3), (hM13 _ np3').trans (bt13 _ _ np3 j4), ts⟩, _, _, _, rfl⟩
            exact bt13
        · rw [if_neg hin]
          exact hN _ _ ⟨hend _ bt10 q10 hmore, _, _, _, rfl⟩
    · rintro ρ M7 ⟨⟨j1, j2, j3, j4, j5⟩, x7, x8, x9, rfl⟩
      refine ⟨_, _, .refl, .refl, trivial, ?_⟩
      simp [-Bool.exists_bool]
      obtain ⟨kvs, t, h1, h2, h3⟩ := j5.ex
      obtain ⟨k1, k2, ss, ess, nss, hss⟩ := ts_keys h2 h3
      rw [y_sortedD h1]
      show SortOk (kys kvs) ∧ _
      rw [ess]
      obtain ⟨ms, ems, nms, lms, hms⟩ := sort_strs ss nss
      refine ⟨sortOk_strs ss, fun p8 hp8 => ?_⟩
      rw [show kvs.map (·.1) = _ from ess, ems]
      have bt8 : But a M7 (mset M7 p8 (.lst (ms.map D.str))) := But.new hp8
      have h1' := bt8 _ _ np h1
      have hL : ∀ s : PySem.Str, ∃ ls : List Line, s ∈ ms → LsOk 14 ls ∧ ∃ b, valD kvs (.str s) = some (.ref b) ∧ (mset M7 p8 (.lst (ms.map D.str))) b = some (.lst (ls.map encL)) := fun s => by
        by_cases hs : s ∈ ms
        · obtain ⟨ev, hev⟩ := key_val (show D.str s ∈ kys kvs by rw [ess]; exact List.mem_map_of_mem ((hms s).mp hs))
          obtain ⟨s', hs', es, b, ls, rfl, nba, nbp', hbl, hok⟩ := h3 _ _ hev
          exact ⟨ls, fun _ => ⟨⟨hok.1, by have := hok.2.1; omega, hok.2.2⟩, b, hev, bt8 _ _ nba hbl⟩⟩
        · exact ⟨[], fun h => absurd h hs⟩
      obtain ⟨L, hL⟩ := Classical.axiomOfChoice hL
      have hml : ms.length ≤ 4 := by
        have := nodup_le nss hss
        omega
      show withSrc (.ref p8) _ _
      rw [y_srcL mset_same]
      refine comp_all D.str (fun s => .tup [.str s, .tup ((L s).map encL)]) mset_same (fun s hs N n => ?_) (by omega) ?_
      · obtain ⟨_, b, hev, hb'⟩ := hL s hs
        simp [-Bool.exists_bool]
        rw [y_ixD h1']
        refine ⟨keyOk_f rfl k1, _, hev, ?_⟩
        show dTuple [.ref b] _ _
        rw [y_tupL hb']
        exact ⟨by omega, n⟩
      · intro p9 hp9
        show dTuple [.ref p9] _ _
        rw [y_tupL mset_same]
        have g := q (ms.map fun s => (s, L s)) (fun b => if b = a then M7 a else M b) ⟨?_, fun q hq => ?_⟩ (fun c hc => if_neg hc) (PoolAt.more (j2.eqv (if_pos rfl)) (by omega))
        · have e : encB (ms.map fun s => (s, L s)) = .tup (ms.map fun s => D.tup [.str s, .tup ((L s).map encL)]) := by
            unfold encB
            rw [List.map_map]
            rfl
          rw [e] at g
          refine drops_to ?_ g
          intro b o hbo
          have hbo' : M7 b = some o := by
            by_cases hb' : b = a
            · subst hb'
              exact (if_pos rfl).symm.trans hbo
            · exact j1 b o hb' ((if_neg hb').symm.trans hbo)
          exact SubM.new hp9 _ _ (SubM.new hp8 _ _ hbo')
        · rw [List.map_map]
          have : ((fun x => x.1) ∘ fun s => (s, L s)) = (id : PySem.Str → PySem.Str) := rfl
          rw [show ((·.1) ∘ fun s => (s, L s)) = (id : PySem.Str → PySem.Str) from rfl, List.map_id]
          exact nms
        · rw [List.mem_map] at hq
          obtain ⟨s, hs, rfl⟩ := hq
          exact ⟨hss _ ((hms s).mp hs), (hL s hs).1⟩
end F83

set_option Elab.async false
set_option linter.all false
set_option maxRecDepth 100000
set_option maxHeartbeats 4000000
namespace F83
open PySem PySem.Spec PyProof.Rows L2 Fw
/-! _law_line_of_lists -/
theorem ban_true {ds : List D} (h1 : ds.length ≤ 100) (h2 : ∀ d ∈ ds, pairOk d = true) (h3 : (ds.map fstD).Nodup) (h4 : (ds.map cntD).sum ≤ 100) : isBanD (.tup ds) = true := by
  unfold isBanD
  simp only [Bool.and_eq_true, Bool.not_eq_true', decide_eq_false_iff_not, decide_eq_true_eq]
  exact ⟨⟨⟨by omega, List.all_eq_true.mpr h2⟩, h3⟩, h4⟩
theorem ban_false {ds : List D} (h : 100 < ds.length ∨ (∃ d ∈ ds, pairOk d = false) ∨ ¬ (ds.map fstD).Nodup ∨ 100 < (ds.map cntD).sum) : isBanD (.tup ds) = false := by
  rw [Bool.eq_false_iff]
  intro e
  unfold isBanD at e
  simp only [Bool.and_eq_true, Bool.not_eq_true', decide_eq_false_iff_not, decide_eq_true_eq] at e
  obtain ⟨⟨⟨e1, e2⟩, e3⟩, e4⟩ := e
  rcases h with h | ⟨d, hd, h⟩ | h | h
  · exact e1 h
  · rw [List.all_eq_true.mp e2 d hd] at h; cases h
  · exact h e3
  · omega
abbrev aN (k : Nat) : PySem.Str := Str.ofString "a" ++ Str.ofString (toString ((k : Nat) : Int))
theorem aN_inj {a b : Nat} (h : aN a = aN b) : a = b := by
  have h1 : TL.tl (aN a) = TL.tl (aN b) := by rw [h]
  rw [TL.tl_append, TL.tl_append, TL.tl_num, TL.tl_num] at h1
  exact TL.numL_inj (List.append_cancel_left h1)
theorem aN_atom (k : Nat) (h : k < 1000) : isAtom (aN k) = true ∧ (aN k).length ≤ 20 := by
  have ea : TL.tl (Str.ofString "a") = [97] := by decide
  have hl97 : 97 ∈ lets.cps.toList := by decide
  have e1 : ∃ t, TL.numL k = t ∧ t.length ≤ 3 ∧ ∀ c ∈ t, c ∈ digs.cps.toList := by
    by_cases h0 : k = 0
    · subst h0
      exact ⟨_, rfl, by decide, by decide⟩
    · obtain ⟨x, t, e, _, hl, hd⟩ := num_digits 3 k h (by omega)
      exact ⟨x :: t, e, hl, hd⟩
  obtain ⟨t, et, tl3, td⟩ := e1
  have e2 : (aN k).cps.toList = 97 :: t := by
    show TL.tl _ = _
    rw [TL.tl_append, TL.tl_num, ea, et]; rfl
  refine ⟨base_plain (n := t.length) ⟨97, t, e2, hl97, fun x hx => ?_, rfl⟩ (by omega), ?_⟩
  · unfold okCh
    rcases List.mem_cons.mp hx with rfl | hx
    · rw [decide_eq_true hl97, Bool.true_or]
    · rw [decide_eq_true (td x hx), Bool.or_true]
  · rw [← len_cps, e2]
    simp; omega
def lnJ (j : Nat) : Line := [(j : Int) / 1000, (j : Int)]
def prJ (k m : Nat) : D := .tup [.str (aN k), .tup ((List.range m).map fun j => encL (lnJ j))]
theorem lineD_enc {l : Line} (h1 : 1 ≤ l.length) (h2 : l.length ≤ 80) (h3 : ∀ x ∈ l, 0 ≤ x ∧ x ≤ 999999) : isLineD (encL l) = true := by
  unfold encL isLineD
  simp only [Bool.and_eq_true, Bool.not_eq_true', decide_eq_false_iff_not, List.length_map]
  refine ⟨⟨by omega, by omega⟩, List.all_eq_true.mpr fun d hd => ?_⟩
  rw [List.mem_map] at hd
  obtain ⟨x, hx, rfl⟩ := hd
  have := h3 x hx
  unfold isMark
  simp only [Bool.and_eq_true, decide_eq_true_eq]
  exact this
theorem unlike_enc {ls : List Line} (h1 : ∀ l ∈ ls, isLineD (encL l) = true) (h2 : ls.Nodup) : unlikeD (.tup (ls.map encL)) = true := by
  unfold unlikeD
  simp only [Bool.and_eq_true, decide_eq_true_eq]
  refine ⟨List.all_eq_true.mpr fun d hd => ?_, ?_⟩
  · rw [List.mem_map] at hd
    obtain ⟨x, hx, rfl⟩ := hd
    exact h1 x hx
  · rw [List.Nodup, List.pairwise_map]
    exact h2.imp fun h e => h (encL_inj.mp e)
theorem prJ_ok {k m : Nat} (hk : k < 1000) (hm : m ≤ 1000) : pairOk (prJ k m) = true := by
  unfold prJ pairOk
  rw [Bool.and_eq_true]
  refine ⟨(aN_atom k hk).1, ?_⟩
  have e : ((List.range m).map fun j => encL (lnJ j)) = ((List.range m).map lnJ).map encL := by rw [List.map_map]; rfl
  rw [e]
  refine unlike_enc (fun l hl => ?_) ?_
  · rw [List.mem_map] at hl
    obtain ⟨j, hj, rfl⟩ := hl
    rw [List.mem_range] at hj
    refine lineD_enc (by show 1 ≤ 2; omega) (by show 2 ≤ 80; omega) fun x hx => ?_
    simp [lnJ] at hx
    omega
  · rw [List.Nodup, List.pairwise_map]
    refine List.nodup_range.imp fun h e => h ?_
    simp [lnJ] at e
    omega
/-- the same kinds of things -/
def TyM (M M' : Mem) : Prop := ∀ a t, tyD (.ref a) M = some t → tyD (.ref a) M' = some t
theorem TyM.rfl' {M : Mem} : TyM M M := fun _ _ h => h
theorem TyM.tr {M M' M'' : Mem} (h : TyM M M') (k : TyM M' M'') : TyM M M'' := fun a t e => k a t (h a t e)
theorem SubM.ty {M M' : Mem} (s : SubM M M') : TyM M M' := fun a t h => by
  unfold tyD at h ⊢
  simp only at h ⊢
  cases c : M a with
  | none => rw [c] at h; cases h
  | some o => rw [s a o c]; rw [c] at h; exact h
theorem TyM.lst {M : Mem} {a : Addr} {ds es : List D} (h : M a = some (.lst ds)) : TyM M (mset M a (.lst es)) := fun b t e => by
  by_cases hb : b = a
  · subst hb
    unfold tyD at e ⊢
    simp only [h, mset_same] at e ⊢
    exact e
  · unfold tyD at e ⊢
    simp only [mset_ne hb]
    exact e
theorem knT_ty {M M' : Mem} (s : TyM M M') {d : D} (h : knT M d) : knT M' d := by
  cases d with
  | ref a => obtain ⟨t, h⟩ := h; exact ⟨t, s a t h⟩
  | _ => exact h
theorem knA_ty {M M' : Mem} (s : TyM M M') {d : D} (h : knA M d) : knA M' d := by
  cases d with
  | tup ds => exact fun x hx => knT_ty s (h x hx)
  | ref a => exact knT_ty s (d := .ref a) h
  | _ => exact h
theorem knB_ty {M M' : Mem} (s : TyM M M') {d : D} (h : knB M d) : knB M' d := by
  cases d with
  | tup ds => exact ⟨h.1, fun x hx => knA_ty s (h.2 x hx)⟩
  | ref a => exact knT_ty s (d := .ref a) h
  | _ => exact h
theorem knP_ty {M M' : Mem} (s : TyM M M') {d : D} (h : knP M d) : knP M' d := by
  unfold knP at h ⊢
  split at h
  · exact ⟨knT_ty s h.1, knB_ty s h.2⟩
  · exact knT_ty s h
theorem knC_ty {M M' : Mem} (s : TyM M M') {d : D} (h : knC M d) : knC M' d := by
  cases d with
  | tup ds => exact ⟨h.1, fun x hx => knP_ty s (h.2 x hx)⟩
  | ref a => exact knT_ty s (d := .ref a) h
  | _ => exact h
theorem knA_enc {M : Mem} (l : Line) : knA M (encL l) := fun x hx => by
  rw [List.mem_map] at hx
  obtain ⟨i, _, rfl⟩ := hx
  exact trivial
theorem knB_enc {M : Mem} {ls : List Line} (h : ls.length ≤ 1000) : knB M (.tup (ls.map encL)) := ⟨by rw [List.length_map]; exact h, fun x hx => by
  rw [List.mem_map] at hx
  obtain ⟨l, _, rfl⟩ := hx
  exact knA_enc l⟩
def sp_lol : DSp := fun ds M Q => ∃ (a : Addr) (n many : Nat), ds = [.ref a, .int many] ∧ PoolAt M a n ∧ n < 900000 ∧ (many = 100 ∨ many = 101) ∧
  ∀ (d : D) M', isBanD d = decide (many = 100) → knC M' d → (∀ c, c ≠ a → M' c = M c) → PoolAt M' a (n + 1) → Q d M'
theorem lol_ok : ∀ ds M Q, sp_lol ds M Q → w__law_line_of_lists sp_draw (ends Q) (startD 6 ds) M := by
  rintro ds M Q ⟨a, n, many, rfl, hp, hn, hm, q⟩
  have h5 := sz5
  unfold w__law_line_of_lists
  simp [-Bool.exists_bool]
  refine ⟨by omega, fun p1 hp1 => ⟨by omega, fun p2 hp2 => ⟨by unfold CDiv; omega, by omega, fun p3 hp3 => ⟨by omega, fun p4 hp4 => ?_⟩⟩⟩⟩
  have q1 := hp.new (o := .lst [D.int ↑many]) hp1
  have n1 := hp.ne hp1
  have c2 : p1 ≠ p2 := fun e => by rw [← e, mset_same] at hp2; cases hp2
  have n2 := q1.ne hp2
  have q2 := q1.new (o := .lst [D.int (↑many - 1), D.int 1]) hp2
  have c3 : p2 ≠ p3 := fun e => by rw [← e, mset_same] at hp3; cases hp3
  have d3 : p1 ≠ p3 := fun e => by rw [← e, mset_ne c2, mset_same] at hp3; cases hp3
  have n3 := q2.ne hp3
  have q3 := q2.new (o := .lst [D.int (↑many / 2), D.int (↑many - ↑many / 2), D.int 0]) hp3
  have c4 : p3 ≠ p4 := fun e => by rw [← e, mset_same] at hp4; cases hp4
  have d4 : p2 ≠ p4 := fun e => by rw [← e, mset_ne c3, mset_same] at hp4; cases hp4
  have e4 : p1 ≠ p4 := fun e => by rw [← e, mset_ne d3, mset_ne c2, mset_same] at hp4; cases hp4
  have n4 := q3.ne hp4
  have q4 := q3.new (o := .lst [D.ref p1, D.ref p2, D.ref p3]) hp4
  refine ⟨a, n, 3, rfl, q4, by omega, by omega, by omega, fun d0 M1 hd0 b1 q5 => ?_⟩
  have bt : But a M M1 := ((((But.new hp1).tr (But.new hp2)).tr (But.new hp3)).tr (But.new hp4)).tr (But.eq b1)
  show dIxA (.ref p4) (.int d0) M1 _
  rw [y_ixL (show M1 p4 = _ from (b1 p4 n4).trans mset_same)]
  have hP : ∃ (b : Addr) (P : List Nat), L2.atI [D.ref p1, D.ref p2, D.ref p3] (d0 : Int) = some (.ref b) ∧ M1 b = some (.lst (P.map fun m : Nat => D.int (m : Int))) ∧ P.length ≤ 3 ∧ (∀ m ∈ P, m ≤ 101) ∧ P.sum = many := by
    match d0, hd0 with
    | 0, _ => exact ⟨p1, [many], rfl, by rw [b1 p1 n1, mset_ne e4, mset_ne d3, mset_ne c2, mset_same]; rfl, by simp, by simp; omega, by simp⟩
    | 1, _ =>
      refine ⟨p2, [many - 1, 1], rfl, ?_, by simp, by simp; omega, by simp; omega⟩
      rw [b1 p2 n2, mset_ne d4, mset_ne c3, mset_same]
      rw [show ((many : Int) - 1) = ((many - 1 : Nat) : Int) by omega]; rfl
    | 2, _ =>
      refine ⟨p3, [many / 2, many - many / 2, 0], rfl, ?_, by simp, by simp; omega, by simp; omega⟩
      rw [b1 p3 n3, mset_ne c4, mset_same]
      rw [show ((many : Int) - (many : Int) / 2) = ((many - many / 2 : Nat) : Int) by omega, show ((many : Int) / 2) = ((many / 2 : Nat) : Int) by omega]; rfl
  obtain ⟨b, P, eP, hPb, lP, mP, sP⟩ := hP
  refine ⟨_, eP, fun p5 hp5 => ?_⟩
  have n5 : p5 ≠ b := fun e => by rw [e, hPb] at hp5; cases hp5
  have n6 : p5 ≠ a := q5.ne hp5
  rw [y_lenL (show mset M1 p5 (.lst []) b = _ by rw [mset_ne n5.symm]; exact hPb)]
  simp only [List.length_map]
  refine ⟨rg (i := 0) (by omega) (by omega), ?_⟩
  rw [Int.toNat_natCast]
  have hMp : ∀ M', (∀ c o, M1 c = some o → M' c = some o) → But a M M' := fun M' h => bt.tr fun c o _ e => h c o e
  refine loop_range (lo := 0) (n := P.length) (fun i ρ M' => SubM M1 M' ∧ M' p5 = some (.lst ((List.range i).map fun k => prJ k (P[k]?.getD 0))) ∧ ∃ x y, ρ = [some (.ref a), some (.int many), some (.ref b), some (.ref p5), x, y]) ⟨SubM.new hp5, mset_same, none, none, rfl⟩ ?_ ?_
  · rintro i hi ρ M' ⟨sm, hm5, x, y, rfl⟩ N hN
    refine ⟨_, _, .refl, .refl, trivial, ?_⟩
    have gb := sm _ _ hPb
    unfold w__law_line_of_lists_1
    simp [-Bool.exists_bool]
    obtain ⟨ai, al⟩ := aN_atom i (by omega)
    have el : (aN i).length = (Str.ofString "a").length + (Str.ofString (toString ((i : Nat) : Int))).length := by
      show (Str.ofString "a" ++ Str.ofString (toString ((i : Nat) : Int))).length = _
      rw [← len_cps, ← len_cps, ← len_cps]
      show (TL.tl _).length = (TL.tl _).length + (TL.tl _).length
      rw [TL.tl_append, List.length_append]
    refine ⟨⟨_, hm5⟩, ?_, ?_, ?_⟩
    · exact Nat.lt_of_le_of_lt (Nat.log2_le_self i) (by omega)
    · have el' : (aN i).length = (Str.ofString "a").length + (Str.ofString (((i : Nat) : Int).repr)).length := el
      omega
    rw [y_ixL gb]
    have hPi : P[i]? = some P[i] := List.getElem?_eq_getElem hi
    refine ⟨.int (P[i] : Int), at_nat (by rw [List.getElem?_map, hPi]; rfl), ?_⟩
    have hPm : P[i] ≤ 101 := mP _ (List.getElem_mem hi)
    generalize hpm : P[i] = m at hPm
    refine ⟨rg (i := 0) (by omega) (by omega), ?_⟩
    have er : ranged 0 ((m : Int)).toNat = (List.range m).map fun j : Nat => D.int (j : Int) := by unfold ranged; simp
    rw [er]
    refine comp_all (fun j : Nat => D.int (j : Int)) (fun j => encL (lnJ j)) trivial (fun j hj N' n => ?_) (by rw [List.length_range]; omega) ?_
    · simp [-Bool.exists_bool]
      exact ⟨by rw [List.mem_range] at hj; unfold CDiv; omega, by omega, n⟩
    · intro p6 hp6
      rw [y_tupL mset_same]
      have n7 : p5 ≠ p6 := fun e => by rw [← e, hm5] at hp6; cases hp6
      refine ⟨by omega, _, by rw [mset_ne n7]; exact hm5, by simp; omega, hN _ _ ⟨(sm.trans (SubM.new hp6)).set hp5, ?_, _, _, rfl⟩⟩
      rw [mset_same, List.range_succ, List.map_append]
      have e2 : prJ i (P[i]?.getD 0) = prJ i m := by rw [hPi, ← hpm]; rfl
      show _ = some (MO.lst (_ ++ [prJ i (P[i]?.getD 0)]))
      rw [e2]
      rfl
  · rintro ρ M' ⟨sm, hm5, x, y, rfl⟩
    refine ⟨_, _, .refl, .refl, trivial, ?_⟩
    simp [-Bool.exists_bool]
    rw [y_tupL hm5]
    have hall : ∀ k ∈ List.range P.length, P[k]?.getD 0 ≤ 101 := fun k hk => by
      rw [List.mem_range] at hk
      rw [List.getElem?_eq_getElem hk]
      exact mP _ (List.getElem_mem hk)
    have g := q (.tup ((List.range P.length).map fun k => prJ k (P[k]?.getD 0))) (fun c => if c = a then M' a else M c) ?_ ⟨by simp; omega, fun x hx => ?_⟩ (fun c hc => if_neg hc) (PoolAt.more (PoolAt.eqv (q5.sub sm) (if_pos rfl)) (by omega))
    · refine drops_to ?_ g
      intro c o hc
      by_cases hca : c = a
      · subst hca
        exact (if_pos rfl).symm.trans hc
      · exact sm _ _ (bt c o hca ((if_neg hca).symm.trans hc))
    · have hs : ((List.range P.length).map fun k => P[k]?.getD 0) = P := by
        apply List.ext_getElem?
        intro k
        rw [List.getElem?_map]
        by_cases hk : k < P.length
        · rw [List.getElem?_range hk, Option.map_some, List.getElem?_eq_getElem hk]; rfl
        · rw [List.getElem?_eq_none (l := P) (by omega), List.getElem?_eq_none (l := List.range P.length) (by rw [List.length_range]; omega)]; rfl
      have hc : (((List.range P.length).map fun k => prJ k (P[k]?.getD 0)).map cntD) = P := by
        rw [List.map_map]
        conv => rhs; rw [← hs]
        refine List.map_congr_left fun k _ => ?_
        show (List.map _ (List.range _)).length = _
        rw [List.length_map, List.length_range]
      rcases hm with rfl | rfl
      · rw [decide_eq_true rfl]
        refine ban_true (by simp; omega) (fun d hd => ?_) ?_ (by rw [hc]; omega)
        · rw [List.mem_map] at hd
          obtain ⟨k, hk, rfl⟩ := hd
          exact prJ_ok (by have := List.mem_range.mp hk; omega) (by have := hall k hk; omega)
        · rw [List.map_map, List.Nodup, List.pairwise_map]
          refine List.nodup_range.imp fun h e => h (aN_inj ?_)
          injection (show D.str (aN _) = D.str (aN _) from e)
      · rw [decide_eq_false (by decide)]
        exact ban_false (.inr (.inr (.inr (by rw [hc]; omega))))
    · rw [List.mem_map] at hx
      obtain ⟨k, hk, rfl⟩ := hx
      have hkl : k < P.length := List.mem_range.mp hk
      refine ⟨show (aN k).length ≤ sizeLine by have := (aN_atom k (by omega)).2; omega, ?_⟩
      have e : ((List.range (P[k]?.getD 0)).map fun j => encL (lnJ j)) = ((List.range (P[k]?.getD 0)).map lnJ).map encL := by rw [List.map_map]; rfl
      rw [e]
      exact knB_enc (by have := hall k hk; simp; omega)
end F83

set_option Elab.async false
set_option linter.all false
set_option maxRecDepth 100000
set_option maxHeartbeats 4000000
namespace F83
open PySem PySem.Spec PyProof.Rows L2 Fw
/-! _law_things -/
structure Th (M : Mem) (p : Addr) (n : Nat) : Prop where
  ex : ∃ zs : List (Addr × D × Bool), M p = some (.lst (zs.map fun z => D.ref z.1)) ∧ zs.length ≤ n ∧ ∀ z ∈ zs, z.1 ≠ p ∧ M z.1 = some (.lst [z.2.1, .bl z.2.2]) ∧ isBanD z.2.1 = z.2.2 ∧ knC M z.2.1
theorem Th.sub {M M' : Mem} {p : Addr} {n : Nat} (h : Th M p n) (s : SubM M M') : Th M' p n := by
  obtain ⟨zs, h1, h2, h3⟩ := h.ex
  exact ⟨zs, s _ _ h1, h2, fun z hz => let ⟨a, b, c, d⟩ := h3 z hz; ⟨a, s _ _ b, c, knC_ty (SubM.ty s) d⟩⟩
theorem Th.more {M : Mem} {p : Addr} {n m : Nat} (h : Th M p n) (hm : n ≤ m) : Th M p m := by
  obtain ⟨zs, h1, h2, h3⟩ := h.ex
  exact ⟨zs, h1, by omega, h3⟩
theorem Th.app {M : Mem} {p q : Addr} {n : Nat} {d : D} {b : Bool} {R : Mem → Prop} (h : Th M p n) (hn : n < 1000) (hq : M q = some (.lst [d, .bl b])) (hqp : q ≠ p) (hb : isBanD d = b) (hk : knC M d) (k : ∀ M', (∀ c, c ≠ p → M' c = M c) → Th M' p (n + 1) → R M') : ∃ ds, M p = some (.lst ds) ∧ ds.length < sizeLine ∧ R (mset M p (.lst (ds ++ [.ref q]))) := by
  have h5 := sz5
  obtain ⟨zs, h1, h2, h3⟩ := h.ex
  refine ⟨_, h1, by rw [List.length_map]; omega, k _ (fun c hc => mset_ne hc) ⟨zs ++ [(q, d, b)], by rw [mset_same, List.map_append]; rfl, by simp; omega, fun z hz => ?_⟩⟩
  have ty : TyM M (mset M p (.lst (zs.map (fun z => D.ref z.1) ++ [.ref q]))) := TyM.lst h1
  rw [List.mem_append, List.mem_singleton] at hz
  rcases hz with hz | rfl
  · obtain ⟨a, b, c, d⟩ := h3 z hz
    exact ⟨a, by rw [mset_ne a]; exact b, c, knC_ty ty d⟩
  · exact ⟨hqp, by rw [mset_ne hqp]; exact hq, hb, knC_ty ty hk⟩
theorem Th.fresh {M : Mem} {p q : Addr} {n : Nat} (h : Th M p n) (hq : M q = none) : q ≠ p := fun e => by
  obtain ⟨zs, h1, _⟩ := h.ex
  rw [← e, hq] at h1
  cases h1
theorem Th.item {M : Mem} {p q : Addr} {n : Nat} {d : D} {b : Bool} {R : Mem → Prop} (h : Th M p n) (hn : n < 1000) (hq : M q = none) (hb : isBanD d = b) (hk : knC M d) (k : ∀ M', (∀ c o, c ≠ p → M c = some o → M' c = some o) → TyM M M' → Th M' p (n + 1) → R M') : ∃ ds, mset M q (.lst [d, .bl b]) p = some (.lst ds) ∧ ds.length < sizeLine ∧ R (mset (mset M q (.lst [d, .bl b])) p (.lst (ds ++ [.ref q]))) := by
  have hqp := h.fresh hq
  have sb : SubM M (mset M q (.lst [d, .bl b])) := SubM.new hq
  obtain ⟨zs, h1, _⟩ := h.ex
  exact (h.sub sb).app hn mset_same hqp hb (knC_ty (SubM.ty sb) hk) fun M' hM' th => k M' (fun c o hc e => (hM' c hc).trans (sb c o e)) (fun a t e => by
    by_cases ha : a = p
    · obtain ⟨zs', h1', _⟩ := th.ex
      subst ha
      unfold tyD at e ⊢
      simp only [h1, h1'] at e ⊢
      exact e
    · have e' := SubM.ty sb a t e
      unfold tyD at e' ⊢
      simp only [hM' a ha]
      exact e') th
def sp_things : DSp := fun ds M Q => ∃ (a : Addr) (n : Nat) (bs : Bans) (names : List PySem.Str), ds = [.ref a, encB bs] ∧ PoolAt M a n ∧ n < 800000 ∧ BsG names bs ∧ names.length ≤ 4 ∧ (∀ s ∈ names, isAtom s = true ∧ s.length ≤ 20) ∧
  ∀ p M', Th M' p 100 → Q (.ref p) M'
def sq (a b : WS) : WS := wSeq a b
theorem sq_eq : @wSeq = @sq := rfl
theorem sq1 {a b : WS} {E : DEnds} {ρ : Fw.Env} {M : Mem} : sq a b E ρ M = a { E with nx := b E } ρ M := rfl
theorem ban5 {many : Nat} (h : many < 2) {l : List D} (e : l = List.replicate (80 + many) (D.int 5)) : isBanD (.tup [.tup [.str (Str.ofString "a"), .tup [.tup l]]]) = decide (many = 0) := by
  subst e
  match many, h with
  | 0, _ => decide
  | 1, _ => decide
theorem ban9 {many : Nat} (h : many < 2) : isBanD (.tup [.tup [.str (Str.ofString "a"), .tup [.tup [.int (999999 + (many : Int))]]]]) = decide (many = 0) := by
  match many, h with
  | 0, _ => decide
  | 1, _ => decide
def prE (k : Nat) : D := .tup [.str (aN k), .tup []]
theorem banE {many : Nat} (h : many < 2) : isBanD (.tup ((List.range (100 + many)).map prE)) = decide (many = 0) := by
  match many, h with
  | 0, _ =>
    rw [decide_eq_true rfl]
    refine ban_true (by simp) (fun d hd => ?_) ?_ ?_
    · rw [List.mem_map] at hd
      obtain ⟨k, hk, rfl⟩ := hd
      have := List.mem_range.mp hk
      show (isAtom (aN k) && unlikeD (.tup [])) = true
      rw [(aN_atom k (by omega)).1]
      decide
    · rw [List.map_map, List.Nodup, List.pairwise_map]
      refine List.nodup_range.imp fun h e => h (aN_inj ?_)
      injection (show D.str (aN _) = D.str (aN _) from e)
    · rw [List.map_map, show (cntD ∘ prE) = fun _ => 0 from rfl]
      decide
  | 1, _ =>
    rw [decide_eq_false (by decide)]
    exact ban_false (.inl (by simp))
theorem kn1 {M : Mem} {z : PySem.Str} {l : List D} (hz : z.length ≤ sizeLine) (h : ∀ y ∈ l, knT M y) : knC M (.tup [.tup [.str z, .tup [.tup l]]]) := ⟨by simp, fun x hx => by
  rw [List.mem_singleton] at hx
  subst hx
  exact ⟨hz, by simp, fun y hy => by
    rw [List.mem_singleton] at hy
    subst hy
    exact h⟩⟩
@[simp] theorem y_lenB {bs : Bans} {M : Mem} {Q : DK} : dLen [encB bs] M Q = Q (.int bs.length) M := by show Q (.int ((bs.map encP).length : Nat)) M = _; rw [List.length_map]
@[simp] theorem y_slB1 {bs : Bans} {n : Nat} {M : Mem} {Q : DK} : dSl (encB bs) none (some (n : Int)) M Q = Q (.tup ((bs.take n).map encP)) M := by show Q (.tup (cutD (bs.map encP) none (some (n : Int)))) M = _; rw [cut_to, List.map_take]
@[simp] theorem y_slB2 {bs : Bans} {n : Nat} {M : Mem} {Q : DK} : dSl (encB bs) (some (n : Int)) none M Q = Q (.tup ((bs.drop n).map encP)) M := by show Q (.tup (cutD (bs.map encP) (some (n : Int)) none)) M = _; rw [cut_from, List.map_drop]
@[simp] theorem y_slB3 {bs : Bans} {n : Nat} {M : Mem} {Q : DK} : dSl (encB bs) (some ((n : Int) + 1)) none M Q = Q (.tup ((bs.drop (n + 1)).map encP)) M := y_slB2 (n := n + 1)
@[simp] theorem y_addB {bs : Bans} {ds : List D} {M : Mem} {Q : DK} : dAdd (encB bs) (.tup ds) M Q = (bs.length + ds.length ≤ sizeLine ∧ Q (.tup (bs.map encP ++ ds)) M) := by show ((bs.map encP).length + _ ≤ _ ∧ _) = _; rw [List.length_map]
theorem y_ixB {bs : Bans} {i : Nat} (h : i < bs.length) {M : Mem} {Q : DK} : dIxA (encB bs) (.int (i : Int)) M Q = Q (encP bs[i]) M := by
  show (∃ d, L2.atI (bs.map encP) (i : Int) = some d ∧ Q d M) = _
  rw [at_nat (a := encP bs[i]) (by rw [List.getElem?_map, List.getElem?_eq_getElem h]; rfl)]
  simp
@[simp] theorem y_listT {xs : List D} {M : Mem} {Q : DK} : dList [.tup xs] M Q = ∀ p, M p = none → Q (.ref p) (mset M p (.lst xs)) := rfl
/-- a list of things that are no pairs -/
structure Wr (M : Mem) (p : Addr) (n : Nat) : Prop where
  ex : ∃ os, M p = some (.lst os) ∧ os.length ≤ n ∧ ∀ o ∈ os, pairOk o = false ∧ knP M o
theorem Wr.sub {M M' : Mem} {p : Addr} {n : Nat} (h : Wr M p n) (s : SubM M M') : Wr M' p n := by
  obtain ⟨os, h1, h2, h3⟩ := h.ex
  exact ⟨os, s _ _ h1, h2, fun o ho => ⟨(h3 o ho).1, knP_ty (SubM.ty s) (h3 o ho).2⟩⟩
theorem kp0 {M : Mem} {z : PySem.Str} {ls : List Line} (hz : z.length ≤ sizeLine) (hl : ls.length ≤ 28) : knP M (.tup [.str z, .tup (ls.map encL)]) := ⟨hz, knB_enc (by omega)⟩
theorem Th.other {M : Mem} {p q : Addr} {n : Nat} {vs es : List D} (h : Th M p n) (hq : M q = some (.lst vs)) (hqp : q ≠ p) (hl : vs.length ≠ 2) : Th (mset M q (.lst es)) p n := by
  obtain ⟨zs, h1, h2, h3⟩ := h.ex
  refine ⟨zs, by rw [mset_ne hqp.symm]; exact h1, h2, fun z hz => ?_⟩
  obtain ⟨a, b, c, d⟩ := h3 z hz
  have : z.1 ≠ q := fun e => by
    rw [e, hq] at b
    injection b with b
    injection b with b
    rw [b] at hl
    exact hl rfl
  exact ⟨a, by rw [mset_ne this]; exact b, c, knC_ty (TyM.lst hq) d⟩
theorem Th.join {M : Mem} {p r : Addr} {n : Nat} {ys : List (Addr × D × Bool)} {zs' : List D} (h : Th M p n) (hz : M p = some (.lst zs')) (hr : M r = none) (hy : ∀ z ∈ ys, M z.1 = some (.lst [z.2.1, .bl z.2.2]) ∧ isBanD z.2.1 = z.2.2 ∧ knC M z.2.1) : Th (mset M r (.lst (zs' ++ ys.map fun z => D.ref z.1))) r (n + ys.length) := by
  obtain ⟨zs, h1, h2, h3⟩ := h.ex
  rw [hz] at h1
  injection h1 with h1
  injection h1 with h1
  subst h1
  have sb : SubM M (mset M r (.lst ((zs.map fun z => D.ref z.1) ++ ys.map fun z => D.ref z.1))) := SubM.new hr
  refine ⟨zs ++ ys, by rw [mset_same, List.map_append], by simp; omega, fun z hz => ?_⟩
  rw [List.mem_append] at hz
  have hh : M z.1 = some (.lst [z.2.1, .bl z.2.2]) ∧ isBanD z.2.1 = z.2.2 ∧ knC M z.2.1 := hz.elim (fun h => (h3 z h).2) (hy z)
  have hne : z.1 ≠ r := fun e => by
    have h1 := hh.1
    rw [e, hr] at h1
    cases h1
  exact ⟨hne, sb _ _ hh.1, hh.2.1, knC_ty (SubM.ty sb) hh.2.2⟩
theorem sum_le {c : Nat} : ∀ {l : List Nat}, (∀ x ∈ l, x ≤ c) → l.sum ≤ c * l.length
  | [], _ => by simp
  | x :: l, h => by
    have h1 := h x List.mem_cons_self
    have h2 := sum_le (l := l) fun y hy => h y (List.mem_cons_of_mem _ hy)
    simp [Nat.mul_add]; omega
structure BsN (names : List PySem.Str) (bs : Bans) : Prop where
  g : BsG names bs
  few : names.length ≤ 4
  at' : ∀ s ∈ names, isAtom s = true ∧ s.length ≤ 20
theorem BsN.len {names : List PySem.Str} {bs : Bans} (h : BsN names bs) : bs.length ≤ 4 := by
  have := nodup_le h.g.1 (u := names) fun x hx => by
    rw [List.mem_map] at hx
    obtain ⟨q, hq, rfl⟩ := hx
    exact (h.g.2 q hq).1
  rw [List.length_map] at this
  have := h.few
  omega
theorem BsN.pair {names : List PySem.Str} {bs : Bans} (h : BsN names bs) {q : PySem.Str × List Line} (hq : q ∈ bs) : pairOk (encP q) = true ∧ ∀ M, knP M (encP q) := by
  obtain ⟨b1, b2, b3, b4⟩ := h.g.2 q hq
  obtain ⟨a1, a2⟩ := h.at' _ b1
  have h5 := sz5
  refine ⟨?_, fun M => kp0 (by omega) (by omega)⟩
  show (isAtom q.1 && unlikeD (.tup (q.2.map encL))) = true
  rw [a1, Bool.true_and]
  exact unlike_enc (fun l hl => let ⟨x, y, z⟩ := b4 l hl; lineD_enc x (by omega) z) b2
theorem BsN.ban {names : List PySem.Str} {bs cs : Bans} (h : BsN names bs) (s : cs.Sublist bs) : isBanD (.tup (cs.map encP)) = true ∧ ∀ M, knC M (.tup (cs.map encP)) := by
  have hl := h.len
  have hc := s.length_le
  refine ⟨ban_true (by simp; omega) (fun d hd => ?_) ?_ ?_, fun M => ⟨by simp; omega, fun x hx => ?_⟩⟩
  · rw [List.mem_map] at hd
    obtain ⟨q, hq, rfl⟩ := hd
    exact (h.pair (s.subset hq)).1
  · rw [List.map_map]
    have e : (fstD ∘ encP) = fun q : PySem.Str × List Line => D.str q.1 := rfl
    rw [e]
    have := (s.map (·.1)).nodup h.g.1
    rw [List.Nodup, List.pairwise_map] at this ⊢
    exact this.imp fun h e => h (by injection e)
  · rw [List.map_map]
    have e : (cntD ∘ encP) = fun q : PySem.Str × List Line => (q.2.map encL).length := rfl
    rw [e]
    have := sum_le (c := 14) (l := cs.map fun q => (q.2.map encL).length) fun x hx => by
      rw [List.mem_map] at hx
      obtain ⟨q, hq, rfl⟩ := hx
      rw [List.length_map]
      exact (h.g.2 q (s.subset hq)).2.2.1
    rw [List.length_map] at this
    omega
  · rw [List.mem_map] at hx
    obtain ⟨q, hq, rfl⟩ := hx
    exact (h.pair (s.subset hq)).2 M
theorem kn_lines {M : Mem} {ls : List Line} (h : ∀ l ∈ ls, l.length ≤ 6) : knP M (.tup (ls.map encL)) := by
  match ls, h with
  | [], _ => exact trivial
  | [_], _ => exact trivial
  | [l, m], h =>
    have hm := h m (by simp)
    refine ⟨trivial, by rw [List.length_map]; omega, fun x hx => ?_⟩
    rw [List.mem_map] at hx
    obtain ⟨i, _, rfl⟩ := hx
    exact trivial
  | _ :: _ :: _ :: _, _ => exact trivial
theorem pf {nm : PySem.Str} {ls : List Line} {x : D} (h : isLineD x = false) : pairOk (.tup [.str nm, .tup (ls.map encL ++ [x])]) = false := by
  unfold pairOk unlikeD
  simp [h]
theorem kp {M : Mem} {z : PySem.Str} {ls : List Line} {x : D} (hz : z.length ≤ sizeLine) (hl : ls.length ≤ 14) (hx : knA M x) : knP M (.tup [.str z, .tup (ls.map encL ++ [x])]) := ⟨hz, by simp; omega, fun y hy => by
  rw [List.mem_append, List.mem_singleton, List.mem_map] at hy
  rcases hy with ⟨l, _, rfl⟩ | rfl
  · exact knA_enc l
  · exact hx⟩
theorem Wr.add {M : Mem} {p q : Addr} {n : Nat} {os es : List D} {R : DK} (hp : M p = some (.lst os)) (hq : M q = some (.lst es)) (h : os.length + es.length ≤ n) (hn : n < 1000) (h1 : ∀ o ∈ os, pairOk o = false ∧ knP M o) (h2 : ∀ o ∈ es, pairOk o = false ∧ knP M o) (k : ∀ r, M r = none → (mset M r (.lst (os ++ es))) r = some (.lst (os ++ es)) → (∀ o ∈ os ++ es, pairOk o = false ∧ knP (mset M r (.lst (os ++ es))) o) → R (.ref r) (mset M r (.lst (os ++ es)))) : dAdd (.ref p) (.ref q) M R := by
  have h5 := sz5
  refine y_addL hp hq (by omega) fun r hr => k r hr mset_same fun o ho => ?_
  have ty : TyM M (mset M r (.lst (os ++ es))) := SubM.ty (SubM.new hr)
  rw [List.mem_append] at ho
  rcases ho with ho | ho
  · exact ⟨(h1 o ho).1, knP_ty ty (h1 o ho).2⟩
  · exact ⟨(h2 o ho).1, knP_ty ty (h2 o ho).2⟩
theorem turn_ok {a : Addr} {bs : Bans} {names : List PySem.Str} {many : Nat} {p : Addr} {n i : Nat} {E : DEnds} {M : Mem} {x4 x6 x7 x8 x9 : Option D} (hbs : BsG names bs) (hat : ∀ s ∈ names, isAtom s = true ∧ s.length ≤ 20) (hnl : names.length ≤ 4) (th : Th M p n) (hn : n < 500) (hi : i < bs.length)
    (k : ∀ p' M' x6 x7 x8 x9, Th M' p' (n + 18) → E.nx [some (D.ref a), some (encB bs), some (D.int ↑many), some (.ref p'), x4, some (.int i), x6, x7, x8, x9] M') : w__law_things_2 sp_draw sp_lol E [some (D.ref a), some (encB bs), some (D.int ↑many), some (.ref p), x4, some (.int i), x6, x7, x8, x9] M := by
  have h5 := sz5
  have hlb : bs.length ≤ 4 := by
    have := nodup_le hbs.1 (u := names) fun x hx => by
      rw [List.mem_map] at hx
      obtain ⟨q, hq, rfl⟩ := hx
      exact (hbs.2 q hq).1
    rw [List.length_map] at this
    omega
  obtain ⟨b1, b2, b3, b4⟩ := hbs.2 bs[i] (List.getElem_mem hi)
  obtain ⟨a1, a2⟩ := hat _ b1
  have hbn : BsN names bs := ⟨hbs, hnl, hat⟩
  unfold w__law_things_2
  rw [sq_eq, sq1]
  simp [-Bool.exists_bool, y_ixB hi]
  generalize hbi : bs[i] = q at b1 b2 b3 b4 a1 a2
  obtain ⟨nm, ls⟩ := q
  refine ⟨[.str nm, .tup (ls.map encL)], rfl, rfl, ?_⟩
  rw [sq1]
  simp [-Bool.exists_bool]
  have hnm : nm.length ≤ sizeLine := Nat.le_trans a2 (by omega)
  have hl14 : ls.length ≤ 14 := b3
  refine ⟨by omega, fun p1 hp1 p2 hp2 => ⟨by omega, by omega, by omega, by omega, fun p3 hp3 => ?_⟩⟩
  have s1 : SubM M (mset M p1 (.lst [D.str nm, D.tup (ls.map encL)])) := SubM.new hp1
  have s2 : SubM (mset M p1 (.lst [D.str nm, D.tup (ls.map encL)])) (mset (mset M p1 (.lst [D.str nm, D.tup (ls.map encL)])) p2 (.lst (ls.map encL))) := SubM.new hp2
  have g1 := s2 _ _ (mset_same (M := M) (a := p1) (o := .lst [D.str nm, D.tup (ls.map encL)]))
  have g2 : (mset (mset M p1 (.lst [D.str nm, D.tup (ls.map encL)])) p2 (.lst (ls.map encL))) p2 = some (.lst (ls.map encL)) := mset_same
  have th1 := th.sub (s1.trans s2)
  generalize mset (mset M p1 (.lst [D.str nm, D.tup (ls.map encL)])) p2 (.lst (ls.map encL)) = M1 at g1 g2 th1 hp3 ⊢
  clear hp2 s1 s2
  generalize hos : [D.ref p1, D.tup [D.str nm, D.ref p2], D.tup [D.str nm, D.tup (ls.map encL), D.tup []], D.tup [D.str (Str.ofString "N"), D.tup (ls.map encL)], D.tup [D.str (Str.ofString "n.0"), D.tup (ls.map encL)], D.tup [D.int 3, D.tup (ls.map encL)], D.str nm] = os
  have hol : os.length = 7 := by rw [← hos]; rfl
  have ho1 : ∀ o ∈ os, pairOk o = false ∧ knP M1 o := fun o ho => by
    rw [← hos] at ho
    simp only [List.mem_cons, List.not_mem_nil, or_false] at ho
    have ty2 : knB M1 (.ref p2) := ⟨"list", by unfold tyD; simp only [g2]⟩
    rcases ho with rfl | rfl | rfl | rfl | rfl | rfl | rfl
    · exact ⟨rfl, "list", by unfold tyD; simp only [g1]⟩
    · refine ⟨?_, hnm, ty2⟩
      show (isAtom nm && false) = false
      rw [Bool.and_false]
    · exact ⟨rfl, trivial⟩
    · refine ⟨?_, kp0 (by rw [show (Str.ofString "N").length = 1 by decide]; omega) (by omega)⟩
      show (isAtom (Str.ofString "N") && unlikeD (.tup (ls.map encL))) = false
      rw [show isAtom (Str.ofString "N") = false by decide, Bool.false_and]
    · refine ⟨?_, kp0 (by rw [show (Str.ofString "n.0").length = 3 by decide]; omega) (by omega)⟩
      show (isAtom (Str.ofString "n.0") && unlikeD (.tup (ls.map encL))) = false
      rw [show isAtom (Str.ofString "n.0") = false by decide, Bool.false_and]
    · exact ⟨rfl, trivial, knB_enc (by omega)⟩
    · exact ⟨rfl, hnm⟩
  have s3 : SubM M1 (mset M1 p3 (.lst os)) := SubM.new hp3
  have g3 : mset M1 p3 (.lst os) p3 = some (.lst os) := mset_same
  have ho2 : ∀ o ∈ os, pairOk o = false ∧ knP (mset M1 p3 (.lst os)) o := fun o ho => ⟨(ho1 o ho).1, knP_ty (SubM.ty s3) (ho1 o ho).2⟩
  have th2 := th1.sub s3
  generalize mset M1 p3 (.lst os) = M2 at g3 ho2 th2 ⊢
  clear s3 ho1 hp3 g1 g2 hos
  rw [sq1]
  simp [-Bool.exists_bool]
  refine ⟨by omega, by omega, by omega, by omega, by omega, by omega, fun p4 hp4 => ⟨by omega, by omega, by omega, by omega, by omega, by omega, by omega, fun p5 hp5 => ?_⟩⟩
  have s1 : SubM M2 (mset M2 p4 (.lst [D.int 1])) := SubM.new hp4
  have g4 : (mset M2 p4 (.lst [D.int 1])) p4 = some (.lst [D.int 1]) := mset_same
  have g3' := s1 _ _ g3
  have ho3 : ∀ o ∈ os, pairOk o = false ∧ knP (mset M2 p4 (.lst [D.int 1])) o := fun o ho => ⟨(ho2 o ho).1, knP_ty (SubM.ty s1) (ho2 o ho).2⟩
  have th3 := th2.sub s1
  generalize mset M2 p4 (.lst [D.int 1]) = M3 at g4 g3' ho3 th3 hp5 ⊢
  clear s1 g3 ho2 th2 hp4
  generalize hes : [D.tup [D.tup [D.str nm], D.tup (ls.map encL)], D.tup [D.str nm, D.tup (ls.map encL ++ [D.tup []])], D.tup [D.str nm, D.tup (ls.map encL ++ [D.ref p4])], D.tup [D.str nm, D.tup (ls.map encL ++ [D.tup [D.int (-1)]])]] = es
  have hel : es.length = 4 := by rw [← hes]; rfl
  have he1 : ∀ o ∈ es, pairOk o = false ∧ knP M3 o := fun o ho => by
    rw [← hes] at ho
    simp only [List.mem_cons, List.not_mem_nil, or_false] at ho
    rcases ho with rfl | rfl | rfl | rfl
    · exact ⟨rfl, trivial, knB_enc (by omega)⟩
    · exact ⟨pf (by decide), kp hnm hl14 fun x hx => by cases hx⟩
    · exact ⟨pf rfl, kp hnm hl14 ⟨"list", by unfold tyD; simp only [g4]⟩⟩
    · exact ⟨pf (by decide), kp hnm hl14 fun x hx => by rw [List.mem_singleton] at hx; subst hx; exact trivial⟩
  have s2 : SubM M3 (mset M3 p5 (.lst es)) := SubM.new hp5
  refine Wr.add (n := 11) (s2 _ _ g3') mset_same (by omega) (by omega) (fun o ho => ⟨(ho3 o ho).1, knP_ty (SubM.ty s2) (ho3 o ho).2⟩) (fun o ho => ⟨(he1 o ho).1, knP_ty (SubM.ty s2) (he1 o ho).2⟩) fun p6 hp6 g6 hw => ?_
  have th4 := (th3.sub s2).sub (SubM.new (o := .lst (os ++ es)) hp6)
  have hwl : (os ++ es).length = 11 := by rw [List.length_append]; omega
  generalize mset (mset M3 p5 (.lst es)) p6 (.lst (os ++ es)) = M4 at g6 hw th4 ⊢
  generalize os ++ es = us at g6 hw hwl
  clear s2 he1 hes hel ho3 th3 g3' g4 hp5 hp6 hol th1
  show sq _ _ _ _ _
  rw [sq1]
  simp [-Bool.exists_bool]
  have l0 : (Str.ofString "0").length ≤ sizeLine := by rw [show (Str.ofString "0").length = 1 by decide]; omega
  repeat (refine ⟨by omega, ?_⟩)
  intro p7 hp7
  generalize hes : [D.tup [D.str nm, D.tup (ls.map encL ++ [D.tup [D.int 1000000]])], D.tup [D.str nm, D.tup (ls.map encL ++ [D.tup [D.int 0, D.bl true]])], D.tup [D.str nm, D.tup (ls.map encL ++ [D.tup [D.str (Str.ofString "0")]])]] = es
  have hel : es.length = 3 := by rw [← hes]; rfl
  have he1 : ∀ o ∈ es, pairOk o = false ∧ knP M4 o := fun o ho => by
    rw [← hes] at ho
    simp only [List.mem_cons, List.not_mem_nil, or_false] at ho
    rcases ho with rfl | rfl | rfl
    · exact ⟨pf (by decide), kp hnm hl14 fun x hx => by rw [List.mem_singleton] at hx; subst hx; exact trivial⟩
    · exact ⟨pf (by decide), kp hnm hl14 fun x hx => by simp only [List.mem_cons, List.not_mem_nil, or_false] at hx; rcases hx with rfl | rfl <;> exact trivial⟩
    · exact ⟨pf (by decide), kp hnm hl14 fun x hx => by rw [List.mem_singleton] at hx; subst hx; exact l0⟩
  have s2 : SubM M4 (mset M4 p7 (.lst es)) := SubM.new hp7
  refine Wr.add (n := 14) (s2 _ _ g6) mset_same (by omega) (by omega) (fun o ho => ⟨(hw o ho).1, knP_ty (SubM.ty s2) (hw o ho).2⟩) (fun o ho => ⟨(he1 o ho).1, knP_ty (SubM.ty s2) (he1 o ho).2⟩) fun p8 hp8 g8 hv => ?_
  have np : p8 ≠ p := (th4.sub s2).fresh hp8
  have th5 := (th4.sub s2).sub (SubM.new (o := .lst (us ++ es)) hp8)
  have hvl : (us ++ es).length = 14 := by rw [List.length_append]; omega
  generalize mset (mset M4 p7 (.lst es)) p8 (.lst (us ++ es)) = M5 at g8 hv th5 ⊢
  generalize us ++ es = vs at g8 hv hvl
  clear s2 he1 hes hel hw th4 g6 hp7 hp8 hwl
  show sq _ _ _ _ _
  rw [sq1]
  simp [-Bool.exists_bool]
  have rest : ∀ M6 ws, Th M6 p n → M6 p8 = some (.lst ws) → (∀ o ∈ ws, pairOk o = false ∧ knP M6 o) → ws.length ≤ 15 → sq (wFor (wIt (wVar 8)) (Tg.nm 9) (w__law_things_1 sp_draw sp_lol)) (wSet 3
        (wBin dAdd (wVar 3)
          (wLst
            (wCons
              (wLst
                (wCons (wBin dAdd (wVar 1) (wTup (wCons (wTup (wCons (wVar 6) (wCons (wTup wNil) wNil))) wNil)))
                  (wCons (wC (D.bl false)) wNil)))
              (wCons (wLst (wCons (wBin dIxA (wVar 1) (wVar 5)) (wCons (wC (D.bl false)) wNil)))
                (wCons
                  (wLst
                    (wCons
                      (wBin dAdd (wSl (wVar 1) wNoPart (wPart (wVar 5)))
                        (wSl (wVar 1) (wPart (wBin dAdd (wVar 5) (wC (D.int 1)))) wNoPart))
                      (wCons (wC (D.bl true)) wNil)))
                  wNil)))))) E [some (D.ref a), some (encB bs), some (D.int ↑many), some (D.ref p), x4, some (D.int ↑i), some (D.str nm), some (D.tup (List.map encL ls)), some (D.ref p8), x9] M6 := by
    intro M6 ws th6 g8 hv hvl
    rw [sq1]
    simp [-Bool.exists_bool]
    rw [y_srcL g8]
    refine loop_go (fun done ρ M' => Th M' p (n + done.length) ∧ M' p8 = some (.lst ws) ∧ (∀ o ∈ ws, knP M' o) ∧ ∃ x9, ρ = [some (D.ref a), some (encB bs), some (D.int ↑many), some (D.ref p), x4, some (D.int ↑i), some (D.str nm), some (D.tup (List.map encL ls)), some (D.ref p8), x9]) ⟨th6, g8, fun o ho => (hv o ho).2, x9, rfl⟩ ?_ ?_
    · rintro done o tl hx ρ M' ⟨th, gw, hk, x9, rfl⟩ N hN
      refine ⟨_, _, .refl, .refl, gw, ?_⟩
      change ws = done ++ o :: tl at hx
      have hol : o ∈ ws := by rw [hx]; simp
      have hdl := congrArg List.length hx
      rw [List.length_append, List.length_cons] at hdl
      unfold w__law_things_1
      simp [-Bool.exists_bool]
      refine ⟨let ⟨zs, h1, _⟩ := th.ex; ⟨_, h1⟩, ?_⟩
      repeat (refine ⟨by omega, ?_⟩)
      intro q hq
      have qw : q ≠ p8 := fun e => by rw [← e, hq] at gw; cases gw
      refine th.item (by omega) hq (ban_false (.inr (.inl ⟨o, by simp, (hv o hol).1⟩))) ⟨by simp; omega, fun x hx => ?_⟩ fun M'' m t th' => ?_
      · rw [List.mem_append, List.mem_cons] at hx
        rcases hx with hx | rfl | hx
        · have := List.mem_of_mem_take hx
          rw [List.mem_map] at this
          obtain ⟨q, hq, rfl⟩ := this
          exact (hbn.pair hq).2 _
        · exact hk _ hol
        · have := List.mem_of_mem_drop hx
          rw [List.mem_map] at this
          obtain ⟨q, hq, rfl⟩ := this
          exact (hbn.pair hq).2 _
      · exact hN _ _ ⟨th'.more (by simp; omega), m _ _ np gw, fun o ho => knP_ty t (hk o ho), _, rfl⟩
    · rintro ρ M' ⟨th, gw, hk, x9, rfl⟩
      refine ⟨_, _, .refl, .refl, gw, ?_⟩
      have thl : n + ws.length ≤ n + 15 := by omega
      replace th := th.more thl
      simp [-Bool.exists_bool, y_ixB hi]
      repeat (refine ⟨by omega, ?_⟩)
      intro p11 hp11
      refine ⟨by omega, fun p12 hp12 => ?_⟩
      repeat (refine ⟨by omega, ?_⟩)
      intro p13 hp13
      refine ⟨by omega, fun p14 hp14 => ?_⟩
      rw [hbi]
      rw [hbi] at hp13 hp14
      have t1 := th.sub (SubM.new (o := .lst [D.tup (bs.map encP ++ [D.tup [D.str nm, D.tup []]]), D.bl false]) hp11)
      have f1 : mset M' p11 (.lst [D.tup (bs.map encP ++ [D.tup [D.str nm, D.tup []]]), D.bl false]) p11 = _ := mset_same
      generalize mset M' p11 (.lst [D.tup (bs.map encP ++ [D.tup [D.str nm, D.tup []]]), D.bl false]) = N1 at t1 f1 hp12 hp13 hp14 ⊢
      have s2 := SubM.new (o := .lst [encP (nm, ls), D.bl false]) hp12
      have t2 := t1.sub s2
      have f1' := s2 _ _ f1
      have f2 : mset N1 p12 (.lst [encP (nm, ls), D.bl false]) p12 = _ := mset_same
      generalize mset N1 p12 (.lst [encP (nm, ls), D.bl false]) = N2 at t2 f1' f2 hp13 hp14 s2 ⊢
      clear s2
      have s3 := SubM.new (o := .lst [D.tup ((bs.map encP).take i ++ (bs.map encP).drop (i + 1)), D.bl true]) hp13
      have t3 := t2.sub s3
      have u1 := s3 _ _ f1'
      have u2 := s3 _ _ f2
      have u3 : mset N2 p13 (.lst [D.tup ((bs.map encP).take i ++ (bs.map encP).drop (i + 1)), D.bl true]) p13 = _ := mset_same
      generalize mset N2 p13 (.lst [D.tup ((bs.map encP).take i ++ (bs.map encP).drop (i + 1)), D.bl true]) = N3 at t3 u1 u2 u3 hp14 s3 ⊢
      clear s3
      have s4 := SubM.new (o := .lst [D.ref p11, D.ref p12, D.ref p13]) hp14
      have t4 := t3.sub s4
      have v1 := s4 _ _ u1
      have v2 := s4 _ _ u2
      have v3 := s4 _ _ u3
      have v4 : mset N3 p14 (.lst [D.ref p11, D.ref p12, D.ref p13]) p14 = _ := mset_same
      generalize mset N3 p14 (.lst [D.ref p11, D.ref p12, D.ref p13]) = N4 at t4 v1 v2 v3 v4 s4 ⊢
      clear s4
      obtain ⟨zs, h1, h2, h3⟩ := t4.ex
      have esl : ((bs.map encP).take i ++ (bs.map encP).drop (i + 1)) = (bs.take i ++ bs.drop (i + 1)).map encP := by rw [List.map_append, List.map_take, List.map_drop]
      have sb : (bs.take i ++ bs.drop (i + 1)).Sublist bs := by
        conv => rhs; rw [← List.take_append_drop i bs]
        refine (List.Sublist.refl _).append ?_
        rw [← List.drop_drop]
        exact List.drop_sublist _ _
      refine y_addL h1 v4 (by simp; omega) fun r hr => k r _ _ _ _ _ ((t4.join (ys := [(p11, D.tup (bs.map encP ++ [D.tup [D.str nm, D.tup []]]), false), (p12, encP (nm, ls), false), (p13, D.tup ((bs.map encP).take i ++ (bs.map encP).drop (i + 1)), true)]) h1 hr fun z hz => ?_).more (by simp))
      have hmb : (nm, ls) ∈ bs := by rw [← hbi]; exact List.getElem_mem hi
      simp only [List.mem_cons, List.not_mem_nil, or_false] at hz
      rcases hz with rfl | rfl | rfl
      · refine ⟨v1, ban_false (.inr (.inr (.inl fun h => ?_))), by simp; omega, fun x hx => ?_⟩
        · rw [List.map_append, List.nodup_append] at h
          exact h.2.2 (.str nm) (by rw [List.mem_map]; exact ⟨encP (nm, ls), List.mem_map_of_mem hmb, rfl⟩) (.str nm) (by simp [fstD]) rfl
        · rw [List.mem_append, List.mem_singleton, List.mem_map] at hx
          rcases hx with ⟨q, hq, rfl⟩ | rfl
          · exact (hbn.pair hq).2 _
          · exact ⟨hnm, by simp, by simp⟩
      · refine ⟨v2, ban_false (.inr (.inl ⟨.str nm, by simp, rfl⟩)), by simp, fun x hx => ?_⟩
        simp only [List.mem_cons, List.not_mem_nil, or_false] at hx
        rcases hx with rfl | rfl
        · exact hnm
        · exact kn_lines fun l hl => (b4 l hl).2.1
      · simp only [esl]
        rw [esl] at v3
        exact ⟨v3, (hbn.ban sb).1, (hbn.ban sb).2 _⟩
  by_cases h0 : 0 < ls.length
  · rw [if_pos h0]
    rw [show Fw.cutD (ls.map encL) none (some 1) = (ls.map encL).take 1 from cut_to (n := 1)]
    have hd : ∃ l ls', ls = l :: ls' := by
      cases ls with
      | nil => simp at h0
      | cons l ls' => exact ⟨l, ls', rfl⟩
    obtain ⟨l, ls', els⟩ := hd
    have et : (ls.map encL).take 1 = [encL l] := by rw [els]; rfl
    rw [et]
    refine ⟨⟨_, g8⟩, by simp; omega, by omega, vs, g8, by omega, ?_⟩
    refine rest _ (vs ++ [D.tup [D.str nm, D.tup (ls.map encL ++ [encL l])]]) ?_ mset_same (fun o ho => ?_) (by simp; omega)
    · exact th5.other g8 np (by omega)
    · have ty : TyM M5 (mset M5 p8 (.lst (vs ++ [D.tup [D.str nm, D.tup (ls.map encL ++ [encL l])]]))) := TyM.lst g8
      rw [List.mem_append, List.mem_singleton] at ho
      rcases ho with ho | rfl
      · exact ⟨(hv o ho).1, knP_ty ty (hv o ho).2⟩
      · refine ⟨?_, kp hnm hl14 (knA_enc l)⟩
        show (isAtom nm && unlikeD (.tup (ls.map encL ++ [encL l]))) = false
        have : unlikeD (.tup (ls.map encL ++ [encL l])) = false := by
          unfold unlikeD
          have : ¬ (ls.map encL ++ [encL l]).Nodup := fun h => by
            rw [List.nodup_append] at h
            exact h.2.2 (encL l) (by rw [els]; simp) (encL l) (by simp) rfl
          simp only [this, decide_false, Bool.and_false]
        rw [this, Bool.and_false]
  · rw [if_neg h0]
    exact rest _ vs th5 g8 hv (by omega)
theorem things_ok : ∀ ds M Q, sp_things ds M Q → w__law_things sp_draw sp_lol (ends Q) (startD 10 ds) M := by
  rintro ds M Q ⟨a, n, bs, names, rfl, hp, hn, hbs, hnl, hat, q⟩
  have h5 := sz5
  unfold w__law_things
  rw [sq_eq, sq1]
  simp [-Bool.exists_bool]
  refine ⟨a, n, 2, rfl, hp, by omega, by omega, by omega, fun many M1 hmany b1 q1 => ?_⟩
  show sq _ _ _ _ _
  rw [sq1]
  simp [-Bool.exists_bool]
  refine ⟨by omega, fun p1 hp1 => ⟨by omega, fun p2 hp2 => ⟨by omega, fun p3 hp3 => ?_⟩⟩⟩
  have e1 : ((100 : Int) + (many : Int)) = ((100 + many : Nat) : Int) := by omega
  have q4 := ((q1.new (o := .lst [D.tup [], D.bl true]) hp1).new (o := .lst [D.non, D.bl false]) hp2).new (o := .lst [D.int 0, D.bl false]) hp3
  have n1 := q1.ne hp1
  have n2 := (q1.new (o := .lst [D.tup [], D.bl true]) hp1).ne hp2
  have n3 := ((q1.new (o := .lst [D.tup [], D.bl true]) hp1).new (o := .lst [D.non, D.bl false]) hp2).ne hp3
  have c1 : p1 ≠ p2 := fun e => by rw [← e, mset_same] at hp2; cases hp2
  have c2 : p2 ≠ p3 := fun e => by rw [← e, mset_same] at hp3; cases hp3
  have c3 : p1 ≠ p3 := fun e => by rw [← e, mset_ne c1, mset_same] at hp3; cases hp3
  refine ⟨a, n + 1, 100 + many, by rw [e1], q4, by omega, by omega, fun d M2 hd kd b2 q5 => ?_⟩
  have g1 : M2 p1 = some (.lst [D.tup [], D.bl true]) := by rw [b2 _ n1, mset_ne c3, mset_ne c1, mset_same]
  have g2 : M2 p2 = some (.lst [D.non, D.bl false]) := by rw [b2 _ n2, mset_ne c2, mset_same]
  have g3 : M2 p3 = some (.lst [D.int 0, D.bl false]) := by rw [b2 _ n3, mset_same]
  have hd' : isBanD d = decide (many = 0) := hd.trans (decide_eq_decide.mpr (by omega))
  clear hp1 hp2 hp3 q4 n1 n2 n3 hd b2
  simp [-Bool.exists_bool]
  refine ⟨by omega, fun p4 hp4 => ⟨by omega, fun p5 hp5 => ?_⟩⟩
  have s1 : SubM M2 (mset M2 p4 (.lst [d, D.bl (decide (many = 0))])) := SubM.new hp4
  have s2 := SubM.new (o := .lst [D.ref p1, D.ref p2, D.ref p3, D.ref p4]) hp5
  have d4 : p4 ≠ p5 := fun e => by rw [← e, mset_same] at hp5; cases hp5
  have d1 : p1 ≠ p5 := fun e => by rw [← e, s1 _ _ g1] at hp5; cases hp5
  have d2 : p2 ≠ p5 := fun e => by rw [← e, s1 _ _ g2] at hp5; cases hp5
  have d3 : p3 ≠ p5 := fun e => by rw [← e, s1 _ _ g3] at hp5; cases hp5
  have th : Th (mset (mset M2 p4 (.lst [d, D.bl (decide (many = 0))])) p5 (.lst [D.ref p1, D.ref p2, D.ref p3, D.ref p4])) p5 4 := ⟨[(p1, .tup [], true), (p2, .non, false), (p3, .int 0, false), (p4, d, decide (many = 0))], mset_same, by simp, fun z hz => by
    simp only [List.mem_cons, List.not_mem_nil, or_false] at hz
    rcases hz with rfl | rfl | rfl | rfl
    · exact ⟨d1, s2 _ _ (s1 _ _ g1), rfl, by simp, by simp⟩
    · exact ⟨d2, s2 _ _ (s1 _ _ g2), rfl, trivial⟩
    · exact ⟨d3, s2 _ _ (s1 _ _ g3), rfl, trivial⟩
    · exact ⟨d4, s2 _ _ mset_same, hd', knC_ty (SubM.ty s2) (knC_ty (SubM.ty s1) kd)⟩⟩
  generalize mset (mset M2 p4 (.lst [d, D.bl (decide (many = 0))])) p5 (.lst [D.ref p1, D.ref p2, D.ref p3, D.ref p4]) = M3 at th ⊢
  clear hp4 hp5 s1 s2 d1 d2 d3 d4 g1 g2 g3 kd hd'
  have thx : ∀ {M p n}, Th M p n → ∃ x, M p = some (MO.lst x) := fun h => let ⟨zs, h1, _⟩ := h.ex; ⟨_, h1⟩
  rw [sq1]
  simp [-Bool.exists_bool]
  refine ⟨thx th, by unfold RgOk2; omega, ?_⟩
  have e2 : ranged 0 ((100 : Int) + (many : Int)).toNat = (List.range (100 + many)).map fun i : Nat => D.int (i : Int) := by unfold ranged; rw [show ((100 : Int) + (many : Int)).toNat = 100 + many by omega]; simp
  rw [e2]
  refine comp_all (fun i : Nat => D.int (i : Int)) prE trivial (fun k hk N n => ?_) (by rw [List.length_range]; omega) ?_
  · have hk' := List.mem_range.mp hk
    have al := (aN_atom k (by omega)).2
    have el : (aN k).length = (Str.ofString "a").length + (Str.ofString (((k : Nat) : Int).repr)).length := by
      show (Str.ofString "a" ++ Str.ofString (toString ((k : Nat) : Int))).length = (Str.ofString "a").length + (Str.ofString (toString ((k : Nat) : Int))).length
      rw [← len_cps, ← len_cps, ← len_cps]
      show (TL.tl _).length = (TL.tl _).length + (TL.tl _).length
      rw [TL.tl_append, List.length_append]
    simp [-Bool.exists_bool]
    exact ⟨Nat.lt_of_le_of_lt (Nat.log2_le_self k) (by omega), by omega, by omega, n⟩
  · intro p6 hp6
    rw [y_tupL mset_same]
    refine ⟨by omega, fun p7 hp7 => ?_⟩
    refine (th.sub (SubM.new hp6)).item (by omega) hp7 (banE hmany) ?_ fun M4 m4 t4 th4 => ?_
    · refine ⟨by simp; omega, fun x hx => ?_⟩
      rw [List.mem_map] at hx
      obtain ⟨k, hk, rfl⟩ := hx
      have hk' := List.mem_range.mp hk
      exact ⟨show (aN k).length ≤ sizeLine by have := (aN_atom k (by omega)).2; omega, by simp, by simp⟩
    clear hp6 hp7 m4 t4
    show sq _ _ _ _ _
    rw [sq1]
    simp [-Bool.exists_bool]
    have la : (Str.ofString "a").length ≤ sizeLine := by
      rw [show (Str.ofString "a").length = 1 by decide]; omega
    refine ⟨thx th4, by omega, by omega, by omega, by omega, by omega, by omega, by omega, fun p8 hp8 => ?_⟩
    have rep : (List.replicate (80 + many) [D.int 5]).flatten = List.replicate (80 + many) (D.int 5) := by simp
    have e3 : ((80 : Int) + (many : Int)).toNat = 80 + many := by omega
    refine th4.item (by omega) hp8 (ban5 hmany (by first | rw [e3, rep] | rw [e3] | simp [e3])) ?_ fun M5 m5 t5 th5 => ?_
    · refine kn1 la fun y hy => ?_
      try rw [e3] at hy
      try rw [rep] at hy
      rw [List.eq_of_mem_replicate hy]
      exact trivial
    clear hp8 m5 t5
    show sq _ _ _ _ _
    rw [sq1]
    simp [-Bool.exists_bool]
    refine ⟨thx th5, by omega, by omega, by omega, by omega, fun p9 hp9 => ?_⟩
    refine th5.item (by omega) hp9 (ban9 hmany) ?_ fun M6 m6 t6 th6 => ?_
    · refine kn1 la fun y hy => ?_
      rw [List.mem_singleton] at hy
      subst hy
      exact trivial
    clear hp9 m6 t6
    show sq _ _ _ _ _
    rw [sq1]
    simp [-Bool.exists_bool]
    refine ⟨thx th6, ?_⟩
    show ∀ p, M6 p = none → _
    intro p10 hp10
    refine ⟨by omega, fun p11 hp11 => ?_⟩
    have s7 : SubM M6 (mset M6 p10 (.lst (bs.map encP))) := SubM.new hp10
    refine (th6.sub s7).item (by omega) hp11 rfl ⟨"list", by unfold tyD; simp only [mset_same]⟩ fun M7 m7 t7 th7 => ?_
    clear hp10 hp11 m7 t7
    show sq _ _ _ _ _
    have hlb : bs.length ≤ 4 := by
      have := nodup_le hbs.1 (u := names) fun x hx => by
        rw [List.mem_map] at hx
        obtain ⟨q, hq, rfl⟩ := hx
        exact (hbs.2 q hq).1
      rw [List.length_map] at this
      omega
    rw [sq1]
    simp [-Bool.exists_bool]
    refine ⟨rg (i := 0) (by omega) (by omega), ?_⟩
    refine loop_range (lo := 0) (n := bs.length) (fun i ρ M' => ∃ p, Th M' p (8 + 18 * i) ∧ ∃ x4 x5 x6 x7 x8 x9, ρ = [some (D.ref a), some (encB bs), some (D.int ↑many), some (.ref p), x4, x5, x6, x7, x8, x9]) ⟨p5, th7, _, _, _, _, _, _, rfl⟩ ?_ ?_
    · rintro i hi ρ M' ⟨p, th, x4, x5, x6, x7, x8, x9, rfl⟩ N hN
      refine ⟨_, _, .refl, .refl, trivial, ?_⟩
      rw [Nat.zero_add]
      exact turn_ok hbs hat hnl th (by omega) hi fun p' M'' x6 x7 x8 x9 th' => hN _ _ ⟨p', th'.more (by omega), _, _, _, _, _, _, rfl⟩
    · rintro ρ M' ⟨p, th, x4, x5, x6, x7, x8, x9, rfl⟩
      refine ⟨_, _, .refl, .refl, trivial, ?_⟩
      simp [-Bool.exists_bool]
      exact drops_of (q p M' (th.more (by omega)))
end F83

set_option Elab.async false
set_option linter.all false
set_option maxRecDepth 100000
set_option maxHeartbeats 4000000
namespace F83
open PySem PySem.Spec PyProof.Rows L2 Fw
theorem flat_le {α β : Type} {f : α → List β} {c : Nat} : ∀ {l : List α}, (∀ x ∈ l, (f x).length ≤ c) → (l.flatMap f).length ≤ c * l.length
  | [], _ => by simp
  | x :: l, h => by
    have h1 := h x List.mem_cons_self
    have h2 := flat_le (l := l) fun y hy => h y (List.mem_cons_of_mem _ hy)
    rw [List.flatMap_cons, List.length_append, List.length_cons, Nat.mul_add]
    omega
def cuts {β : Type} (g : Line → Nat → Nat → β) (m : Line) : List β := (List.range 7).flatMap fun i => (List.range 7).map fun j => g m i j
theorem cuts_le {β : Type} (g : Line → Nat → Nat → β) (m : Line) : (cuts g m).length ≤ 49 := by
  have := flat_le (f := fun i => (List.range 7).map fun j => g m i j) (c := 7) (l := List.range 7) fun x _ => by rw [List.length_map, List.length_range]; omega
  rw [List.length_range] at this
  exact this
theorem cuts_mem {β : Type} (g : Line → Nat → Nat → β) (m : Line) {i j : Nat} (hi : i < 7) (hj : j < 7) : g m i j ∈ cuts g m := by
  unfold cuts
  rw [List.mem_flatMap]
  exact ⟨i, List.mem_range.mpr hi, List.mem_map.mpr ⟨j, List.mem_range.mpr hj, rfl⟩⟩
theorem all_cuts {β : Type} (g : Line → Nat → Nat → β) {names : List PySem.Str} {bs : Bans} (h : BsN names bs) : ∃ U : List β, U.length ≤ 100000 ∧ ∀ q ∈ bs, ∀ m ∈ q.2, ∀ i j, i ≤ m.length → j ≤ m.length → g m i j ∈ U := by
  refine ⟨bs.flatMap fun q => q.2.flatMap (cuts g), ?_, fun q hq m hm i j hi hj => ?_⟩
  · have := flat_le (f := fun q : PySem.Str × List Line => q.2.flatMap (cuts g)) (c := 49 * 14) (l := bs) fun q hq => by
      have h1 := flat_le (f := cuts g) (c := 49) (l := q.2) fun m _ => cuts_le g m
      have h2 := (h.g.2 q hq).2.2.1
      exact Nat.le_trans h1 (Nat.mul_le_mul_left _ h2)
    have h4 := h.len
    omega
  · have hl := ((h.g.2 q hq).2.2.2 m hm).2.1
    rw [List.mem_flatMap]
    refine ⟨q, hq, ?_⟩
    rw [List.mem_flatMap]
    exact ⟨m, hm, cuts_mem g m (by omega) (by omega)⟩
theorem BsN.ok {names : List PySem.Str} {bs : Bans} (h : BsN names bs) : BsOk bs where
  len := fun q hq m hm => by have := (h.g.2 q hq).2.2.2 m hm; exact ⟨this.1, by have := this.2.1; omega⟩
  few := fun q hq => by have := (h.g.2 q hq).2.2.1; omega
  uni := by
    obtain ⟨U, h1, h2⟩ := all_cuts (fun m i j => (m.take j).drop i) h
    exact ⟨U, h1, fun l ⟨q, hq, m, hm, i, j, hij, hj, e⟩ => e ▸ h2 q hq m hm i j (by omega) hj⟩
  fra := by
    obtain ⟨U, h1, h2⟩ := all_cuts (fun m i j => (m.take i, m.drop j)) h
    exact ⟨U, h1, fun q hq m hm i j hi hj => h2 q hq m hm i j hi hj⟩
end F83

set_option Elab.async false
set_option linter.all false
set_option maxRecDepth 100000
set_option maxHeartbeats 4000000
namespace F83
open PySem PySem.Spec PyProof.Rows L2 Fw
/-! law -/
theorem ok_small {c : Nat} (h : okCh c = true) : c < 200 := by
  have : ∀ x ∈ lets.cps.toList ++ digs.cps.toList, x < 200 := by decide
  unfold okCh at h
  rw [Bool.or_eq_true, decide_eq_true_eq, decide_eq_true_eq] at h
  exact this c (List.mem_append.mpr h)
theorem atom_small {z : PySem.Str} (h : isAtom z = true) : ∀ x ∈ z.cps.toList, x < 200 := by
  unfold isAtom at h
  simp only [Bool.and_eq_true, Bool.or_eq_true, decide_eq_true_eq] at h
  obtain ⟨⟨_, h1⟩, h2⟩ := h
  have hsp : z.cps.toList = upTo z ++ onFrom z := (List.takeWhile_append_dropWhile ..).symm
  cases hu : upTo z with
  | nil => rw [hu] at h1; cases h1
  | cons c r =>
    rw [hu] at h1
    simp only [Bool.and_eq_true] at h1
    intro x hx
    rw [hsp, List.mem_append] at hx
    rcases hx with hx | hx
    · rw [hu] at hx
      exact ok_small (List.all_eq_true.mp h1.2 x hx)
    · rcases h2 with h2 | h2
      · rw [h2] at hx; cases hx
      · cases ho : onFrom z with
        | nil => rw [ho] at hx; cases hx
        | cons d q =>
          rw [ho] at hx h2
          have hd : d = 46 := by
            have := List.head_dropWhile_not (fun c => decide (c ≠ 46)) (l := z.cps.toList) (by show onFrom z ≠ []; rw [ho]; simp)
            have h3 : (onFrom z).head (by rw [ho]; simp) = d := by simp [ho]
            unfold onFrom at h3
            rw [h3] at this
            simpa using this
          rcases List.mem_cons.mp hx with rfl | hx
          · rw [hd]; decide
          · unfold isNum at h2
            simp only [Bool.and_eq_true] at h2
            have h4 := h2.2
            have hs : (strOf (List.tail (d :: q))).cps.toList = q := rfl
            rw [hs] at h4
            cases q with
            | nil => cases hx
            | cons y q =>
              simp only [Bool.and_eq_true] at h4
              have h5 := List.all_eq_true.mp h4.2 x hx
              exact ok_small (c := x) (by unfold okCh; rw [h5, Bool.or_true])
theorem atom_str' {z : PySem.Str} (h : isAtom z = true) : (D.str z).cl = true := by
  show z.cps.all _ = true
  rw [← Array.all_toList]
  exact List.all_eq_true.mpr fun x hx => decide_eq_true (Nat.lt_trans (atom_small h x hx) (by decide))
theorem cls_strs : ∀ ss : List PySem.Str, (∀ s ∈ ss, (D.str s).cl = true) → D.cls (ss.map D.str) = true
  | [], _ => by simp [D.cls]
  | s :: ss, h => by
    rw [List.map_cons]
    unfold D.cls
    rw [h s List.mem_cons_self, cls_strs ss fun x hx => h x (List.mem_cons_of_mem _ hx)]
    rfl
theorem deps_strs : ∀ ss : List PySem.Str, D.deps (ss.map D.str) ≤ 1
  | [] => by simp [D.deps]
  | s :: ss => by have := deps_strs ss; simp [D.deps, D.dep]; omega
def sp_law : DSp := fun ds M Q => ∃ (a : Addr) (ns : List Int), ds = [.ref a] ∧ M a = some (.rl (ns.map D.int)) ∧ ∀ M', Q (.bl true) M'
theorem slen (x y : PySem.Str) : (x ++ y).length = x.length + y.length := by
  rw [← len_cps, ← len_cps, ← len_cps]
  show (TL.tl _).length = (TL.tl _).length + (TL.tl _).length
  rw [TL.tl_append, List.length_append]
theorem par_len (k : Kd) (z : PySem.Str) : (par k z).length ≤ z.length + 2 := by
  cases k with
  | «at» a => show z.length ≤ _; omega
  | op s l r =>
    show (Str.ofString "(" ++ z ++ Str.ofString ")").length ≤ _
    rw [slen, slen, show (Str.ofString "(").length = 1 by decide, show (Str.ofString ")").length = 1 by decide]
    omega
theorem fmt_len {names : List PySem.Str} (hn : ∀ s ∈ names, s.length ≤ 20) : ∀ k : Kd, KdN names k → (fmtK k).length + 10 ≤ 30 * k.cnt
  | .at a, h => by have := hn a h; show a.length + 10 ≤ 30 * 1; omega
  | .op s l r, ⟨hs, hl, hr⟩ => by
    have h1 := fmt_len hn l hl
    have h2 := fmt_len hn r hr
    have h3 := par_len l (fmtK l)
    have h4 := par_len r (fmtK r)
    have h5 : s.length = 1 := by rcases hs with rfl | rfl | rfl <;> decide
    show (par l (fmtK l) ++ Str.ofString " " ++ s ++ Str.ofString " " ++ par r (fmtK r)).length + 10 ≤ 30 * (l.cnt + r.cnt)
    rw [slen, slen, slen, slen, show (Str.ofString " ").length = 1 by decide]
    omega
theorem kdn_ok {names : List PySem.Str} (hn : ∀ s ∈ names, isAtom s = true) : ∀ k : Kd, KdN names k → KdOk k
  | .at a, h => atom_chars (hn a h)
  | .op s l r, ⟨hs, hl, hr⟩ => ⟨hs, kdn_ok hn l hl, kdn_ok hn r hr⟩
theorem BsN.str6 {names : List PySem.Str} {bs : Bans} (h : BsN names bs) {l : Line} (s : strB bs l) : 1 ≤ l.length ∧ l.length ≤ 81 := by
  obtain ⟨q, hq, m, hm, i, j, h1, h2, rfl⟩ := s
  have := ((h.g.2 q hq).2.2.2 m hm).2.1
  rw [List.length_drop, List.length_take]
  omega
theorem kdn_sub {few names : List PySem.Str} (h : ∀ s ∈ few, s ∈ names) : ∀ k : Kd, KdN few k → KdN names k
  | .at _, k => h _ k
  | .op _ l r, ⟨a, b, c⟩ => ⟨a, kdn_sub h l b, kdn_sub h r c⟩
theorem sub_draw {M M' M'' : Mem} {p : Addr} (s : SubM M M') (hp : M p = none) (b : ∀ c, c ≠ p → M'' c = M' c) : SubM M M'' := fun c o h => by
  rw [b c (fun e => by rw [e, hp] at h; cases h)]
  exact s _ _ h
theorem law_ok : ∀ ds M Q, sp_law ds M Q → w_law sp_pool sp_draw sp_anyAtom sp_bans (sp_lkind 100) (sp_lb 20) (sp_bl 20) sp_right (sp_judged 20) sp_ban sp_things sp_truth (ends Q) (startD 16 ds) M := by
  rintro ds M Q ⟨a, ns, rfl, ha, q⟩
  have h5 := sz5
  unfold w_law
  rw [sq_eq, sq1]
  simp [-Bool.exists_bool]
  refine ⟨a, ns, 0, rfl, ha, by omega, fun p M1 hp s1 p1 f1 => ?_⟩
  show sq _ _ _ _ _
  rw [sq1]
  simp [-Bool.exists_bool]
  refine fun nb hnb => ?_
  rw [sq1]
  simp [-Bool.exists_bool]
  have nbp : nb ≠ p := p1.ne hnb
  have pa : p ≠ a := fun e => by rw [e, ha] at hp; cases hp
  have hMnb : M nb = none := by
    cases h : M nb with
    | none => rfl
    | some o => rw [s1 _ _ h] at hnb; cases hnb
  refine ⟨p, 0, 4, rfl, p1.new hnb, by omega, by omega, by omega, fun d M2 hd b2 p2 => ?_⟩
  simp [-Bool.exists_bool]
  refine ⟨by unfold RgOk2; omega, ?_⟩
  rw [show ((1 : Int) + (d : Int)).toNat = 1 + d by omega]
  have sM2 : SubM M M2 := fun c o h => by
    have h1 := s1 _ _ h
    rw [b2 c (fun e => by rw [e, hp] at h; cases h), mset_ne (fun e => by rw [e, hMnb] at h; cases h)]
    exact h1
  have g2 : M2 nb = some (.lst []) := (b2 nb nbp).trans mset_same
  refine loop_range (lo := 0) (n := 1 + d) (fun i ρ M' => ∃ names : List PySem.Str, SubM M M' ∧ PoolAt M' p (1 + 11 * i) ∧ M' nb = some (.lst (names.map D.str)) ∧ names.Nodup ∧ names.length ≤ i ∧ (0 < i → names ≠ []) ∧ (∀ s ∈ names, isAtom s = true ∧ s.length ≤ 20) ∧ ∃ x3 x4, ρ = [some (D.ref a), some (.ref p), some (.ref nb), x3, x4, none, none, none, none, none, none, none, none, none, none, none]) ⟨[], sM2, p2, g2, by simp, by simp, by omega, by simp, none, none, rfl⟩ ?_ ?_
  · rintro i hi ρ M' ⟨names, sm, pl, gn, n1, n2, n3, n4, x3, x4, rfl⟩ N hN
    refine ⟨_, _, .refl, .refl, trivial, ?_⟩
    unfold w_law_1
    simp [-Bool.exists_bool]
    refine ⟨p, 1 + 11 * i, rfl, pl, by omega, fun z M3 hz hz2 b3 p3 => ?_⟩
    have sm3 : SubM M M3 := fun c o h => by
      rw [b3 c (fun e => by rw [e, hp] at h; cases h)]
      exact sm _ _ h
    have gn3 := (b3 nb nbp).trans gn
    show dIn not (.str z) (.ref nb) M3 _
    rw [y_inL gn3]
    refine inL_cl (atom_str' hz) (cls_strs names fun s hs => atom_str' (n4 s hs).1) (by simp [D.dep]) (by have := deps_strs names; omega) ?_
    simp only [ex_bl]
    by_cases hin : D.str z ∈ names.map D.str
    · rw [decide_eq_true hin]
      simp
      exact hN _ _ ⟨names, sm3, p3.more (by omega), gn3, n1, by omega, (fun _ e => by rw [e] at hin; cases hin), n4, _, _, rfl⟩
    · rw [decide_eq_false hin]
      simp [-Bool.exists_bool]
      refine ⟨⟨_, gn3⟩, _, gn3, by rw [List.length_map]; omega, hN _ _ ⟨names ++ [z], fun c o h => ?_, (p3.eqv (mset_ne nbp.symm)).more (by omega), by rw [mset_same, List.map_append]; rfl, ?_, by simp; omega, fun _ => by simp, fun s hs => ?_, _, _, rfl⟩⟩
      · rw [mset_ne (fun e => by rw [e, hMnb] at h; cases h)]
        exact sm3 _ _ h
      · rw [List.nodup_append]
        refine ⟨n1, by simp, fun x hx y hy e => ?_⟩
        rw [List.mem_singleton] at hy
        subst hy; subst e
        exact hin (List.mem_map_of_mem hx)
      · rw [List.mem_append, List.mem_singleton] at hs
        rcases hs with hs | rfl
        · exact n4 s hs
        · exact ⟨hz, hz2⟩
  · rintro ρ M' ⟨names, sm, pl, gn, n1, n2, n3, n4, x3, x4, rfl⟩
    refine ⟨_, _, .refl, .refl, trivial, ?_⟩
    have hne : names ≠ [] := n3 (by omega)
    dsimp only
    rw [sq1]
    simp [-Bool.exists_bool]
    refine ⟨p, 1 + 11 * (1 + d), 8, rfl, pl, by omega, by omega, by omega, fun d3 M3 hd3 b3 p3 => ?_⟩
    simp [-Bool.exists_bool]
    have gn3 := (b3 nb nbp).trans gn
    refine ⟨p, nb, 1 + 11 * (1 + d) + 1, decide (d3 = 7), names, ?_, nbp, p3, gn3, by omega, by omega, fun bs M4 hbs b4 p4 => ?_⟩
    · simp; omega
    have bn : BsN names bs := ⟨hbs, by omega, n4⟩
    have gn4 := (b4 nb nbp).trans gn3
    have sm4 : SubM M M4 := fun c o h => by
      rw [b4 c (fun e => by rw [e, hp] at h; cases h), b3 c (fun e => by rw [e, hp] at h; cases h)]
      exact sm _ _ h
    clear p4 b4 p3 b3 pl sm gn gn3
    show sq _ _ _ _ _
    rw [sq1]
    simp [-Bool.exists_bool]
    refine ⟨a, ns, 1, rfl, sm4 _ _ ha, by omega, fun p M5 hp5 s5 p5 f5 => ?_⟩
    have sm5 : SubM M M5 := sm4.trans s5
    have gn5 := s5 _ _ gn4
    have nb5 : nb ≠ p := fun e => by rw [e] at gn4; rw [hp5] at gn4; cases gn4
    have hMp : M p = none := by
      cases h : M p with
      | none => rfl
      | some o => rw [sm4 _ _ h] at hp5; cases hp5
    show sq _ _ _ _ _
    rw [sq1]
    simp [-Bool.exists_bool]
    refine ⟨by omega, fun p6 hp6 => ⟨p, 0, 4, rfl, p5.new hp6, by omega, by omega, by omega, fun d4 M6 hd4 b6 q6 => ?_⟩⟩
    have np6 : p6 ≠ p := p5.ne hp6
    have sm6 : SubM M M6 := sub_draw (sm5.trans (SubM.new hp6)) hMp b6
    have gn6 : M6 nb = some (.lst (names.map D.str)) := (b6 nb nb5).trans (by rw [mset_ne (fun e => by rw [← e, gn5] at hp6; cases hp6)]; exact gn5)
    show dIxA (.ref p6) (.int d4) M6 _
    rw [y_ixL ((b6 p6 np6).trans mset_same)]
    have hcap : ∃ cap : Nat, L2.atI [D.int 4, D.int 4, D.int 4, D.int 7] (d4 : Int) = some (.int (cap : Int)) ∧ 1 ≤ cap ∧ cap ≤ 7 := by
      match d4, hd4 with
      | 0, _ => exact ⟨4, rfl, by omega, by omega⟩
      | 1, _ => exact ⟨4, rfl, by omega, by omega⟩
      | 2, _ => exact ⟨4, rfl, by omega, by omega⟩
      | 3, _ => exact ⟨7, rfl, by omega, by omega⟩
    obtain ⟨cap, ecap, c1, c7⟩ := hcap
    refine ⟨_, ecap, ?_⟩
    clear hp6 sm5 gn5 sm4 gn4 p5 s5 f5 hp5 b6
    rw [sq1]
    simp [-Bool.exists_bool]
    rw [y_lenL gn6, List.length_map]
    have hnp : 0 < names.length := List.length_pos_iff.mpr hne
    refine ⟨p, 0 + 1, names.length, rfl, q6, by omega, by omega, by omega, fun d5 M7 hd5 b7 q7 => ?_⟩
    have sm7 : SubM M M7 := sub_draw sm6 hMp b7
    have gn7 := (b7 nb nb5).trans gn6
    simp [-Bool.exists_bool]
    rw [show ((1 : Int) + (d5 : Int)) = ((1 + d5 : Nat) : Int) by omega]
    refine y_slRef gn7 fun p8 hp8 => ?_
    rw [cut_to, ← List.map_take]
    have sm8 : SubM M (mset M7 p8 (.lst ((names.take (1 + d5)).map D.str))) := sm7.trans (SubM.new hp8)
    have q8 := q7.new (o := .lst ((names.take (1 + d5)).map D.str)) hp8
    have g8 : mset M7 p8 (.lst ((names.take (1 + d5)).map D.str)) p8 = _ := mset_same
    have n8 : p8 ≠ p := q7.ne hp8
    have gn8 := SubM.new (o := .lst ((names.take (1 + d5)).map D.str)) hp8 _ _ gn7
    have few0 : names.take (1 + d5) ≠ [] := by
      rw [show 1 + d5 = d5 + 1 by omega]
      simpa using hne
    have few1 : ∀ s ∈ names.take (1 + d5), s ∈ names := fun s hs => List.mem_of_mem_take hs
    have few2 : (names.take (1 + d5)).length ≤ 4 := by rw [List.length_take]; omega
    generalize mset M7 p8 (.lst ((names.take (1 + d5)).map D.str)) = M8 at sm8 q8 g8 gn8 ⊢
    generalize names.take (1 + d5) = few at g8 few0 few1 few2
    clear hp8 gn7 sm7 q7 b7 gn6 sm6 q6
    show sq _ _ _ _ _
    rw [sq1]
    simp [-Bool.exists_bool]
    refine ⟨by unfold RgOk2; omega, ?_⟩
    have e3 : ranged 0 3 = (List.range 3).map fun i : Nat => D.int (i : Int) := rfl
    rw [e3]
    refine comp_invM (fun i : Nat => D.int (i : Int)) (fun done acc M' => ∃ kk : List Kd, acc = kk.map encK ∧ kk.length = done.length ∧ (∀ k ∈ kk, KdN few k ∧ k.cnt ≤ 7) ∧ SubM M M' ∧ PoolAt M' p (2 + 25 * done.length) ∧ M' p8 = some (.lst (few.map D.str)) ∧ M' nb = some (.lst (names.map D.str))) (fun _ _ _ _ => trivial) ⟨[], rfl, rfl, by simp, sm8, q8, g8, gn8⟩ ?_ ?_ (by rw [List.length_range]; omega)
    · rintro done i rest acc M' hx ⟨kk, rfl, hkl, hkk, sm, pl, gf, gn⟩ N hN
      have hdl := congrArg List.length hx
      rw [List.length_range, List.length_append, List.length_cons] at hdl
      simp [-Bool.exists_bool]
      refine ⟨p, 2 + 25 * done.length, cap, rfl, pl, by omega, by omega, by omega, fun d6 M9 hd6 b9 p9 => ?_⟩
      simp [-Bool.exists_bool]
      have e1 : ((1 : Int) + (d6 : Int)) = ((1 + d6 : Nat) : Int) := by omega
      refine ⟨p, p8, 2 + 25 * done.length + 1, 1 + d6, few, by rw [e1], n8, p9, (b9 _ n8).trans gf, few0, by omega, by omega, by omega, by omega, by omega, fun k M10 kn kc b10 p10 => ?_⟩
      refine hN _ _ ⟨kk ++ [k], by simp, by simp [hkl], fun k' hk' => ?_, sub_draw (sub_draw sm hMp b9) hMp b10, p10.more (by simp; omega), (b10 _ n8).trans ((b9 _ n8).trans gf), (b10 _ nb5).trans ((b9 _ nb5).trans gn)⟩
      rw [List.mem_append, List.mem_singleton] at hk'
      rcases hk' with hk' | rfl
      · exact hkk _ hk'
      · exact ⟨kn, by omega⟩
    · rintro acc M' ⟨kk, rfl, hkl, hkk, sm, pl, gf, gn⟩ p10 hp10
      have sm' := sm.trans (SubM.new (o := .lst (kk.map encK)) hp10)
      have gk : mset M' p10 (.lst (kk.map encK)) p10 = _ := mset_same
      have gf' := SubM.new (o := .lst (kk.map encK)) hp10 _ _ gf
      have gn' := SubM.new (o := .lst (kk.map encK)) hp10 _ _ gn
      have pl' := pl.new (o := .lst (kk.map encK)) hp10
      have n10 : p10 ≠ p := pl.ne hp10
      rw [List.length_range] at hkl pl'
      generalize mset M' p10 (.lst (kk.map encK)) = M11 at sm' gk gf' gn' pl' ⊢
      clear gf gn pl hp10 sm
      rw [sq1]
      simp [-Bool.exists_bool]
      refine y_addL gk gf' (by simp; omega) fun p12 hp12 => ?_
      have ech : kk.map encK ++ few.map D.str = (kk ++ few.map Kd.at).map encK := by
        rw [List.map_append, List.map_map]; rfl
      rw [ech]
      have hch : ∀ k ∈ kk ++ few.map Kd.at, KdN names k ∧ k.cnt ≤ 7 := fun k hk => by
        rw [List.mem_append, List.mem_map] at hk
        rcases hk with hk | ⟨s, hs, rfl⟩
        · exact ⟨kdn_sub few1 k (hkk k hk).1, (hkk k hk).2⟩
        · exact ⟨few1 s hs, by show 1 ≤ 7; omega⟩
      have lch : (kk ++ few.map Kd.at).length ≤ 7 ∧ 1 ≤ (kk ++ few.map Kd.at).length := by
        rw [List.length_append, List.length_map]; omega
      have n12 : p12 ≠ p := pl'.ne hp12
      have sm2 := sm'.trans (SubM.new (o := .lst ((kk ++ few.map Kd.at).map encK)) hp12)
      have g12 : mset M11 p12 (.lst ((kk ++ few.map Kd.at).map encK)) p12 = _ := mset_same
      have gk2 := SubM.new (o := .lst ((kk ++ few.map Kd.at).map encK)) hp12 _ _ gk
      have gn2 := SubM.new (o := .lst ((kk ++ few.map Kd.at).map encK)) hp12 _ _ gn'
      have pl2 := pl'.new (o := .lst ((kk ++ few.map Kd.at).map encK)) hp12
      generalize mset M11 p12 (.lst ((kk ++ few.map Kd.at).map encK)) = M12 at sm2 g12 gk2 gn2 pl2 ⊢
      generalize kk ++ few.map Kd.at = ch at g12 hch lch
      clear hp12 sm' gk gf' gn' pl'
      show sq _ _ _ _ _
      rw [sq1]
      simp [-Bool.exists_bool]
      refine ⟨p, 2 + 25 * 3, 4, rfl, pl2, by omega, by omega, by omega, fun d7 M13 hd7 b13 p13 => ?_⟩
      simp [-Bool.exists_bool]
      refine ⟨by unfold RgOk2; omega, ?_⟩
      have er : ranged 0 ((1 : Int) + (d7 : Int)).toNat = (List.range (1 + d7)).map fun i : Nat => D.int (i : Int) := by unfold ranged; rw [show ((1 : Int) + (d7 : Int)).toNat = 1 + d7 by omega]; simp
      rw [er]
      refine comp_invM (fun i : Nat => D.int (i : Int)) (fun done acc M' => ∃ ks : List Kd, acc = ks.map encK ∧ ks.length = done.length ∧ (∀ k ∈ ks, k ∈ ch) ∧ SubM M M' ∧ PoolAt M' p (78 + done.length) ∧ M' p12 = some (.lst (ch.map encK)) ∧ M' p10 = some (.lst (kk.map encK)) ∧ M' nb = some (.lst (names.map D.str))) (fun _ _ _ _ => trivial) ⟨[], rfl, rfl, by simp, sub_draw sm2 hMp b13, p13, (b13 _ n12).trans g12, (b13 _ n10).trans gk2, (b13 _ nb5).trans gn2⟩ ?_ ?_ (by rw [List.length_range]; omega)
      · rintro done i rest acc M' hx ⟨ks, rfl, hkl, hks, sm, pl, gc, gk, gn⟩ N hN
        have hdl := congrArg List.length hx
        rw [List.length_range, List.length_append, List.length_cons] at hdl
        simp [-Bool.exists_bool]
        rw [y_lenL gc, List.length_map]
        refine ⟨p, 78 + done.length, ch.length, rfl, pl, by omega, by omega, by omega, fun e M14 he b14 p14 => ?_⟩
        show dIxA (.ref p12) (.int e) M14 _
        rw [y_ixL ((b14 _ n12).trans gc)]
        refine ⟨encK ch[e], at_nat (by rw [List.getElem?_map, List.getElem?_eq_getElem he]; rfl), hN _ _ ⟨ks ++ [ch[e]], by simp, by simp [hkl], fun k hk => ?_, sub_draw sm hMp b14, p14.more (by simp; omega), (b14 _ n12).trans gc, (b14 _ n10).trans gk, (b14 _ nb5).trans gn⟩⟩
        rw [List.mem_append, List.mem_singleton] at hk
        rcases hk with hk | rfl
        · exact hks k hk
        · exact List.getElem_mem he
      · rintro acc M' ⟨ks, rfl, hkl2, hks, sm, pl, gc, gk, gn⟩ p14 hp14
        rw [List.length_range] at hkl2 pl
        rw [y_tupL mset_same]
        have sm3 := sm.trans (SubM.new (o := .lst (ks.map encK)) hp14)
        have gc3 := SubM.new (o := .lst (ks.map encK)) hp14 _ _ gc
        have gk3 := SubM.new (o := .lst (ks.map encK)) hp14 _ _ gk
        have gn3 := SubM.new (o := .lst (ks.map encK)) hp14 _ _ gn
        have pl3 := pl.new (o := .lst (ks.map encK)) hp14
        generalize mset M' p14 (.lst (ks.map encK)) = M15 at sm3 gc3 gk3 gn3 pl3 ⊢
        clear hp14 sm gc gk gn pl
        show sq _ _ _ _ _
        rw [sq1]
        simp [-Bool.exists_bool]
        rw [y_lenL gc3, List.length_map]
        refine ⟨p, 78 + (1 + d7), ch.length, rfl, pl3, by omega, by omega, by omega, fun e M16 he b16 p16 => ?_⟩
        show dIxA (.ref p12) (.int e) M16 _
        rw [y_ixL ((b16 _ n12).trans gc3)]
        refine ⟨encK ch[e], at_nat (by rw [List.getElem?_map, List.getElem?_eq_getElem he]; rfl), by omega, ?_⟩
        have hg : ch[e] ∈ ch := List.getElem_mem he
        generalize ch[e] = g at hg
        have sm4 : SubM M M16 := sub_draw sm3 hMp b16
        have gk4 := (b16 _ n10).trans gk3
        have gn4 := (b16 _ nb5).trans gn3
        clear b16 p16 sm3 gc3 gk3 gn3 pl3
        have hat : ∀ s ∈ names, isAtom s = true := fun s hs => (n4 s hs).1
        have hKd : ∀ k : Kd, KdN names k → k.cnt ≤ 7 → KdOk k ∧ k.dep < 20 ∧ (fmtK k).length ≤ 100000 := fun k hk hc => ⟨kdn_ok hat k hk, by have := dep_cnt k; omega, by have := fmt_len (fun s hs => (n4 s hs).2) k hk; omega⟩
        have ok : SeqOk 20 bs ks g := ⟨bn.ok, by omega, fun k hk => by
          have : k ∈ ch := by
            rcases List.mem_cons.mp hk with rfl | hk
            · exact hg
            · exact hks k hk
          exact hKd k (hch k this).1 (hch k this).2⟩
        show sq _ _ _ _ _
        rw [sq1]
        simp [-Bool.exists_bool]
        refine ⟨by unfold RgOk2; omega, ?_⟩
        refine loop_range (lo := 0) (n := 2) (fun i ρ M' => SubM M M' ∧ M' p10 = some (.lst (kk.map encK)) ∧ M' nb = some (.lst (names.map D.str)) ∧ ∃ x12 x13, ρ = [some (D.ref a), some (D.ref p), some (D.ref nb), x3, x4, some (encB bs), some (D.int ↑cap), some (D.ref p8),
        some (D.ref p10), some (D.ref p12), some (D.tup (List.map encK ks)), some (encS ks g), x12, x13, none, none]) ⟨sm4, gk4, gn4, none, none, rfl⟩ ?_ ?_
        · rintro i hi ρ M' ⟨sm, gk, gn, x12, x13, rfl⟩ N hN
          refine ⟨_, _, .refl, .refl, trivial, ?_⟩
          unfold w_law_3
          rw [sq_eq]
          simp [-Bool.exists_bool]
          rw [sq1]
          simp [-Bool.exists_bool]
          rw [y_ixL gn]
          have hn0 : names[0]? = some names[0] := List.getElem?_eq_getElem hnp
          refine ⟨.str names[0], at_nat (n := 0) (by rw [List.getElem?_map, hn0]; rfl), by omega, fun p20 hp20 => ?_⟩
          have h0m : names[0] ∈ names := List.getElem_mem hnp
          generalize names[0] = nm0 at h0m
          have s20 := SubM.new (o := .lst [D.str nm0]) hp20
          refine y_addL (s20 _ _ gk) mset_same (by simp; omega) fun p21 hp21 => ?_
          have ekk : kk.map encK ++ [D.str nm0] = (kk ++ [Kd.at nm0]).map encK := by rw [List.map_append]; rfl
          rw [ekk]
          have s21 := s20.trans (SubM.new (o := .lst ((kk ++ [Kd.at nm0]).map encK)) hp21)
          have gk2 : mset (mset M' p20 (.lst [D.str nm0])) p21 (.lst ((kk ++ [Kd.at nm0]).map encK)) p21 = _ := mset_same
          have hkk2 : ∀ k ∈ kk ++ [Kd.at nm0], KdOk k ∧ k.dep < 20 ∧ (fmtK k).length ≤ 100000 := fun k hk => by
            rw [List.mem_append, List.mem_singleton] at hk
            rcases hk with hk | rfl
            · exact hKd k (kdn_sub few1 k (hkk k hk).1) (hkk k hk).2
            · exact hKd _ h0m (by show 1 ≤ 7; omega)
          generalize mset (mset M' p20 (.lst [D.str nm0])) p21 (.lst ((kk ++ [Kd.at nm0]).map encK)) = M21 at s21 gk2 ⊢
          generalize kk ++ [Kd.at nm0] = k4 at gk2 hkk2
          clear s20 hp20 hp21
          show withSrc (.ref p21) _ _
          rw [y_srcL gk2]
          refine loop_map (xs := k4) encK (fun done ρ M'' => SubM M21 M'' ∧ ∃ x13, ρ = [some (D.ref a), some (D.ref p), some (D.ref nb), x3, x4, some (encB bs), some (D.int ↑cap), some (D.ref p8), some (D.ref p10), some (D.ref p12), some (D.tup (List.map encK ks)), some (encS ks g), some (.int (i : Int)), x13, none, none]) ⟨.refl, x13, rfl⟩ ?_ ?_
          · rintro done k rest hx ρ M'' ⟨sm2, x13, rfl⟩ N2 hN2
            refine ⟨_, _, .refl, .refl, sm2 _ _ gk2, ?_⟩
            obtain ⟨k1, k2, k3⟩ := hkk2 k (by rw [hx]; simp)
            unfold w_law_2
            simp [-Bool.exists_bool]
            refine ⟨bs, k, rfl, k2, bn.ok, fun ls l1 l2 l3 => ?_⟩
            simp [-Bool.exists_bool]
            refine ⟨bs, k, rfl, k2, bn.ok, fun p22 kvs t hp22 lt => ?_⟩
            obtain ⟨U, hU, hin⟩ := bn.ok.uni
            refine ⟨ls, p22, kvs, t, kindB bs k, U, rfl, mset_same, lt, l1, l2, l3, fun l hl => ?_, hU, fun l hl => hin l (kind_str bn.ok k l hl), ?_⟩
            · exact bn.str6 (kind_str bn.ok k l hl)
            · simp [-Bool.exists_bool]
              exact hN2 _ _ ⟨sm2.trans (SubM.new hp22), _, rfl⟩
          · rintro ρ M'' ⟨sm2, x13, rfl⟩
            refine ⟨_, _, .refl, .refl, sm2 _ _ gk2, ?_⟩
            simp [-Bool.exists_bool]
            refine ⟨bs, ks, g, rfl, ok, ?_⟩
            simp [-Bool.exists_bool]
            refine ⟨encB bs, rfl, (bn.ban (List.Sublist.refl _)).2 _, ?_⟩
            rw [show isBanD (encB bs) = true from (bn.ban (List.Sublist.refl _)).1]
            simp [-Bool.exists_bool]
            exact hN _ _ ⟨(sm.trans s21).trans sm2, sm2 _ _ (s21 _ _ gk), sm2 _ _ (s21 _ _ gn), _, _, rfl⟩
        · rintro ρ M' ⟨sm, gk, gn, x12, x13, rfl⟩
          refine ⟨_, _, .refl, .refl, trivial, ?_⟩
          dsimp only
          rw [sq1]
          simp [-Bool.exists_bool]
          refine ⟨a, ns, 2, rfl, sm _ _ ha, by omega, fun p30 M30 hp30 s30 p30' f30 => ?_⟩
          refine ⟨p30, 0, bs, names, rfl, p30', by omega, hbs, by omega, n4, fun p31 M31 th => ?_⟩
          obtain ⟨zs, h1, h2, h3⟩ := th.ex
          show withSrc (.ref p31) _ _
          rw [y_srcL h1]
          refine loop_L (fun done ρ M' => SubM M31 M' ∧ ∃ x14 x15, ρ = [some (D.ref a), some (D.ref p), some (D.ref nb), x3, x4, some (encB bs), some (D.int ↑cap), some (D.ref p8), some (D.ref p10), some (D.ref p12), some (D.tup (List.map encK ks)), some (encS ks g), x12, x13, x14, x15]) ⟨.refl, none, none, rfl⟩ ?_ ?_
          · rintro done x rest hx ρ M' ⟨sm2, x14, x15, rfl⟩ N2 hN2
            change (zs.map fun z => D.ref z.1) = done ++ x :: rest at hx
            have hxm : x ∈ zs.map fun z => D.ref z.1 := by rw [hx]; simp
            rw [List.mem_map] at hxm
            obtain ⟨z, hz, rfl⟩ := hxm
            obtain ⟨z1, z2, z3, z4⟩ := h3 z hz
            refine ⟨_, _, z.1, [z.2.1, .bl z.2.2], .refl, .refl, sm2 _ _ h1, rfl, sm2 _ _ z2, rfl, ?_⟩
            unfold w_law_4
            simp [-Bool.exists_bool]
            refine ⟨z.2.1, rfl, knC_ty (SubM.ty sm2) z4, ?_⟩
            rw [z3]
            refine ⟨z.2.2, z.2.2, rfl, ?_⟩
            simp [-Bool.exists_bool]
            exact hN2 _ _ ⟨sm2, _, _, rfl⟩
          · rintro ρ M' ⟨sm2, x14, x15, rfl⟩
            refine ⟨_, _, .refl, .refl, sm2 _ _ h1, ?_⟩
            simp [-Bool.exists_bool]
            exact drops_of (q _)
end F83

set_option Elab.async false
set_option linter.all false
set_option maxRecDepth 100000
set_option maxHeartbeats 0
/-! printed by asm.py: the join of fractionwords_k83_banned_lines -/
namespace F83
open PySem PySem.Spec PyProof.Rows L2 Fw
structure Z (K : PySem.W.Frag) (mg : PySem.Str → Option Value) (C : Addr) : Prop where
  g : G K mg C
  f_is_atom_number : ∃ f fd, FunD K "is_atom_number" "is_atom_number" (defArgs st_is_atom_number) (defBody st_is_atom_number) (defScope st_is_atom_number) [] [] f fd ∧ mg "is_atom_number" = some (.ref f)
  f_is_atom : ∃ f fd, FunD K "is_atom" "is_atom" (defArgs st_is_atom) (defBody st_is_atom) (defScope st_is_atom) [] [] f fd ∧ mg "is_atom" = some (.ref f)
  f_is_line : ∃ f fd, FunD K "is_line" "is_line" (defArgs st_is_line) (defBody st_is_line) (defScope st_is_line) [] [] f fd ∧ mg "is_line" = some (.ref f)
  f_are_unlike_lines : ∃ f fd, FunD K "are_unlike_lines" "are_unlike_lines" (defArgs st_are_unlike_lines) (defBody st_are_unlike_lines) (defScope st_are_unlike_lines) [] [] f fd ∧ mg "are_unlike_lines" = some (.ref f)
  f_is_ban_list : ∃ f fd, FunD K "is_ban_list" "is_ban_list" (defArgs st_is_ban_list) (defBody st_is_ban_list) (defScope st_is_ban_list) [] [] f fd ∧ mg "is_ban_list" = some (.ref f)
  f_atom_banned : ∃ f fd, FunD K "atom_banned" "atom_banned" (defArgs st_atom_banned) (defBody st_atom_banned) (defScope st_atom_banned) [] [] f fd ∧ mg "atom_banned" = some (.ref f)
  f_over_banned : ∃ f fd, FunD K "over_banned" "over_banned" (defArgs st_over_banned) (defBody st_over_banned) (defScope st_over_banned) [] [] f fd ∧ mg "over_banned" = some (.ref f)
  f_under_banned : ∃ f fd, FunD K "under_banned" "under_banned" (defArgs st_under_banned) (defBody st_under_banned) (defScope st_under_banned) [] [] f fd ∧ mg "under_banned" = some (.ref f)
  f_is_allowed_row : ∃ f fd, FunD K "is_allowed_row" "is_allowed_row" (defArgs st_is_allowed_row) (defBody st_is_allowed_row) (defScope st_is_allowed_row) [] [] f fd ∧ mg "is_allowed_row" = some (.ref f)
  f_allowed_frames : ∃ f fd, FunD K "allowed_frames" "allowed_frames" (defArgs st_allowed_frames) (defBody st_allowed_frames) (defScope st_allowed_frames) [] [] f fd ∧ mg "allowed_frames" = some (.ref f)
  f_pair_banned : ∃ f fd, FunD K "pair_banned" "pair_banned" (defArgs st_pair_banned) (defBody st_pair_banned) (defScope st_pair_banned) [] [] f fd ∧ mg "pair_banned" = some (.ref f)
  f_kind_banned : ∃ f fd, FunD K "kind_banned" "kind_banned" (defArgs st_kind_banned) (defBody st_kind_banned) (defScope st_kind_banned) [] [] f fd ∧ mg "kind_banned" = some (.ref f)
  f_line_key : ∃ f fd, FunD K "line_key" "line_key" (defArgs st_line_key) (defBody st_line_key) (defScope st_line_key) [] [] f fd ∧ mg "line_key" = some (.ref f)
  f_banned_lines : ∃ f fd, FunD K "banned_lines" "banned_lines" (defArgs st_banned_lines) (defBody st_banned_lines) (defScope st_banned_lines) [] [] f fd ∧ mg "banned_lines" = some (.ref f)
  f_format_part : ∃ f fd, FunD K "format_part" "format_part" (defArgs st_format_part) (defBody st_format_part) (defScope st_format_part) [] [] f fd ∧ mg "format_part" = some (.ref f)
  f_format_kind : ∃ f fd, FunD K "format_kind" "format_kind" (defArgs st_format_kind) (defBody st_format_kind) (defScope st_format_kind) [] [] f fd ∧ mg "format_kind" = some (.ref f)
  f_pieces_of : ∃ f fd, FunD K "pieces_of" "pieces_of" (defArgs st_pieces_of) (defBody st_pieces_of) (defScope st_pieces_of) [] [] f fd ∧ mg "pieces_of" = some (.ref f)
  f_Truth___init__ : ∃ f fd, FunD K "__init__" "Truth.__init__" (defArgs st_Truth___init__) (defBody st_Truth___init__) (defScope st_Truth___init__) [] [] f fd ∧ Mk K C f ∧ mg "Truth" = some (.ref C)
  f_Truth_banned_by : ∃ f fd, FunD K "banned_by" "Truth.banned_by" (defArgs st_Truth_banned_by) (defBody st_Truth_banned_by) (defScope st_Truth_banned_by) [] [] f fd ∧ Meth K C "banned_by" f
  f_Truth_failing : ∃ f fd, FunD K "failing" "Truth.failing" (defArgs st_Truth_failing) (defBody st_Truth_failing) (defScope st_Truth_failing) [] [] f fd ∧ Meth K C "failing" f
  f_failing_lines : ∃ f fd, FunD K "failing_lines" "failing_lines" (defArgs st_failing_lines) (defBody st_failing_lines) (defScope st_failing_lines) [] [] f fd ∧ mg "failing_lines" = some (.ref f)
  f_holds : ∃ f fd, FunD K "holds" "holds" (defArgs st_holds) (defBody st_holds) (defScope st_holds) [] [] f fd ∧ mg "holds" = some (.ref f)
  f__law_cell : ∃ f fd, FunD K "_law_cell" "_law_cell" (defArgs st__law_cell) (defBody st__law_cell) (defScope st__law_cell) [] [] f fd ∧ mg "_law_cell" = some (.ref f)
  f__law_mix : ∃ f fd, FunD K "_law_mix" "_law_mix" (defArgs st__law_mix) (defBody st__law_mix) (defScope st__law_mix) [] [] f fd ∧ mg "_law_mix" = some (.ref f)
  f__law_pool : ∃ f fd, FunD K "_law_pool" "_law_pool" (defArgs st__law_pool) (defBody st__law_pool) (defScope st__law_pool) [] [] f fd ∧ mg "_law_pool" = some (.ref f)
  f__law_draw : ∃ f fd, FunD K "_law_draw" "_law_draw" (defArgs st__law_draw) (defBody st__law_draw) (defScope st__law_draw) [] [] f fd ∧ mg "_law_draw" = some (.ref f)
  f__law_any_atom : ∃ f fd, FunD K "_law_any_atom" "_law_any_atom" (defArgs st__law_any_atom) (defBody st__law_any_atom) (defScope st__law_any_atom) [] [] f fd ∧ mg "_law_any_atom" = some (.ref f)
  f__law_kind : ∃ f fd, FunD K "_law_kind" "_law_kind" (defArgs st__law_kind) (defBody st__law_kind) (defScope st__law_kind) [] [] f fd ∧ mg "_law_kind" = some (.ref f)
  f__law_is_integer : ∃ f fd, FunD K "_law_is_integer" "_law_is_integer" (defArgs st__law_is_integer) (defBody st__law_is_integer) (defScope st__law_is_integer) [] [] f fd ∧ mg "_law_is_integer" = some (.ref f)
  f__law_is_places : ∃ f fd, FunD K "_law_is_places" "_law_is_places" (defArgs st__law_is_places) (defBody st__law_is_places) (defScope st__law_is_places) [] [] f fd ∧ mg "_law_is_places" = some (.ref f)
  f__law_is_truth : ∃ f fd, FunD K "_law_is_truth" "_law_is_truth" (defArgs st__law_is_truth) (defBody st__law_is_truth) (defScope st__law_is_truth) [] [] f fd ∧ mg "_law_is_truth" = some (.ref f)
  f__law_stretches : ∃ f fd, FunD K "_law_stretches" "_law_stretches" (defArgs st__law_stretches) (defBody st__law_stretches) (defScope st__law_stretches) [] [] f fd ∧ mg "_law_stretches" = some (.ref f)
  f__law_goes_on : ∃ f fd, FunD K "_law_goes_on" "_law_goes_on" (defArgs st__law_goes_on) (defBody st__law_goes_on) (defScope st__law_goes_on) [] [] f fd ∧ mg "_law_goes_on" = some (.ref f)
  f__law_frame_free : ∃ f fd, FunD K "_law_frame_free" "_law_frame_free" (defArgs st__law_frame_free) (defBody st__law_frame_free) (defScope st__law_frame_free) [] [] f fd ∧ mg "_law_frame_free" = some (.ref f)
  f__law_pair_bans : ∃ f fd, FunD K "_law_pair_bans" "_law_pair_bans" (defArgs st__law_pair_bans) (defBody st__law_pair_bans) (defScope st__law_pair_bans) [] [] f fd ∧ mg "_law_pair_bans" = some (.ref f)
  f__law_banned : ∃ f fd, FunD K "_law_banned" "_law_banned" (defArgs st__law_banned) (defBody st__law_banned) (defScope st__law_banned) [] [] f fd ∧ mg "_law_banned" = some (.ref f)
  f__law_splits : ∃ f fd, FunD K "_law_splits" "_law_splits" (defArgs st__law_splits) (defBody st__law_splits) (defScope st__law_splits) [] [] f fd ∧ mg "_law_splits" = some (.ref f)
  f__law_fails : ∃ f fd, FunD K "_law_fails" "_law_fails" (defArgs st__law_fails) (defBody st__law_fails) (defScope st__law_fails) [] [] f fd ∧ mg "_law_fails" = some (.ref f)
  f__law_some_line : ∃ f fd, FunD K "_law_some_line" "_law_some_line" (defArgs st__law_some_line) (defBody st__law_some_line) (defScope st__law_some_line) [] [] f fd ∧ mg "_law_some_line" = some (.ref f)
  f__law_bans : ∃ f fd, FunD K "_law_bans" "_law_bans" (defArgs st__law_bans) (defBody st__law_bans) (defScope st__law_bans) [] [] f fd ∧ mg "_law_bans" = some (.ref f)
  f__law_line_of_lists : ∃ f fd, FunD K "_law_line_of_lists" "_law_line_of_lists" (defArgs st__law_line_of_lists) (defBody st__law_line_of_lists) (defScope st__law_line_of_lists) [] [] f fd ∧ mg "_law_line_of_lists" = some (.ref f)
  f__law_things : ∃ f fd, FunD K "_law_things" "_law_things" (defArgs st__law_things) (defBody st__law_things) (defScope st__law_things) [] [] f fd ∧ mg "_law_things" = some (.ref f)
  f__law_lines_right : ∃ f fd, FunD K "_law_lines_right" "_law_lines_right" (defArgs st__law_lines_right) (defBody st__law_lines_right) (defScope st__law_lines_right) [] [] f fd ∧ mg "_law_lines_right" = some (.ref f)
  f__law_shown : ∃ f fd, FunD K "_law_shown" "_law_shown" (defArgs st__law_shown) (defBody st__law_shown) (defScope st__law_shown) [] [] f fd ∧ mg "_law_shown" = some (.ref f)
  f__law_judged : ∃ f fd, FunD K "_law_judged" "_law_judged" (defArgs st__law_judged) (defBody st__law_judged) (defScope st__law_judged) [] [] f fd ∧ mg "_law_judged" = some (.ref f)
  f_law : ∃ f fd, FunD K "law" "law" (defArgs st_law) (defBody st_law) (defScope st_law) [] [] f fd ∧ mg "law" = some (.ref f)
theorem c_is_atom_number {P : Program} {w : World} {K : PySem.W.Frag} {mg : PySem.Str → Option Value} {base : Heap} {C : Addr} (z : Z K mg C) : CalD P w K mg base 1 "is_atom_number" sp_num :=
  let ⟨f, fd, F, hm⟩ := z.f_is_atom_number
  ⟨f, fd, ps_is_atom_number, [], (fn_ok F fs_is_atom_number (by intro ds M Q h; unfold sp_num at h; (repeat' (first | (obtain ⟨rfl, _⟩ := h; rfl) | (obtain ⟨_, h⟩ := h)))) (fun cdv A outer s H E hr => b_is_atom_number (k := 0) z.g  cdv A outer s H E hr) num_ok), hm, F.kp, (F.bindsN fun _ _ _ _ _ _ us hl => match us, hl with | [_], _ => rfl), .nil⟩
theorem c_is_atom {P : Program} {w : World} {K : PySem.W.Frag} {mg : PySem.Str → Option Value} {base : Heap} {C : Addr} (z : Z K mg C) : CalD P w K mg base 2 "is_atom" sp_atom :=
  let ⟨f, fd, F, hm⟩ := z.f_is_atom
  ⟨f, fd, ps_is_atom, [], (fn_ok F fs_is_atom (by intro ds M Q h; unfold sp_atom at h; (repeat' (first | (obtain ⟨rfl, _⟩ := h; rfl) | (obtain ⟨_, h⟩ := h)))) (fun cdv A outer s H E hr => b_is_atom (k := 1) z.g (CalD.mono (c_is_atom_number z) (by decide : _ ≤ 1)) cdv A outer s H E hr) atom_ok), hm, F.kp, (F.bindsN fun _ _ _ _ _ _ us hl => match us, hl with | [_], _ => rfl), .nil⟩
theorem c_is_line {P : Program} {w : World} {K : PySem.W.Frag} {mg : PySem.Str → Option Value} {base : Heap} {C : Addr} (z : Z K mg C) : CalD P w K mg base 1 "is_line" sp_line :=
  let ⟨f, fd, F, hm⟩ := z.f_is_line
  ⟨f, fd, ps_is_line, [], (fn_ok F fs_is_line (by intro ds M Q h; unfold sp_line at h; (repeat' (first | (obtain ⟨rfl, _⟩ := h; rfl) | (obtain ⟨_, h⟩ := h)))) (fun cdv A outer s H E hr => b_is_line (k := 0) z.g  cdv A outer s H E hr) line_ok), hm, F.kp, (F.bindsN fun _ _ _ _ _ _ us hl => match us, hl with | [_], _ => rfl), .nil⟩
theorem c_are_unlike_lines {P : Program} {w : World} {K : PySem.W.Frag} {mg : PySem.Str → Option Value} {base : Heap} {C : Addr} (z : Z K mg C) : CalD P w K mg base 2 "are_unlike_lines" sp_unlike :=
  let ⟨f, fd, F, hm⟩ := z.f_are_unlike_lines
  ⟨f, fd, ps_are_unlike_lines, [], (fn_ok F fs_are_unlike_lines (by intro ds M Q h; unfold sp_unlike at h; (repeat' (first | (obtain ⟨rfl, _⟩ := h; rfl) | (obtain ⟨_, h⟩ := h)))) (fun cdv A outer s H E hr => b_are_unlike_lines (k := 1) z.g (CalD.mono (c_is_line z) (by decide : _ ≤ 1)) cdv A outer s H E hr) unlike_ok), hm, F.kp, (F.bindsN fun _ _ _ _ _ _ us hl => match us, hl with | [_], _ => rfl), .nil⟩
theorem c_is_ban_list {P : Program} {w : World} {K : PySem.W.Frag} {mg : PySem.Str → Option Value} {base : Heap} {C : Addr} (z : Z K mg C) : CalD P w K mg base 3 "is_ban_list" sp_ban :=
  let ⟨f, fd, F, hm⟩ := z.f_is_ban_list
  ⟨f, fd, ps_is_ban_list, [], (fn_ok F fs_is_ban_list (by intro ds M Q h; unfold sp_ban at h; (repeat' (first | (obtain ⟨rfl, _⟩ := h; rfl) | (obtain ⟨_, h⟩ := h)))) (fun cdv A outer s H E hr => b_is_ban_list (k := 2) z.g (CalD.mono (c_is_atom z) (by decide : _ ≤ 2)) (CalD.mono (c_are_unlike_lines z) (by decide : _ ≤ 2)) cdv A outer s H E hr) ban_ok), hm, F.kp, (F.bindsN fun _ _ _ _ _ _ us hl => match us, hl with | [_], _ => rfl), .nil⟩
theorem c_atom_banned {P : Program} {w : World} {K : PySem.W.Frag} {mg : PySem.Str → Option Value} {base : Heap} {C : Addr} (z : Z K mg C) : CalD P w K mg base 1 "atom_banned" sp_atomB :=
  let ⟨f, fd, F, hm⟩ := z.f_atom_banned
  ⟨f, fd, ps_atom_banned, [], (fn_ok F fs_atom_banned (by intro ds M Q h; unfold sp_atomB at h; (repeat' (first | (obtain ⟨rfl, _⟩ := h; rfl) | (obtain ⟨_, h⟩ := h)))) (fun cdv A outer s H E hr => b_atom_banned (k := 0) z.g  cdv A outer s H E hr) atomB_ok), hm, F.kp, (F.bindsN fun _ _ _ _ _ _ us hl => match us, hl with | [_, _], _ => rfl), .nil⟩
theorem c_over_banned {P : Program} {w : World} {K : PySem.W.Frag} {mg : PySem.Str → Option Value} {base : Heap} {C : Addr} (z : Z K mg C) : CalD P w K mg base 1 "over_banned" sp_over :=
  let ⟨f, fd, F, hm⟩ := z.f_over_banned
  ⟨f, fd, ps_over_banned, [], (fn_ok F fs_over_banned (by intro ds M Q h; unfold sp_over at h; (repeat' (first | (obtain ⟨rfl, _⟩ := h; rfl) | (obtain ⟨_, h⟩ := h)))) (fun cdv A outer s H E hr => b_over_banned (k := 0) z.g  cdv A outer s H E hr) over_ok), hm, F.kp, (F.bindsN fun _ _ _ _ _ _ us hl => match us, hl with | [_, _], _ => rfl), .nil⟩
theorem c_under_banned {P : Program} {w : World} {K : PySem.W.Frag} {mg : PySem.Str → Option Value} {base : Heap} {C : Addr} (z : Z K mg C) : CalD P w K mg base 1 "under_banned" sp_under :=
  let ⟨f, fd, F, hm⟩ := z.f_under_banned
  ⟨f, fd, ps_under_banned, [], (fn_ok F fs_under_banned (by intro ds M Q h; unfold sp_under at h; (repeat' (first | (obtain ⟨rfl, _⟩ := h; rfl) | (obtain ⟨_, h⟩ := h)))) (fun cdv A outer s H E hr => b_under_banned (k := 0) z.g  cdv A outer s H E hr) under_ok), hm, F.kp, (F.bindsN fun _ _ _ _ _ _ us hl => match us, hl with | [_, _], _ => rfl), .nil⟩
theorem c_is_allowed_row {P : Program} {w : World} {K : PySem.W.Frag} {mg : PySem.Str → Option Value} {base : Heap} {C : Addr} (z : Z K mg C) : CalD P w K mg base 1 "is_allowed_row" sp_row :=
  let ⟨f, fd, F, hm⟩ := z.f_is_allowed_row
  ⟨f, fd, ps_is_allowed_row, [], (fn_ok F fs_is_allowed_row (by intro ds M Q h; unfold sp_row at h; (repeat' (first | (obtain ⟨rfl, _⟩ := h; rfl) | (obtain ⟨_, h⟩ := h)))) (fun cdv A outer s H E hr => b_is_allowed_row (k := 0) z.g  cdv A outer s H E hr) row_ok), hm, F.kp, (F.bindsN fun _ _ _ _ _ _ us hl => match us, hl with | [_, _, _], _ => rfl), .nil⟩
theorem c_allowed_frames {P : Program} {w : World} {K : PySem.W.Frag} {mg : PySem.Str → Option Value} {base : Heap} {C : Addr} (z : Z K mg C) : CalD P w K mg base 2 "allowed_frames" sp_frames :=
  let ⟨f, fd, F, hm⟩ := z.f_allowed_frames
  ⟨f, fd, ps_allowed_frames, [], (fn_ok F fs_allowed_frames (by intro ds M Q h; unfold sp_frames at h; (repeat' (first | (obtain ⟨rfl, _⟩ := h; rfl) | (obtain ⟨_, h⟩ := h)))) (fun cdv A outer s H E hr => b_allowed_frames (k := 1) z.g (CalD.mono (c_is_allowed_row z) (by decide : _ ≤ 1)) cdv A outer s H E hr) frames_ok), hm, F.kp, (F.bindsN fun _ _ _ _ _ _ us hl => match us, hl with | [_, _, _], _ => rfl), .nil⟩
theorem c_pair_banned {P : Program} {w : World} {K : PySem.W.Frag} {mg : PySem.Str → Option Value} {base : Heap} {C : Addr} (z : Z K mg C) : CalD P w K mg base 3 "pair_banned" sp_pair :=
  let ⟨f, fd, F, hm⟩ := z.f_pair_banned
  ⟨f, fd, ps_pair_banned, [], (fn_ok F fs_pair_banned (by intro ds M Q h; unfold sp_pair at h; (repeat' (first | (obtain ⟨rfl, _⟩ := h; rfl) | (obtain ⟨_, h⟩ := h)))) (fun cdv A outer s H E hr => b_pair_banned (k := 2) z.g (CalD.mono (c_allowed_frames z) (by decide : _ ≤ 2)) cdv A outer s H E hr) pair_ok), hm, F.kp, (F.bindsN fun _ _ _ _ _ _ us hl => match us, hl with | [_, _, _], _ => rfl), .nil⟩
theorem v_kind_banned {P : Program} {w : World} {K : PySem.W.Frag} {mg : PySem.Str → Option Value} {base : Heap} {C : Addr} (z : Z K mg C) : CalD P w K mg base 1 "kind_banned" (sp_kind 0) :=
  let ⟨f, fd, F, hm⟩ := z.f_kind_banned
  ⟨f, fd, ps_kind_banned, [], (fn_ok (wb := fun _ _ _ => False) F fs_kind_banned (by intro ds M Q h; unfold sp_kind at h; (repeat' (first | (obtain ⟨rfl, _⟩ := h; rfl) | (obtain ⟨_, h⟩ := h)))) (fun cdv A outer s H E hr => vac) (by intro ds M Q h; simp [sp_kind] at h)), hm, F.kp, (F.bindsN fun _ _ _ _ _ _ us hl => match us, hl with | [_, _], _ => rfl), .nil⟩
theorem c_kind_banned {P : Program} {w : World} {K : PySem.W.Frag} {mg : PySem.Str → Option Value} {base : Heap} {C : Addr} : ∀ (n : Nat) (z : Z K mg C), CalD P w K mg base (n + 3) "kind_banned" (sp_kind n)
  | 0, z => CalD.mono (v_kind_banned z) (by omega)
  | n + 1, z => let ⟨f, fd, F, hm⟩ := z.f_kind_banned
  ⟨f, fd, ps_kind_banned, [], (fn_ok (k := n + 3) F fs_kind_banned (by intro ds M Q h; unfold sp_kind at h; (repeat' (first | (obtain ⟨rfl, _⟩ := h; rfl) | (obtain ⟨_, h⟩ := h)))) (fun cdv A outer s H E hr => b_kind_banned (k := n + 3) z.g (CalD.mono (c_atom_banned z) (by omega)) (c_kind_banned n z) (CalD.mono (c_over_banned z) (by omega)) (CalD.mono (c_under_banned z) (by omega)) (CalD.mono (c_pair_banned z) (by omega)) cdv A outer s H E hr) (kind_ok n)), hm, F.kp, (F.bindsN fun _ _ _ _ _ _ us hl => match us, hl with | [_, _], _ => rfl), .nil⟩
theorem c_line_key {P : Program} {w : World} {K : PySem.W.Frag} {mg : PySem.Str → Option Value} {base : Heap} {C : Addr} (z : Z K mg C) : CalD P w K mg base 1 "line_key" sp_key :=
  let ⟨f, fd, F, hm⟩ := z.f_line_key
  ⟨f, fd, ps_line_key, [], (fn_ok F fs_line_key (by intro ds M Q h; unfold sp_key at h; (repeat' (first | (obtain ⟨rfl, _⟩ := h; rfl) | (obtain ⟨_, h⟩ := h)))) (fun cdv A outer s H E hr => b_line_key (k := 0) z.g  cdv A outer s H E hr) key_ok), hm, F.kp, (F.bindsN fun _ _ _ _ _ _ us hl => match us, hl with | [_], _ => rfl), .nil⟩
theorem c_banned_lines {P : Program} {w : World} {K : PySem.W.Frag} {mg : PySem.Str → Option Value} {base : Heap} {C : Addr} (z : Z K mg C) : CalD P w K mg base 24 "banned_lines" (sp_bl 20) :=
  let ⟨f, fd, F, hm⟩ := z.f_banned_lines
  ⟨f, fd, ps_banned_lines, [], (fn_ok F fs_banned_lines (by intro ds M Q h; unfold sp_bl at h; (repeat' (first | (obtain ⟨rfl, _⟩ := h; rfl) | (obtain ⟨_, h⟩ := h)))) (fun cdv A outer s H E hr => b_banned_lines (k := 21) z.g (CalD.mono (c_kind_banned 20 z) (by decide : _ ≤ 23)) (CalD.mono (c_line_key z) (by decide : _ ≤ 21)) cdv A outer s H E hr) (bl_ok 20)), hm, F.kp, (F.bindsN fun _ _ _ _ _ _ us hl => match us, hl with | [_, _], _ => rfl), .nil⟩
theorem v_format_kind {P : Program} {w : World} {K : PySem.W.Frag} {mg : PySem.Str → Option Value} {base : Heap} {C : Addr} (z : Z K mg C) : CalD P w K mg base 1 "format_kind" (sp_fk 0) :=
  let ⟨f, fd, F, hm⟩ := z.f_format_kind
  ⟨f, fd, ps_format_kind, [], (fn_ok (wb := fun _ _ _ => False) F fs_format_kind (by intro ds M Q h; unfold sp_fk at h; (repeat' (first | (obtain ⟨rfl, _⟩ := h; rfl) | (obtain ⟨_, h⟩ := h)))) (fun cdv A outer s H E hr => vac) (by intro ds M Q h; simp [sp_fk] at h)), hm, F.kp, (F.bindsN fun _ _ _ _ _ _ us hl => match us, hl with | [_], _ => rfl), .nil⟩
theorem r_format_part {P : Program} {w : World} {K : PySem.W.Frag} {mg : PySem.Str → Option Value} {base : Heap} {C : Addr} (z : Z K mg C) (n : Nat) (h : CalD P w K mg base (2 * n + 1) "format_kind" (sp_fk n)) : CalD P w K mg base (2 * n + 2) "format_part" (sp_fp n) :=
  let ⟨f, fd, F, hm⟩ := z.f_format_part
  ⟨f, fd, ps_format_part, [], (fn_ok (k := 2 * n + 1) F fs_format_part (by intro ds M Q h; unfold sp_fp at h; (repeat' (first | (obtain ⟨rfl, _⟩ := h; rfl) | (obtain ⟨_, h⟩ := h)))) (fun cdv A outer s H E hr => b_format_part (k := 2 * n + 1) z.g h cdv A outer s H E hr) (fp_ok n)), hm, F.kp, (F.bindsN fun _ _ _ _ _ _ us hl => match us, hl with | [_], _ => rfl), .nil⟩
theorem c_format_kind {P : Program} {w : World} {K : PySem.W.Frag} {mg : PySem.Str → Option Value} {base : Heap} {C : Addr} : ∀ (n : Nat) (z : Z K mg C), CalD P w K mg base (2 * n + 1) "format_kind" (sp_fk n)
  | 0, z => CalD.mono (v_format_kind z) (by omega)
  | n + 1, z => let ⟨f, fd, F, hm⟩ := z.f_format_kind
  ⟨f, fd, ps_format_kind, [], (fn_ok (k := 2 * n + 2) F fs_format_kind (by intro ds M Q h; unfold sp_fk at h; (repeat' (first | (obtain ⟨rfl, _⟩ := h; rfl) | (obtain ⟨_, h⟩ := h)))) (fun cdv A outer s H E hr => b_format_kind (k := 2 * n + 2) z.g (r_format_part z n (c_format_kind n z)) cdv A outer s H E hr) (fk_ok n)), hm, F.kp, (F.bindsN fun _ _ _ _ _ _ us hl => match us, hl with | [_], _ => rfl), .nil⟩
theorem c_format_part {P : Program} {w : World} {K : PySem.W.Frag} {mg : PySem.Str → Option Value} {base : Heap} {C : Addr} (n : Nat) (z : Z K mg C) : CalD P w K mg base (2 * n + 2) "format_part" (sp_fp n) := r_format_part z n (c_format_kind n z)
theorem c_pieces_of {P : Program} {w : World} {K : PySem.W.Frag} {mg : PySem.Str → Option Value} {base : Heap} {C : Addr} (z : Z K mg C) : CalD P w K mg base 1 "pieces_of" sp_pieces :=
  let ⟨f, fd, F, hm⟩ := z.f_pieces_of
  ⟨f, fd, ps_pieces_of, [], (fn_ok F fs_pieces_of (by intro ds M Q h; unfold sp_pieces at h; (repeat' (first | (obtain ⟨rfl, _⟩ := h; rfl) | (obtain ⟨_, h⟩ := h)))) (fun cdv A outer s H E hr => b_pieces_of (k := 0) z.g  cdv A outer s H E hr) pieces_ok), hm, F.kp, (F.bindsN fun _ _ _ _ _ _ us hl => match us, hl with | [_, _], _ => rfl), .nil⟩
theorem c_Truth___init__ {P : Program} {w : World} {K : PySem.W.Frag} {mg : PySem.Str → Option Value} {base : Heap} {C : Addr} (z : Z K mg C) : MakD P w K mg base 1 "Truth" C (sp_init C) :=
  let ⟨f, fd, F, mk, hm⟩ := z.f_Truth___init__
  ⟨f, fd, ps_Truth___init__, [], mk, (fn_ok F fs_Truth___init__ (by intro ds M Q h; unfold sp_init at h; (repeat' (first | (obtain ⟨rfl, _⟩ := h; rfl) | (obtain ⟨_, h⟩ := h)))) (fun cdv A outer s H E hr => b_Truth___init__ (k := 0) z.g  cdv A outer s H E hr) (init_ok C)), hm, (F.bindsN fun _ _ _ _ _ _ us hl => match us, hl with | [_, _], _ => rfl), .nil⟩
theorem c_Truth_banned_by {P : Program} {w : World} {K : PySem.W.Frag} {mg : PySem.Str → Option Value} {base : Heap} {C : Addr} (z : Z K mg C) : MetD P w K mg base 42 C "banned_by" (sp_by C 20) :=
  let ⟨f, fd, F, me⟩ := z.f_Truth_banned_by
  ⟨f, fd, ps_Truth_banned_by, [], z.g.cls, me, (fn_ok F fs_Truth_banned_by (by intro ds M Q h; unfold sp_by at h; (repeat' (first | (obtain ⟨rfl, _⟩ := h; rfl) | (obtain ⟨_, h⟩ := h)))) (fun cdv A outer s H E hr => b_Truth_banned_by (k := 41) z.g (CalD.mono (c_format_kind 20 z) (by decide : _ ≤ 41)) (CalD.mono (c_kind_banned 20 z) (by decide : _ ≤ 41)) cdv A outer s H E hr) (by_ok C 20)), (F.bindsN fun _ _ _ _ _ _ us hl => match us, hl with | [_, _], _ => rfl), .nil⟩
theorem c_Truth_failing {P : Program} {w : World} {K : PySem.W.Frag} {mg : PySem.Str → Option Value} {base : Heap} {C : Addr} (z : Z K mg C) : MetD P w K mg base 43 C "failing" (sp_failing C 20) :=
  let ⟨f, fd, F, me⟩ := z.f_Truth_failing
  ⟨f, fd, ps_Truth_failing, [], z.g.cls, me, (fn_ok F fs_Truth_failing (by intro ds M Q h; unfold sp_failing at h; (repeat' (first | (obtain ⟨rfl, _⟩ := h; rfl) | (obtain ⟨_, h⟩ := h)))) (fun cdv A outer s H E hr => b_Truth_failing (k := 42) z.g (MetD.mono (c_Truth_banned_by z) (by decide : _ ≤ 42)) (CalD.mono (c_pieces_of z) (by decide : _ ≤ 42)) cdv A outer s H E hr) (failing_ok C 20)), (F.bindsN fun _ _ _ _ _ _ us hl => match us, hl with | [_, _], _ => rfl), .nil⟩
theorem c_failing_lines {P : Program} {w : World} {K : PySem.W.Frag} {mg : PySem.Str → Option Value} {base : Heap} {C : Addr} (z : Z K mg C) : CalD P w K mg base 45 "failing_lines" (sp_fl 20) :=
  let ⟨f, fd, F, hm⟩ := z.f_failing_lines
  ⟨f, fd, ps_failing_lines, [], (fn_ok F fs_failing_lines (by intro ds M Q h; unfold sp_fl at h; (repeat' (first | (obtain ⟨rfl, _⟩ := h; rfl) | (obtain ⟨_, h⟩ := h)))) (fun cdv A outer s H E hr => b_failing_lines (k := 43) z.g (MakD.mono (c_Truth___init__ z) (by decide : _ ≤ 43)) (MetD.mono (c_Truth_failing z) (by decide : _ ≤ 43)) cdv A outer s H E hr) (fl_ok C 20)), hm, F.kp, (F.bindsN fun _ _ _ _ _ _ us hl => match us, hl with | [_, _], _ => rfl), .nil⟩
theorem c_holds {P : Program} {w : World} {K : PySem.W.Frag} {mg : PySem.Str → Option Value} {base : Heap} {C : Addr} (z : Z K mg C) : CalD P w K mg base 46 "holds" (sp_holds 20) :=
  let ⟨f, fd, F, hm⟩ := z.f_holds
  ⟨f, fd, ps_holds, [], (fn_ok F fs_holds (by intro ds M Q h; unfold sp_holds at h; (repeat' (first | (obtain ⟨rfl, _⟩ := h; rfl) | (obtain ⟨_, h⟩ := h)))) (fun cdv A outer s H E hr => b_holds (k := 45) z.g (CalD.mono (c_failing_lines z) (by decide : _ ≤ 45)) cdv A outer s H E hr) (holds_ok 20)), hm, F.kp, (F.bindsN fun _ _ _ _ _ _ us hl => match us, hl with | [_, _], _ => rfl), .nil⟩
theorem c__law_cell {P : Program} {w : World} {K : PySem.W.Frag} {mg : PySem.Str → Option Value} {base : Heap} {C : Addr} (z : Z K mg C) : CalD P w K mg base 1 "_law_cell" sp_cell :=
  let ⟨f, fd, F, hm⟩ := z.f__law_cell
  ⟨f, fd, ps__law_cell, [], (fn_ok F fs__law_cell (by intro ds M Q h; unfold sp_cell at h; (repeat' (first | (obtain ⟨rfl, _⟩ := h; rfl) | (obtain ⟨_, h⟩ := h)))) (fun cdv A outer s H E hr => b__law_cell (k := 0) z.g  cdv A outer s H E hr) cell_ok), hm, F.kp, (F.bindsN fun _ _ _ _ _ _ us hl => match us, hl with | [_, _], _ => rfl), .nil⟩
theorem c__law_mix {P : Program} {w : World} {K : PySem.W.Frag} {mg : PySem.Str → Option Value} {base : Heap} {C : Addr} (z : Z K mg C) : CalD P w K mg base 1 "_law_mix" sp_mix :=
  let ⟨f, fd, F, hm⟩ := z.f__law_mix
  ⟨f, fd, ps__law_mix, [], (fn_ok F fs__law_mix (by intro ds M Q h; unfold sp_mix at h; (repeat' (first | (obtain ⟨rfl, _⟩ := h; rfl) | (obtain ⟨_, h⟩ := h)))) (fun cdv A outer s H E hr => b__law_mix (k := 0) z.g  cdv A outer s H E hr) mix_ok), hm, F.kp, (F.bindsN fun _ _ _ _ _ _ us hl => match us, hl with | [_], _ => rfl), .nil⟩
theorem c__law_pool {P : Program} {w : World} {K : PySem.W.Frag} {mg : PySem.Str → Option Value} {base : Heap} {C : Addr} (z : Z K mg C) : CalD P w K mg base 2 "_law_pool" sp_pool :=
  let ⟨f, fd, F, hm⟩ := z.f__law_pool
  ⟨f, fd, ps__law_pool, [], (fn_ok F fs__law_pool (by intro ds M Q h; unfold sp_pool at h; (repeat' (first | (obtain ⟨rfl, _⟩ := h; rfl) | (obtain ⟨_, h⟩ := h)))) (fun cdv A outer s H E hr => b__law_pool (k := 1) z.g (CalD.mono (c__law_cell z) (by decide : _ ≤ 1)) cdv A outer s H E hr) pool_ok), hm, F.kp, (F.bindsN fun _ _ _ _ _ _ us hl => match us, hl with | [_, _], _ => rfl), .nil⟩
theorem c__law_draw {P : Program} {w : World} {K : PySem.W.Frag} {mg : PySem.Str → Option Value} {base : Heap} {C : Addr} (z : Z K mg C) : CalD P w K mg base 2 "_law_draw" sp_draw :=
  let ⟨f, fd, F, hm⟩ := z.f__law_draw
  ⟨f, fd, ps__law_draw, [], (fn_ok F fs__law_draw (by intro ds M Q h; unfold sp_draw at h; (repeat' (first | (obtain ⟨rfl, _⟩ := h; rfl) | (obtain ⟨_, h⟩ := h)))) (fun cdv A outer s H E hr => b__law_draw (k := 1) z.g (CalD.mono (c__law_mix z) (by decide : _ ≤ 1)) cdv A outer s H E hr) draw_ok), hm, F.kp, (F.bindsN fun _ _ _ _ _ _ us hl => match us, hl with | [_, _], _ => rfl), .nil⟩
theorem c__law_any_atom {P : Program} {w : World} {K : PySem.W.Frag} {mg : PySem.Str → Option Value} {base : Heap} {C : Addr} (z : Z K mg C) : CalD P w K mg base 3 "_law_any_atom" sp_anyAtom :=
  let ⟨f, fd, F, hm⟩ := z.f__law_any_atom
  ⟨f, fd, ps__law_any_atom, [], (fn_ok F fs__law_any_atom (by intro ds M Q h; unfold sp_anyAtom at h; (repeat' (first | (obtain ⟨rfl, _⟩ := h; rfl) | (obtain ⟨_, h⟩ := h)))) (fun cdv A outer s H E hr => b__law_any_atom (k := 2) z.g (CalD.mono (c__law_draw z) (by decide : _ ≤ 2)) cdv A outer s H E hr) anyAtom_ok), hm, F.kp, (F.bindsN fun _ _ _ _ _ _ us hl => match us, hl with | [_], _ => rfl), .nil⟩
theorem v__law_kind {P : Program} {w : World} {K : PySem.W.Frag} {mg : PySem.Str → Option Value} {base : Heap} {C : Addr} (z : Z K mg C) : CalD P w K mg base 1 "_law_kind" (sp_lkind 0) :=
  let ⟨f, fd, F, hm⟩ := z.f__law_kind
  ⟨f, fd, ps__law_kind, [], (fn_ok (wb := fun _ _ _ => False) F fs__law_kind (by intro ds M Q h; unfold sp_lkind at h; (repeat' (first | (obtain ⟨rfl, _⟩ := h; rfl) | (obtain ⟨_, h⟩ := h)))) (fun cdv A outer s H E hr => vac) (by intro ds M Q h; simp [sp_lkind] at h)), hm, F.kp, (F.bindsN fun _ _ _ _ _ _ us hl => match us, hl with | [_, _, _], _ => rfl), .nil⟩
theorem c__law_kind {P : Program} {w : World} {K : PySem.W.Frag} {mg : PySem.Str → Option Value} {base : Heap} {C : Addr} : ∀ (n : Nat) (z : Z K mg C), CalD P w K mg base (n + 2) "_law_kind" (sp_lkind n)
  | 0, z => CalD.mono (v__law_kind z) (by omega)
  | n + 1, z => let ⟨f, fd, F, hm⟩ := z.f__law_kind
  ⟨f, fd, ps__law_kind, [], (fn_ok (k := n + 2) F fs__law_kind (by intro ds M Q h; unfold sp_lkind at h; (repeat' (first | (obtain ⟨rfl, _⟩ := h; rfl) | (obtain ⟨_, h⟩ := h)))) (fun cdv A outer s H E hr => b__law_kind (k := n + 2) z.g (CalD.mono (c__law_draw z) (by omega)) (c__law_kind n z) cdv A outer s H E hr) (lkind_ok n)), hm, F.kp, (F.bindsN fun _ _ _ _ _ _ us hl => match us, hl with | [_, _, _], _ => rfl), .nil⟩
theorem c__law_is_integer {P : Program} {w : World} {K : PySem.W.Frag} {mg : PySem.Str → Option Value} {base : Heap} {C : Addr} (z : Z K mg C) : CalD P w K mg base 1 "_law_is_integer" sp_isint :=
  let ⟨f, fd, F, hm⟩ := z.f__law_is_integer
  ⟨f, fd, ps__law_is_integer, [], (fn_ok F fs__law_is_integer (by intro ds M Q h; unfold sp_isint at h; (repeat' (first | (obtain ⟨rfl, _⟩ := h; rfl) | (obtain ⟨_, h⟩ := h)))) (fun cdv A outer s H E hr => b__law_is_integer (k := 0) z.g  cdv A outer s H E hr) isint_ok), hm, F.kp, (F.bindsN fun _ _ _ _ _ _ us hl => match us, hl with | [_], _ => rfl), .nil⟩
theorem c__law_is_places {P : Program} {w : World} {K : PySem.W.Frag} {mg : PySem.Str → Option Value} {base : Heap} {C : Addr} (z : Z K mg C) : CalD P w K mg base 2 "_law_is_places" sp_places :=
  let ⟨f, fd, F, hm⟩ := z.f__law_is_places
  ⟨f, fd, ps__law_is_places, [], (fn_ok F fs__law_is_places (by intro ds M Q h; unfold sp_places at h; (repeat' (first | (obtain ⟨rfl, _⟩ := h; rfl) | (obtain ⟨_, h⟩ := h)))) (fun cdv A outer s H E hr => b__law_is_places (k := 1) z.g (CalD.mono (c__law_is_integer z) (by decide : _ ≤ 1)) cdv A outer s H E hr) places_ok), hm, F.kp, (F.bindsN fun _ _ _ _ _ _ us hl => match us, hl with | [_, _], _ => rfl), .nil⟩
theorem c__law_is_truth {P : Program} {w : World} {K : PySem.W.Frag} {mg : PySem.Str → Option Value} {base : Heap} {C : Addr} (z : Z K mg C) : CalD P w K mg base 1 "_law_is_truth" sp_truth :=
  let ⟨f, fd, F, hm⟩ := z.f__law_is_truth
  ⟨f, fd, ps__law_is_truth, [], (fn_ok F fs__law_is_truth (by intro ds M Q h; unfold sp_truth at h; (repeat' (first | (obtain ⟨rfl, _⟩ := h; rfl) | (obtain ⟨_, h⟩ := h)))) (fun cdv A outer s H E hr => b__law_is_truth (k := 0) z.g  cdv A outer s H E hr) truth_ok), hm, F.kp, (F.bindsN fun _ _ _ _ _ _ us hl => match us, hl with | [_, _], _ => rfl), .nil⟩
theorem c__law_stretches {P : Program} {w : World} {K : PySem.W.Frag} {mg : PySem.Str → Option Value} {base : Heap} {C : Addr} (z : Z K mg C) : CalD P w K mg base 1 "_law_stretches" sp_str :=
  let ⟨f, fd, F, hm⟩ := z.f__law_stretches
  ⟨f, fd, ps__law_stretches, [], (fn_ok F fs__law_stretches (by intro ds M Q h; unfold sp_str at h; (repeat' (first | (obtain ⟨rfl, _⟩ := h; rfl) | (obtain ⟨_, h⟩ := h)))) (fun cdv A outer s H E hr => b__law_stretches (k := 0) z.g  cdv A outer s H E hr) str_ok), hm, F.kp, (F.bindsN fun _ _ _ _ _ _ us hl => match us, hl with | [_], _ => rfl), .nil⟩
theorem c__law_goes_on {P : Program} {w : World} {K : PySem.W.Frag} {mg : PySem.Str → Option Value} {base : Heap} {C : Addr} (z : Z K mg C) : CalD P w K mg base 1 "_law_goes_on" sp_goes :=
  let ⟨f, fd, F, hm⟩ := z.f__law_goes_on
  ⟨f, fd, ps__law_goes_on, [], (fn_ok F fs__law_goes_on (by intro ds M Q h; unfold sp_goes sp_row at h; (repeat' (first | (obtain ⟨rfl, _⟩ := h; rfl) | (obtain ⟨_, h⟩ := h)))) (fun cdv A outer s H E hr => b__law_goes_on (k := 0) z.g  cdv A outer s H E hr) goes_ok), hm, F.kp, (F.bindsN fun _ _ _ _ _ _ us hl => match us, hl with | [_, _, _], _ => rfl), .nil⟩
theorem c__law_frame_free {P : Program} {w : World} {K : PySem.W.Frag} {mg : PySem.Str → Option Value} {base : Heap} {C : Addr} (z : Z K mg C) : CalD P w K mg base 2 "_law_frame_free" sp_free :=
  let ⟨f, fd, F, hm⟩ := z.f__law_frame_free
  ⟨f, fd, ps__law_frame_free, [], (fn_ok F fs__law_frame_free (by intro ds M Q h; unfold sp_free at h; (repeat' (first | (obtain ⟨rfl, _⟩ := h; rfl) | (obtain ⟨_, h⟩ := h)))) (fun cdv A outer s H E hr => b__law_frame_free (k := 1) z.g (CalD.mono (c__law_goes_on z) (by decide : _ ≤ 1)) cdv A outer s H E hr) free_ok), hm, F.kp, (F.bindsN fun _ _ _ _ _ _ us hl => match us, hl with | [_, _, _, _, _], _ => rfl), .nil⟩
theorem c__law_pair_bans {P : Program} {w : World} {K : PySem.W.Frag} {mg : PySem.Str → Option Value} {base : Heap} {C : Addr} (z : Z K mg C) : CalD P w K mg base 3 "_law_pair_bans" sp_lpair :=
  let ⟨f, fd, F, hm⟩ := z.f__law_pair_bans
  ⟨f, fd, ps__law_pair_bans, [], (fn_ok F fs__law_pair_bans (by intro ds M Q h; unfold sp_lpair at h; (repeat' (first | (obtain ⟨rfl, _⟩ := h; rfl) | (obtain ⟨_, h⟩ := h)))) (fun cdv A outer s H E hr => b__law_pair_bans (k := 2) z.g (CalD.mono (c__law_frame_free z) (by decide : _ ≤ 2)) cdv A outer s H E hr) lpair_ok), hm, F.kp, (F.bindsN fun _ _ _ _ _ _ us hl => match us, hl with | [_, _, _, _], _ => rfl), .nil⟩
theorem v__law_banned {P : Program} {w : World} {K : PySem.W.Frag} {mg : PySem.Str → Option Value} {base : Heap} {C : Addr} (z : Z K mg C) : CalD P w K mg base 1 "_law_banned" (sp_lb 0) :=
  let ⟨f, fd, F, hm⟩ := z.f__law_banned
  ⟨f, fd, ps__law_banned, [], (fn_ok (wb := fun _ _ _ => False) F fs__law_banned (by intro ds M Q h; unfold sp_lb sp_kind at h; (repeat' (first | (obtain ⟨rfl, _⟩ := h; rfl) | (obtain ⟨_, h⟩ := h)))) (fun cdv A outer s H E hr => vac) (by intro ds M Q h; simp [sp_lb, sp_kind] at h)), hm, F.kp, (F.bindsN fun _ _ _ _ _ _ us hl => match us, hl with | [_, _], _ => rfl), .nil⟩
theorem c__law_banned {P : Program} {w : World} {K : PySem.W.Frag} {mg : PySem.Str → Option Value} {base : Heap} {C : Addr} : ∀ (n : Nat) (z : Z K mg C), CalD P w K mg base (n + 3) "_law_banned" (sp_lb n)
  | 0, z => CalD.mono (v__law_banned z) (by omega)
  | n + 1, z => let ⟨f, fd, F, hm⟩ := z.f__law_banned
  ⟨f, fd, ps__law_banned, [], (fn_ok (k := n + 3) F fs__law_banned (by intro ds M Q h; unfold sp_lb sp_kind at h; (repeat' (first | (obtain ⟨rfl, _⟩ := h; rfl) | (obtain ⟨_, h⟩ := h)))) (fun cdv A outer s H E hr => b__law_banned (k := n + 3) z.g (c__law_banned n z) (CalD.mono (c__law_stretches z) (by omega)) (CalD.mono (c__law_pair_bans z) (by omega)) cdv A outer s H E hr) (lb_ok n)), hm, F.kp, (F.bindsN fun _ _ _ _ _ _ us hl => match us, hl with | [_, _], _ => rfl), .nil⟩
theorem c__law_splits {P : Program} {w : World} {K : PySem.W.Frag} {mg : PySem.Str → Option Value} {base : Heap} {C : Addr} (z : Z K mg C) : CalD P w K mg base 1 "_law_splits" sp_splits :=
  let ⟨f, fd, F, hm⟩ := z.f__law_splits
  ⟨f, fd, ps__law_splits, [], (fn_ok F fs__law_splits (by intro ds M Q h; unfold sp_splits at h; (repeat' (first | (obtain ⟨rfl, _⟩ := h; rfl) | (obtain ⟨_, h⟩ := h)))) (fun cdv A outer s H E hr => b__law_splits (k := 0) z.g  cdv A outer s H E hr) splits_ok), hm, F.kp, (F.bindsN fun _ _ _ _ _ _ us hl => match us, hl with | [_, _], _ => rfl), .nil⟩
theorem c__law_fails {P : Program} {w : World} {K : PySem.W.Frag} {mg : PySem.Str → Option Value} {base : Heap} {C : Addr} (z : Z K mg C) : CalD P w K mg base 24 "_law_fails" (sp_fails 20) :=
  let ⟨f, fd, F, hm⟩ := z.f__law_fails
  ⟨f, fd, ps__law_fails, [], (fn_ok F fs__law_fails (by intro ds M Q h; unfold sp_fails at h; (repeat' (first | (obtain ⟨rfl, _⟩ := h; rfl) | (obtain ⟨_, h⟩ := h)))) (fun cdv A outer s H E hr => b__law_fails (k := 23) z.g (CalD.mono (c__law_banned 20 z) (by decide : _ ≤ 23)) (CalD.mono (c__law_splits z) (by decide : _ ≤ 23)) cdv A outer s H E hr) (fails_ok 20)), hm, F.kp, (F.bindsN fun _ _ _ _ _ _ us hl => match us, hl with | [_, _], _ => rfl), .nil⟩
theorem c__law_some_line {P : Program} {w : World} {K : PySem.W.Frag} {mg : PySem.Str → Option Value} {base : Heap} {C : Addr} (z : Z K mg C) : CalD P w K mg base 3 "_law_some_line" sp_some :=
  let ⟨f, fd, F, hm⟩ := z.f__law_some_line
  ⟨f, fd, ps__law_some_line, [], (fn_ok F fs__law_some_line (by intro ds M Q h; unfold sp_some at h; (repeat' (first | (obtain ⟨rfl, _⟩ := h; rfl) | (obtain ⟨_, h⟩ := h)))) (fun cdv A outer s H E hr => b__law_some_line (k := 2) z.g (CalD.mono (c__law_draw z) (by decide : _ ≤ 2)) cdv A outer s H E hr) some_ok), hm, F.kp, (F.bindsN fun _ _ _ _ _ _ us hl => match us, hl with | [_, _, _], _ => rfl), .nil⟩
theorem c__law_bans {P : Program} {w : World} {K : PySem.W.Frag} {mg : PySem.Str → Option Value} {base : Heap} {C : Addr} (z : Z K mg C) : CalD P w K mg base 4 "_law_bans" sp_bans :=
  let ⟨f, fd, F, hm⟩ := z.f__law_bans
  ⟨f, fd, ps__law_bans, [], (fn_ok F fs__law_bans (by intro ds M Q h; unfold sp_bans at h; (repeat' (first | (obtain ⟨rfl, _⟩ := h; rfl) | (obtain ⟨_, h⟩ := h)))) (fun cdv A outer s H E hr => b__law_bans (k := 3) z.g (CalD.mono (c__law_draw z) (by decide : _ ≤ 3)) (CalD.mono (c__law_some_line z) (by decide : _ ≤ 3)) cdv A outer s H E hr) bans_ok), hm, F.kp, (F.bindsN fun _ _ _ _ _ _ us hl => match us, hl with | [_, _, _], _ => rfl), .nil⟩
theorem c__law_line_of_lists {P : Program} {w : World} {K : PySem.W.Frag} {mg : PySem.Str → Option Value} {base : Heap} {C : Addr} (z : Z K mg C) : CalD P w K mg base 3 "_law_line_of_lists" sp_lol :=
  let ⟨f, fd, F, hm⟩ := z.f__law_line_of_lists
  ⟨f, fd, ps__law_line_of_lists, [], (fn_ok F fs__law_line_of_lists (by intro ds M Q h; unfold sp_lol at h; (repeat' (first | (obtain ⟨rfl, _⟩ := h; rfl) | (obtain ⟨_, h⟩ := h)))) (fun cdv A outer s H E hr => b__law_line_of_lists (k := 2) z.g (CalD.mono (c__law_draw z) (by decide : _ ≤ 2)) cdv A outer s H E hr) lol_ok), hm, F.kp, (F.bindsN fun _ _ _ _ _ _ us hl => match us, hl with | [_, _], _ => rfl), .nil⟩
theorem c__law_things {P : Program} {w : World} {K : PySem.W.Frag} {mg : PySem.Str → Option Value} {base : Heap} {C : Addr} (z : Z K mg C) : CalD P w K mg base 4 "_law_things" sp_things :=
  let ⟨f, fd, F, hm⟩ := z.f__law_things
  ⟨f, fd, ps__law_things, [], (fn_ok F fs__law_things (by intro ds M Q h; unfold sp_things at h; (repeat' (first | (obtain ⟨rfl, _⟩ := h; rfl) | (obtain ⟨_, h⟩ := h)))) (fun cdv A outer s H E hr => b__law_things (k := 3) z.g (CalD.mono (c__law_draw z) (by decide : _ ≤ 3)) (CalD.mono (c__law_line_of_lists z) (by decide : _ ≤ 3)) cdv A outer s H E hr) things_ok), hm, F.kp, (F.bindsN fun _ _ _ _ _ _ us hl => match us, hl with | [_, _], _ => rfl), .nil⟩
theorem c__law_lines_right {P : Program} {w : World} {K : PySem.W.Frag} {mg : PySem.Str → Option Value} {base : Heap} {C : Addr} (z : Z K mg C) : CalD P w K mg base 3 "_law_lines_right" sp_right :=
  let ⟨f, fd, F, hm⟩ := z.f__law_lines_right
  ⟨f, fd, ps__law_lines_right, [], (fn_ok F fs__law_lines_right (by intro ds M Q h; unfold sp_right at h; (repeat' (first | (obtain ⟨rfl, _⟩ := h; rfl) | (obtain ⟨_, h⟩ := h)))) (fun cdv A outer s H E hr => b__law_lines_right (k := 2) z.g (CalD.mono (c__law_is_places z) (by decide : _ ≤ 2)) cdv A outer s H E hr) right_ok), hm, F.kp, (F.bindsN fun _ _ _ _ _ _ us hl => match us, hl with | [_, _], _ => rfl), .nil⟩
theorem c__law_shown {P : Program} {w : World} {K : PySem.W.Frag} {mg : PySem.Str → Option Value} {base : Heap} {C : Addr} (z : Z K mg C) : CalD P w K mg base 24 "_law_shown" (sp_shown 20) :=
  let ⟨f, fd, F, hm⟩ := z.f__law_shown
  ⟨f, fd, ps__law_shown, [], (fn_ok F fs__law_shown (by intro ds M Q h; unfold sp_shown at h; (repeat' (first | (obtain ⟨rfl, _⟩ := h; rfl) | (obtain ⟨_, h⟩ := h)))) (fun cdv A outer s H E hr => b__law_shown (k := 23) z.g (CalD.mono (c__law_is_integer z) (by decide : _ ≤ 23)) (CalD.mono (c__law_banned 20 z) (by decide : _ ≤ 23)) cdv A outer s H E hr) (shown_ok 20)), hm, F.kp, (F.bindsN fun _ _ _ _ _ _ us hl => match us, hl with | [_, _, _], _ => rfl), .nil⟩
theorem c__law_judged {P : Program} {w : World} {K : PySem.W.Frag} {mg : PySem.Str → Option Value} {base : Heap} {C : Addr} (z : Z K mg C) : CalD P w K mg base 47 "_law_judged" (sp_judged 20) :=
  let ⟨f, fd, F, hm⟩ := z.f__law_judged
  ⟨f, fd, ps__law_judged, [], (fn_ok F fs__law_judged (by intro ds M Q h; unfold sp_judged at h; (repeat' (first | (obtain ⟨rfl, _⟩ := h; rfl) | (obtain ⟨_, h⟩ := h)))) (fun cdv A outer s H E hr => b__law_judged (k := 46) z.g (CalD.mono (c__law_fails z) (by decide : _ ≤ 46)) (CalD.mono (c_holds z) (by decide : _ ≤ 46)) (CalD.mono (c__law_is_truth z) (by decide : _ ≤ 46)) (CalD.mono (c_failing_lines z) (by decide : _ ≤ 46)) (CalD.mono (c__law_shown z) (by decide : _ ≤ 46)) cdv A outer s H E hr) (judged_ok 20)), hm, F.kp, (F.bindsN fun _ _ _ _ _ _ us hl => match us, hl with | [_, _], _ => rfl), .nil⟩
theorem c_law {P : Program} {w : World} {K : PySem.W.Frag} {mg : PySem.Str → Option Value} {base : Heap} {C : Addr} (z : Z K mg C) {f : Addr} {fd : FuncData} (F : FunD K "law" "law" (defArgs st_law) (defBody st_law) (defScope st_law) [] [] f fd) : FnOk P w K mg base C8.CX0 103 f fd ps_law (lSp P w K sp_law) :=
  (fn_ok F fs_law (by intro ds M Q h; unfold sp_law at h; (repeat' (first | (obtain ⟨rfl, _⟩ := h; rfl) | (obtain ⟨_, h⟩ := h)))) (fun cdv A outer s H E hr => b_law (k := 102) z.g (CalD.mono (c__law_pool z) (by decide : _ ≤ 102)) (CalD.mono (c__law_draw z) (by decide : _ ≤ 102)) (CalD.mono (c__law_any_atom z) (by decide : _ ≤ 102)) (CalD.mono (c__law_bans z) (by decide : _ ≤ 102)) (CalD.mono (c__law_kind 100 z) (by decide : _ ≤ 102)) (CalD.mono (c__law_banned 20 z) (by decide : _ ≤ 102)) (CalD.mono (c_banned_lines z) (by decide : _ ≤ 102)) (CalD.mono (c__law_lines_right z) (by decide : _ ≤ 102)) (CalD.mono (c__law_judged z) (by decide : _ ≤ 102)) (CalD.mono (c_is_ban_list z) (by decide : _ ≤ 102)) (CalD.mono (c__law_things z) (by decide : _ ≤ 102)) (CalD.mono (c__law_is_truth z) (by decide : _ ≤ 102)) cdv A outer s H E hr) law_ok)
def d_is_atom_number : He.DefD := ⟨("is_atom_number", none), "is_atom_number", "is_atom_number", defArgs st_is_atom_number, defBody st_is_atom_number, defScope st_is_atom_number, [], []⟩
def d_is_atom : He.DefD := ⟨("is_atom", none), "is_atom", "is_atom", defArgs st_is_atom, defBody st_is_atom, defScope st_is_atom, [], []⟩
def d_is_line : He.DefD := ⟨("is_line", none), "is_line", "is_line", defArgs st_is_line, defBody st_is_line, defScope st_is_line, [], []⟩
def d_are_unlike_lines : He.DefD := ⟨("are_unlike_lines", none), "are_unlike_lines", "are_unlike_lines", defArgs st_are_unlike_lines, defBody st_are_unlike_lines, defScope st_are_unlike_lines, [], []⟩
def d_is_ban_list : He.DefD := ⟨("is_ban_list", none), "is_ban_list", "is_ban_list", defArgs st_is_ban_list, defBody st_is_ban_list, defScope st_is_ban_list, [], []⟩
def d_atom_banned : He.DefD := ⟨("atom_banned", none), "atom_banned", "atom_banned", defArgs st_atom_banned, defBody st_atom_banned, defScope st_atom_banned, [], []⟩
def d_over_banned : He.DefD := ⟨("over_banned", none), "over_banned", "over_banned", defArgs st_over_banned, defBody st_over_banned, defScope st_over_banned, [], []⟩
def d_under_banned : He.DefD := ⟨("under_banned", none), "under_banned", "under_banned", defArgs st_under_banned, defBody st_under_banned, defScope st_under_banned, [], []⟩
def d_is_allowed_row : He.DefD := ⟨("is_allowed_row", none), "is_allowed_row", "is_allowed_row", defArgs st_is_allowed_row, defBody st_is_allowed_row, defScope st_is_allowed_row, [], []⟩
def d_allowed_frames : He.DefD := ⟨("allowed_frames", none), "allowed_frames", "allowed_frames", defArgs st_allowed_frames, defBody st_allowed_frames, defScope st_allowed_frames, [], []⟩
def d_pair_banned : He.DefD := ⟨("pair_banned", none), "pair_banned", "pair_banned", defArgs st_pair_banned, defBody st_pair_banned, defScope st_pair_banned, [], []⟩
def d_kind_banned : He.DefD := ⟨("kind_banned", none), "kind_banned", "kind_banned", defArgs st_kind_banned, defBody st_kind_banned, defScope st_kind_banned, [], []⟩
def d_line_key : He.DefD := ⟨("line_key", none), "line_key", "line_key", defArgs st_line_key, defBody st_line_key, defScope st_line_key, [], []⟩
def d_banned_lines : He.DefD := ⟨("banned_lines", none), "banned_lines", "banned_lines", defArgs st_banned_lines, defBody st_banned_lines, defScope st_banned_lines, [], []⟩
def d_format_part : He.DefD := ⟨("format_part", none), "format_part", "format_part", defArgs st_format_part, defBody st_format_part, defScope st_format_part, [], []⟩
def d_format_kind : He.DefD := ⟨("format_kind", none), "format_kind", "format_kind", defArgs st_format_kind, defBody st_format_kind, defScope st_format_kind, [], []⟩
def d_pieces_of : He.DefD := ⟨("pieces_of", none), "pieces_of", "pieces_of", defArgs st_pieces_of, defBody st_pieces_of, defScope st_pieces_of, [], []⟩
def d_Truth___init__ : He.DefD := ⟨("Truth", some "__init__"), "__init__", "Truth.__init__", defArgs st_Truth___init__, defBody st_Truth___init__, defScope st_Truth___init__, [], []⟩
def d_Truth_banned_by : He.DefD := ⟨("Truth", some "banned_by"), "banned_by", "Truth.banned_by", defArgs st_Truth_banned_by, defBody st_Truth_banned_by, defScope st_Truth_banned_by, [], []⟩
def d_Truth_failing : He.DefD := ⟨("Truth", some "failing"), "failing", "Truth.failing", defArgs st_Truth_failing, defBody st_Truth_failing, defScope st_Truth_failing, [], []⟩
def d_failing_lines : He.DefD := ⟨("failing_lines", none), "failing_lines", "failing_lines", defArgs st_failing_lines, defBody st_failing_lines, defScope st_failing_lines, [], []⟩
def d_holds : He.DefD := ⟨("holds", none), "holds", "holds", defArgs st_holds, defBody st_holds, defScope st_holds, [], []⟩
def d__law_cell : He.DefD := ⟨("_law_cell", none), "_law_cell", "_law_cell", defArgs st__law_cell, defBody st__law_cell, defScope st__law_cell, [], []⟩
def d__law_mix : He.DefD := ⟨("_law_mix", none), "_law_mix", "_law_mix", defArgs st__law_mix, defBody st__law_mix, defScope st__law_mix, [], []⟩
def d__law_pool : He.DefD := ⟨("_law_pool", none), "_law_pool", "_law_pool", defArgs st__law_pool, defBody st__law_pool, defScope st__law_pool, [], []⟩
def d__law_draw : He.DefD := ⟨("_law_draw", none), "_law_draw", "_law_draw", defArgs st__law_draw, defBody st__law_draw, defScope st__law_draw, [], []⟩
def d__law_any_atom : He.DefD := ⟨("_law_any_atom", none), "_law_any_atom", "_law_any_atom", defArgs st__law_any_atom, defBody st__law_any_atom, defScope st__law_any_atom, [], []⟩
def d__law_kind : He.DefD := ⟨("_law_kind", none), "_law_kind", "_law_kind", defArgs st__law_kind, defBody st__law_kind, defScope st__law_kind, [], []⟩
def d__law_is_integer : He.DefD := ⟨("_law_is_integer", none), "_law_is_integer", "_law_is_integer", defArgs st__law_is_integer, defBody st__law_is_integer, defScope st__law_is_integer, [], []⟩
def d__law_is_places : He.DefD := ⟨("_law_is_places", none), "_law_is_places", "_law_is_places", defArgs st__law_is_places, defBody st__law_is_places, defScope st__law_is_places, [], []⟩
def d__law_is_truth : He.DefD := ⟨("_law_is_truth", none), "_law_is_truth", "_law_is_truth", defArgs st__law_is_truth, defBody st__law_is_truth, defScope st__law_is_truth, [], []⟩
def d__law_stretches : He.DefD := ⟨("_law_stretches", none), "_law_stretches", "_law_stretches", defArgs st__law_stretches, defBody st__law_stretches, defScope st__law_stretches, [], []⟩
def d__law_goes_on : He.DefD := ⟨("_law_goes_on", none), "_law_goes_on", "_law_goes_on", defArgs st__law_goes_on, defBody st__law_goes_on, defScope st__law_goes_on, [], []⟩
def d__law_frame_free : He.DefD := ⟨("_law_frame_free", none), "_law_frame_free", "_law_frame_free", defArgs st__law_frame_free, defBody st__law_frame_free, defScope st__law_frame_free, [], []⟩
def d__law_pair_bans : He.DefD := ⟨("_law_pair_bans", none), "_law_pair_bans", "_law_pair_bans", defArgs st__law_pair_bans, defBody st__law_pair_bans, defScope st__law_pair_bans, [], []⟩
def d__law_banned : He.DefD := ⟨("_law_banned", none), "_law_banned", "_law_banned", defArgs st__law_banned, defBody st__law_banned, defScope st__law_banned, [], []⟩
def d__law_splits : He.DefD := ⟨("_law_splits", none), "_law_splits", "_law_splits", defArgs st__law_splits, defBody st__law_splits, defScope st__law_splits, [], []⟩
def d__law_fails : He.DefD := ⟨("_law_fails", none), "_law_fails", "_law_fails", defArgs st__law_fails, defBody st__law_fails, defScope st__law_fails, [], []⟩
def d__law_some_line : He.DefD := ⟨("_law_some_line", none), "_law_some_line", "_law_some_line", defArgs st__law_some_line, defBody st__law_some_line, defScope st__law_some_line, [], []⟩
def d__law_bans : He.DefD := ⟨("_law_bans", none), "_law_bans", "_law_bans", defArgs st__law_bans, defBody st__law_bans, defScope st__law_bans, [], []⟩
def d__law_line_of_lists : He.DefD := ⟨("_law_line_of_lists", none), "_law_line_of_lists", "_law_line_of_lists", defArgs st__law_line_of_lists, defBody st__law_line_of_lists, defScope st__law_line_of_lists, [], []⟩
def d__law_things : He.DefD := ⟨("_law_things", none), "_law_things", "_law_things", defArgs st__law_things, defBody st__law_things, defScope st__law_things, [], []⟩
def d__law_lines_right : He.DefD := ⟨("_law_lines_right", none), "_law_lines_right", "_law_lines_right", defArgs st__law_lines_right, defBody st__law_lines_right, defScope st__law_lines_right, [], []⟩
def d__law_shown : He.DefD := ⟨("_law_shown", none), "_law_shown", "_law_shown", defArgs st__law_shown, defBody st__law_shown, defScope st__law_shown, [], []⟩
def d__law_judged : He.DefD := ⟨("_law_judged", none), "_law_judged", "_law_judged", defArgs st__law_judged, defBody st__law_judged, defScope st__law_judged, [], []⟩
def d_law : He.DefD := ⟨("law", none), "law", "law", defArgs st_law, defBody st_law, defScope st_law, [], []⟩
def fn0 : List He.DefD := [d_is_atom_number, d_is_atom, d_is_line, d_are_unlike_lines, d_is_ban_list, d_atom_banned, d_over_banned, d_under_banned, d_is_allowed_row, d_allowed_frames, d_pair_banned, d_kind_banned, d_line_key, d_banned_lines, d_format_part, d_format_kind, d_pieces_of, d_Truth___init__, d_Truth_banned_by, d_Truth_failing, d_failing_lines, d_holds, d__law_cell, d__law_mix, d__law_pool, d__law_draw, d__law_any_atom, d__law_kind, d__law_is_integer, d__law_is_places]
def fn1 : List He.DefD := [d__law_is_truth, d__law_stretches, d__law_goes_on, d__law_frame_free, d__law_pair_bans, d__law_banned, d__law_splits, d__law_fails, d__law_some_line, d__law_bans, d__law_line_of_lists, d__law_things, d__law_lines_right, d__law_shown, d__law_judged, d_law]
def fn : List He.DefD := fn0 ++ fn1
def fa0 : List He.Fa := [.glo "is_atom_number", .glo "is_atom", .glo "is_line", .glo "are_unlike_lines", .glo "is_ban_list", .glo "atom_banned", .glo "over_banned", .glo "under_banned", .glo "is_allowed_row", .glo "allowed_frames", .glo "pair_banned", .glo "kind_banned", .glo "line_key", .glo "banned_lines", .glo "format_part", .glo "format_kind", .glo "pieces_of", .glo "failing_lines", .glo "holds", .glo "_law_cell", .glo "_law_mix", .glo "_law_pool", .glo "_law_draw", .glo "_law_any_atom", .glo "_law_kind", .glo "_law_is_integer", .glo "_law_is_places", .glo "_law_is_truth", .glo "_law_stretches", .glo "_law_goes_on"]
def fa1 : List He.Fa := [.glo "_law_frame_free", .glo "_law_pair_bans", .glo "_law_banned", .glo "_law_splits", .glo "_law_fails", .glo "_law_some_line", .glo "_law_bans", .glo "_law_line_of_lists", .glo "_law_things", .glo "_law_lines_right", .glo "_law_shown", .glo "_law_judged", .glo "law", .glo "Truth", .free "abs", .free "all", .free "any", .free "bool", .free "int", .free "isinstance", .free "len", .free "list", .free "range", .free "sorted", .free "str", .free "tuple", .str "LETTERS" "abcdefghijklmnopqrstuvwxyz", .str "DIGITS" "0123456789", .int "MOST_IN_NAME" 8, .int "MOST_IN_NUMBER" 6]
def fa2 : List He.Fa := [.int "MOST_LINES" 100, .int "MOST_MARKS" 80, .int "LAST_MARK" 999999, .cls "Truth", .noat "Truth" "banned", .noat "Truth" "bans", .mkr "Truth", .meth "Truth" "banned_by", .meth "Truth" "failing"]
def fa : List He.Fa := fa0 ++ fa1 ++ fa2
def names0 : List PySem.Str := ["LETTERS", "DIGITS", "MOST_IN_NAME", "MOST_IN_NUMBER", "is_atom_number", "is_atom", "MOST_LINES", "MOST_MARKS", "LAST_MARK", "is_line", "are_unlike_lines", "is_ban_list", "atom_banned", "over_banned", "under_banned", "is_allowed_row", "allowed_frames", "pair_banned", "kind_banned", "line_key", "banned_lines", "format_part", "format_kind", "pieces_of", "Truth", "failing_lines", "holds", "_law_cell", "_law_mix", "_law_pool"]
def names1 : List PySem.Str := ["_law_draw", "_law_any_atom", "_law_kind", "_law_is_integer", "_law_is_places", "_law_is_truth", "_law_stretches", "_law_goes_on", "_law_frame_free", "_law_pair_bans", "_law_banned", "_law_splits", "_law_fails", "_law_some_line", "_law_bans", "_law_line_of_lists", "_law_things", "_law_lines_right", "_law_shown", "_law_judged"]
def names : List PySem.Str := names0 ++ names1
abbrev Rw : PySem.W.OpenRow := PySem.W.OpenLaw.row PySem.Challenge.rw_fractionwords_k83_banned_lines
abbrev qv : Program := PySem.W.view Rw.prog [55]
abbrev hk : PySem.W.Hook := hookN 4 fa fn
def ob (s : PySem.W.SharedT) : Bool × He.AlD := obsN 4 fa fn (HandSHeadRun.getT s)
theorem ob_eq (s : PySem.W.SharedT) : ob s = hk.obs s.abs := obsN_eq (HandSHeadRun.getT_eq s)
theorem run (w : World) : HandSHeadRun.RunEq Rw qv hk ob 3000 names w := by
  intro os
  kernel_rfl
theorem facts {K : PySem.W.Frag} {h : Heap} {mg : PySem.Str → Option Value} (X : K.In h) (G : h.Ns mainGlobals mg) (c : He.SaysD fa fn K) : Z K mg (He.ga K "Truth") where
    g := ⟨He.free_ok X G (c.fact 44 rfl), He.free_ok X G (c.fact 45 rfl), He.free_ok X G (c.fact 46 rfl), He.free_ok X G (c.fact 47 rfl), He.free_ok X G (c.fact 48 rfl), He.free_ok X G (c.fact 49 rfl), He.free_ok X G (c.fact 50 rfl), He.free_ok X G (c.fact 51 rfl), He.free_ok X G (c.fact 52 rfl), He.free_ok X G (c.fact 53 rfl), He.free_ok X G (c.fact 54 rfl), He.free_ok X G (c.fact 55 rfl), He.str_ok X G (c.fact 56 rfl), He.str_ok X G (c.fact 57 rfl), He.int_ok X G (c.fact 58 rfl), He.int_ok X G (c.fact 59 rfl), He.int_ok X G (c.fact 60 rfl), He.int_ok X G (c.fact 61 rfl), He.int_ok X G (c.fact 62 rfl), He.cls_ok (c.fact 63 rfl), He.noat_ok (c.fact 64 rfl), He.noat_ok (c.fact 65 rfl)⟩
    f_is_atom_number := let ⟨fd, F⟩ := c.def_ 0 (d := d_is_atom_number) rfl; ⟨_, fd, ⟨F, He.glo_ok X G (c.fact 0 rfl)⟩⟩
    f_is_atom := let ⟨fd, F⟩ := c.def_ 1 (d := d_is_atom) rfl; ⟨_, fd, ⟨F, He.glo_ok X G (c.fact 1 rfl)⟩⟩
    f_is_line := let ⟨fd, F⟩ := c.def_ 2 (d := d_is_line) rfl; ⟨_, fd, ⟨F, He.glo_ok X G (c.fact 2 rfl)⟩⟩
    f_are_unlike_lines := let ⟨fd, F⟩ := c.def_ 3 (d := d_are_unlike_lines) rfl; ⟨_, fd, ⟨F, He.glo_ok X G (c.fact 3 rfl)⟩⟩
    f_is_ban_list := let ⟨fd, F⟩ := c.def_ 4 (d := d_is_ban_list) rfl; ⟨_, fd, ⟨F, He.glo_ok X G (c.fact 4 rfl)⟩⟩
    f_atom_banned := let ⟨fd, F⟩ := c.def_ 5 (d := d_atom_banned) rfl; ⟨_, fd, ⟨F, He.glo_ok X G (c.fact 5 rfl)⟩⟩
    f_over_banned := let ⟨fd, F⟩ := c.def_ 6 (d := d_over_banned) rfl; ⟨_, fd, ⟨F, He.glo_ok X G (c.fact 6 rfl)⟩⟩
    f_under_banned := let ⟨fd, F⟩ := c.def_ 7 (d := d_under_banned) rfl; ⟨_, fd, ⟨F, He.glo_ok X G (c.fact 7 rfl)⟩⟩
    f_is_allowed_row := let ⟨fd, F⟩ := c.def_ 8 (d := d_is_allowed_row) rfl; ⟨_, fd, ⟨F, He.glo_ok X G (c.fact 8 rfl)⟩⟩
    f_allowed_frames := let ⟨fd, F⟩ := c.def_ 9 (d := d_allowed_frames) rfl; ⟨_, fd, ⟨F, He.glo_ok X G (c.fact 9 rfl)⟩⟩
    f_pair_banned := let ⟨fd, F⟩ := c.def_ 10 (d := d_pair_banned) rfl; ⟨_, fd, ⟨F, He.glo_ok X G (c.fact 10 rfl)⟩⟩
    f_kind_banned := let ⟨fd, F⟩ := c.def_ 11 (d := d_kind_banned) rfl; ⟨_, fd, ⟨F, He.glo_ok X G (c.fact 11 rfl)⟩⟩
    f_line_key := let ⟨fd, F⟩ := c.def_ 12 (d := d_line_key) rfl; ⟨_, fd, ⟨F, He.glo_ok X G (c.fact 12 rfl)⟩⟩
    f_banned_lines := let ⟨fd, F⟩ := c.def_ 13 (d := d_banned_lines) rfl; ⟨_, fd, ⟨F, He.glo_ok X G (c.fact 13 rfl)⟩⟩
    f_format_part := let ⟨fd, F⟩ := c.def_ 14 (d := d_format_part) rfl; ⟨_, fd, ⟨F, He.glo_ok X G (c.fact 14 rfl)⟩⟩
    f_format_kind := let ⟨fd, F⟩ := c.def_ 15 (d := d_format_kind) rfl; ⟨_, fd, ⟨F, He.glo_ok X G (c.fact 15 rfl)⟩⟩
    f_pieces_of := let ⟨fd, F⟩ := c.def_ 16 (d := d_pieces_of) rfl; ⟨_, fd, ⟨F, He.glo_ok X G (c.fact 16 rfl)⟩⟩
    f_Truth___init__ := let ⟨fd, F⟩ := c.def_ 17 (d := d_Truth___init__) rfl; ⟨_, fd, ⟨F, He.mkr_ok (c.fact 66 rfl), He.glo_ok X G (c.fact 43 rfl)⟩⟩
    f_Truth_banned_by := let ⟨fd, F⟩ := c.def_ 18 (d := d_Truth_banned_by) rfl; ⟨_, fd, ⟨F, He.meth_ok (c.fact 67 rfl)⟩⟩
    f_Truth_failing := let ⟨fd, F⟩ := c.def_ 19 (d := d_Truth_failing) rfl; ⟨_, fd, ⟨F, He.meth_ok (c.fact 68 rfl)⟩⟩
    f_failing_lines := let ⟨fd, F⟩ := c.def_ 20 (d := d_failing_lines) rfl; ⟨_, fd, ⟨F, He.glo_ok X G (c.fact 17 rfl)⟩⟩
    f_holds := let ⟨fd, F⟩ := c.def_ 21 (d := d_holds) rfl; ⟨_, fd, ⟨F, He.glo_ok X G (c.fact 18 rfl)⟩⟩
    f__law_cell := let ⟨fd, F⟩ := c.def_ 22 (d := d__law_cell) rfl; ⟨_, fd, ⟨F, He.glo_ok X G (c.fact 19 rfl)⟩⟩
    f__law_mix := let ⟨fd, F⟩ := c.def_ 23 (d := d__law_mix) rfl; ⟨_, fd, ⟨F, He.glo_ok X G (c.fact 20 rfl)⟩⟩
    f__law_pool := let ⟨fd, F⟩ := c.def_ 24 (d := d__law_pool) rfl; ⟨_, fd, ⟨F, He.glo_ok X G (c.fact 21 rfl)⟩⟩
    f__law_draw := let ⟨fd, F⟩ := c.def_ 25 (d := d__law_draw) rfl; ⟨_, fd, ⟨F, He.glo_ok X G (c.fact 22 rfl)⟩⟩
    f__law_any_atom := let ⟨fd, F⟩ := c.def_ 26 (d := d__law_any_atom) rfl; ⟨_, fd, ⟨F, He.glo_ok X G (c.fact 23 rfl)⟩⟩
    f__law_kind := let ⟨fd, F⟩ := c.def_ 27 (d := d__law_kind) rfl; ⟨_, fd, ⟨F, He.glo_ok X G (c.fact 24 rfl)⟩⟩
    f__law_is_integer := let ⟨fd, F⟩ := c.def_ 28 (d := d__law_is_integer) rfl; ⟨_, fd, ⟨F, He.glo_ok X G (c.fact 25 rfl)⟩⟩
    f__law_is_places := let ⟨fd, F⟩ := c.def_ 29 (d := d__law_is_places) rfl; ⟨_, fd, ⟨F, He.glo_ok X G (c.fact 26 rfl)⟩⟩
    f__law_is_truth := let ⟨fd, F⟩ := c.def_ 30 (d := d__law_is_truth) rfl; ⟨_, fd, ⟨F, He.glo_ok X G (c.fact 27 rfl)⟩⟩
    f__law_stretches := let ⟨fd, F⟩ := c.def_ 31 (d := d__law_stretches) rfl; ⟨_, fd, ⟨F, He.glo_ok X G (c.fact 28 rfl)⟩⟩
    f__law_goes_on := let ⟨fd, F⟩ := c.def_ 32 (d := d__law_goes_on) rfl; ⟨_, fd, ⟨F, He.glo_ok X G (c.fact 29 rfl)⟩⟩
    f__law_frame_free := let ⟨fd, F⟩ := c.def_ 33 (d := d__law_frame_free) rfl; ⟨_, fd, ⟨F, He.glo_ok X G (c.fact 30 rfl)⟩⟩
    f__law_pair_bans := let ⟨fd, F⟩ := c.def_ 34 (d := d__law_pair_bans) rfl; ⟨_, fd, ⟨F, He.glo_ok X G (c.fact 31 rfl)⟩⟩
    f__law_banned := let ⟨fd, F⟩ := c.def_ 35 (d := d__law_banned) rfl; ⟨_, fd, ⟨F, He.glo_ok X G (c.fact 32 rfl)⟩⟩
    f__law_splits := let ⟨fd, F⟩ := c.def_ 36 (d := d__law_splits) rfl; ⟨_, fd, ⟨F, He.glo_ok X G (c.fact 33 rfl)⟩⟩
    f__law_fails := let ⟨fd, F⟩ := c.def_ 37 (d := d__law_fails) rfl; ⟨_, fd, ⟨F, He.glo_ok X G (c.fact 34 rfl)⟩⟩
    f__law_some_line := let ⟨fd, F⟩ := c.def_ 38 (d := d__law_some_line) rfl; ⟨_, fd, ⟨F, He.glo_ok X G (c.fact 35 rfl)⟩⟩
    f__law_bans := let ⟨fd, F⟩ := c.def_ 39 (d := d__law_bans) rfl; ⟨_, fd, ⟨F, He.glo_ok X G (c.fact 36 rfl)⟩⟩
    f__law_line_of_lists := let ⟨fd, F⟩ := c.def_ 40 (d := d__law_line_of_lists) rfl; ⟨_, fd, ⟨F, He.glo_ok X G (c.fact 37 rfl)⟩⟩
    f__law_things := let ⟨fd, F⟩ := c.def_ 41 (d := d__law_things) rfl; ⟨_, fd, ⟨F, He.glo_ok X G (c.fact 38 rfl)⟩⟩
    f__law_lines_right := let ⟨fd, F⟩ := c.def_ 42 (d := d__law_lines_right) rfl; ⟨_, fd, ⟨F, He.glo_ok X G (c.fact 39 rfl)⟩⟩
    f__law_shown := let ⟨fd, F⟩ := c.def_ 43 (d := d__law_shown) rfl; ⟨_, fd, ⟨F, He.glo_ok X G (c.fact 40 rfl)⟩⟩
    f__law_judged := let ⟨fd, F⟩ := c.def_ 44 (d := d__law_judged) rfl; ⟨_, fd, ⟨F, He.glo_ok X G (c.fact 41 rfl)⟩⟩
    f_law := let ⟨fd, F⟩ := c.def_ 45 (d := d_law) rfl; ⟨_, fd, ⟨F, He.glo_ok X G (c.fact 42 rfl)⟩⟩
end F83
open PySem PySem.W PySem.Calls PyProof.Rows
theorem PySem.Challenge.cw_fractionwords_k83_banned_lines_holds : PySem.Challenge.rw_fractionwords_k83_banned_lines.Holds := by
  w_on; o_law
  refine HandSHeadRun.head_any (r := OpenLaw.row PySem.Challenge.rw_fractionwords_k83_banned_lines) (q := view (OpenLaw.row PySem.Challenge.rw_fractionwords_k83_banned_lines).prog [55]) (H := F83.hk) (ob := F83.ob) (M := 3000) (loose := F83.names) (d := HandSHeadRun.topDef (OpenLaw.row PySem.Challenge.rw_fractionwords_k83_banned_lines).prog 55) (kwd := []) F83.ob_eq
    (by kernel_rfl) (fun s => by kernel_rfl) F83.run (by kernel_rfl) (by kernel_rfl) (by kernel_rfl) (by rfl) (by first | assumption | decide +kernel) (by decide +kernel) ⟨rfl, rfl, rfl, rfl, rfl, by decide +kernel⟩ ?hw ?hc
  case hw => w_witness2
  case hc =>
    refine L2.walk_ofE (l := PySem.Challenge.rw_fractionwords_k83_banned_lines) (n := 63) (k := 103) (x := "script") (CX := C8.CX0) rfl (by decide) (by kernel_rfl) ⟨rfl, by decide, by decide⟩ ?F (fun _ _ _ _ z => z)
    intro w mg fa h Y G hmg0
    obtain ⟨K, KX, ⟨nl, c⟩⟩ := Y
    have hmg : mg ("law" : PySem.Str) = some (.ref fa) := by
      have e : (HandSHeadRun.topDef (OpenLaw.row PySem.Challenge.rw_fractionwords_k83_banned_lines).prog 55).name = ("law" : PySem.Str) := by kernel_rfl
      rw [← e]
      exact hmg0
    have z := F83.facts KX G c
    obtain ⟨fl, fd, F, hm⟩ := z.f_law
    have e2 := hmg.symm.trans hm
    injection e2 with e2
    injection e2 with e2
    subst e2
    have b := L2.FunD.bindsA (ps := ["script"]) F fun _ _ _ _ _ _ us hl => match us, hl with | [_], _ => rfl
    exact ⟨K, fd, Fw.lSp (PySem.Challenge.rw_fractionwords_k83_banned_lines).prog w K F83.sp_law, KX, fun s v => b s [v] rfl, fun H a ns hl hO hS => Fw.sp_script nl hO hS, fun base _ _ => F83.c_law z F⟩
