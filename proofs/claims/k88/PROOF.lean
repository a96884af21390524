import PyProof.Rows.All
import Wide.All
import OpenK.AllK
import Wide.FinOn
import HandS.ForMost
import HandS.TupAny
import HandS.TupMul
import HandS.TupLe
import HandS.Flow
import HandS.IsInst
import HandS.Deep
import HandS.Sort
import HandS.SortOrd
import HandS.SortKw
import HandS.Style
import HandS.Codes
import KE.KDictKeyed
import KE.KeyNested
import HandS.SetKeys
import HandS.TupLen
import HandS.Conv
import KE.KDictSum
import KE.SortData
import KE.SortKeyHeap
import HandS.Words
import HandS.Defaults
import HandS.Rev
import HandS.RevTup
import KE.KDictList
import HandS.TryOnly
import HandS.Head0
import HandS.Head1
import HandS.Head2
import HandS.HeadEnd
import HandS.HeadHook1
import HandS.HeadHook2
import PySem.Challenge.RW_fractionwords_k88_whole_moves_keep_holdi
set_option Elab.async false
set_option linter.all false
set_option maxRecDepth 100000
set_option maxHeartbeats 4000000
/-! FwCore: plain data, abstract memory, how a heap bears them, the lifted judgements -/
namespace Fw
open PySem L2

/-- plain data; `ref` is a thing of the memory -/
inductive D where
  | non | bl (b : Bool) | int (i : Int) | str (s : Str) | tup (l : List D) | ref (a : Addr)
  /-- a list, a dict that is changed no more -/
  | fl (l : List D) | fd (ks vs : List D)

/-- what a dict's raw table is -/
abbrev Tk := Array DictEntry × Nat
inductive MO where
  | lst (l : List D)
  | dict (kvs : List (D × D)) (t : Tk)
  | ins (C : Addr) (fs : List (Str × D))
abbrev Mem := Addr → Option MO
def mset (M : Mem) (a : Addr) (o : MO) : Mem := fun b => if b = a then some o else M b
theorem mset_same {M : Mem} {a : Addr} {o : MO} : mset M a o a = some o := by unfold mset; rw [if_pos rfl]
theorem mset_ne {M : Mem} {a b : Addr} {o : MO} (h : b ≠ a) : mset M a o b = M b := by unfold mset; rw [if_neg h]

/-- a dict's raw object -/
abbrev DX (a : Addr) (t : Tk) : HO := .ext fun h => h.DictRaw a t.1 t.2
/-! ### dicts: keys -/
/-- keys that stand by value: ints, texts -/
def D.flat? : D → Option Key
  | .int i => some (.inl i)
  | .str s => some (.inr s)
  | _ => none
mutual
/-- keys that are tuples, as nested keys -/
def D.nk : D → Option NestedKey
  | .non => some .none
  | .int i => some (.num i)
  | .str s => some (.text s)
  | .tup ds => (D.nks ds).map NestedKey.tup
  | .bl _ => none
  | .ref _ => none
  | .fl _ => none
  | .fd _ _ => none
def D.nks : List D → Option (List NestedKey)
  | [] => some []
  | d :: ds => match D.nk d, D.nks ds with
    | some k, some ks => some (k :: ks)
    | _, _ => none
end
/-- the raw entries of a dict with these keys (borne by kus) and values (borne by us): keys by value, keys that are tuples -/
def EntV (P : Program) (w : World) (ks : List D) (us : List V) (es : Array DictEntry) : Prop :=
  ∃ vs : List (Key × Value), Paired (fun (p : D × V) (q : Key × Value) => p.1.flat? = some q.1 ∧ RelV p.2 q.2) (ks.zip us) vs ∧ KeysOf (mixKind P w) es ∧ Pairs (mixKind P w) es.toList vs ∧ (vs.map (·.1)).Nodup
def EntU (P : Program) (w : World) (ks : List D) (kus us : List V) (es : Array DictEntry) : Prop :=
  ∃ xs : List (NestedKey × Addr × Value), Paired (fun (p : (D × V) × V) (q : NestedKey × Addr × Value) => (p.1.1.nk = some q.1 ∧ q.1.depth ≤ 8 ∧ p.1.2 = .ref q.2.1 ∧ ∃ ds, p.1.1 = .tup ds) ∧ RelV p.2 q.2.2) ((ks.zip kus).zip us) xs ∧ es.toList = xs.map (entryOfKey (nestedKind P w)) ∧ (xs.map (·.1)).Nodup
/-- a list, a dict that nobody changes any more (a dict: or one of the module's own) -/
def FzL (H : Hp) (a : Addr) (xs : List V) : Prop := ∃ o, H a = some (.frz o (.lst xs))
def FzD (K : PySem.W.Frag) (H : Hp) (a : Addr) (t : Tk) : Prop := (∃ o, H a = some (.frz o (DX a t))) ∨ ∃ o : Obj, K.lookup a = some o ∧ o.ExactDict ∧ o.data = .dict t.1 t.2
theorem FzL.rd {H : Hp} {a : Addr} {xs : List V} (h : FzL H a xs) : Rd H a (.lst xs) := .inr h
theorem FzL.sql {K : PySem.W.Frag} {H : Hp} {a : Addr} {xs : List V} (h : FzL H a xs) : SqL K H a xs := .inl (.inr h)
mutual
def Rep (P : Program) (w : World) (K : PySem.W.Frag) (H : Hp) : D → V → Prop
  | .non, v => v = .non
  | .bl b, v => v = .bl b
  | .int i, v => v = .int i
  | .str s, v => v = .str s
  | .ref a, v => v = .ref a
  | .tup ds, v => ∃ a vs, v = .ref a ∧ SqT K H a vs ∧ Reps P w K H ds vs
  | .fl ds, v => ∃ a vs, v = .ref a ∧ FzL H a vs ∧ Reps P w K H ds vs
  | .fd ks ds, v => ∃ a t kus us, v = .ref a ∧ (FzD K H a t ∧ (a == sysModules) = false ∧ ks.length ≤ sizeLine ∧ ks.length = ds.length ∧ (EntV P w ks us t.1 ∨ EntU P w ks kus us t.1)) ∧ Reps P w K H ks kus ∧ Reps P w K H ds us
def Reps (P : Program) (w : World) (K : PySem.W.Frag) (H : Hp) : List D → List V → Prop
  | [], vs => vs = []
  | d :: ds, vs => ∃ v r, vs = v :: r ∧ Rep P w K H d v ∧ Reps P w K H ds r
end

section
variable {P : Program} {w : World} {K : PySem.W.Frag} {H H' : Hp}
theorem Reps.nil : Reps P w K H [] [] := rfl
theorem Reps.cons {d : D} {ds : List D} {v : V} {vs : List V} (h : Rep P w K H d v) (t : Reps P w K H ds vs) : Reps P w K H (d :: ds) (v :: vs) := ⟨v, vs, rfl, h, t⟩
theorem Reps.length : ∀ {ds : List D} {vs : List V}, Reps P w K H ds vs → ds.length = vs.length
  | [], _, h => by rw [show _ = _ from h]; rfl
  | d :: ds, _, h => by obtain ⟨v, r, rfl, _, t⟩ := h; rw [List.length_cons, List.length_cons, Reps.length t]
theorem Reps.get : ∀ {ds : List D} {vs : List V} {i : Nat} {d : D}, Reps P w K H ds vs → ds[i]? = some d → ∃ v, vs[i]? = some v ∧ Rep P w K H d v
  | [], _, _, _, _, e => by simp at e
  | x :: xs, _, 0, d, h, e => by obtain ⟨v, r, rfl, h1, t⟩ := h; simp at e; subst e; exact ⟨v, rfl, h1⟩
  | x :: xs, _, i + 1, d, h, e => by obtain ⟨v, r, rfl, h1, t⟩ := h; obtain ⟨w, e1, e2⟩ := Reps.get (i := i) t (by simpa using e); exact ⟨w, by simpa using e1, e2⟩
theorem Reps.append : ∀ {ds es : List D} {vs ws : List V}, Reps P w K H ds vs → Reps P w K H es ws → Reps P w K H (ds ++ es) (vs ++ ws)
  | [], _, _, _, h, t => by rw [show _ = _ from h]; exact t
  | d :: ds, _, _, _, h, t => by obtain ⟨v, r, rfl, h1, h2⟩ := h; exact .cons h1 (Reps.append h2 t)
theorem Reps.snoc {ds : List D} {vs : List V} {d : D} {v : V} (h : Reps P w K H ds vs) (r : Rep P w K H d v) : Reps P w K H (ds ++ [d]) (vs ++ [v]) := h.append (.cons r .nil)
theorem Reps.take : ∀ {ds : List D} {vs : List V} (n : Nat), Reps P w K H ds vs → Reps P w K H (ds.take n) (vs.take n)
  | _, _, 0, _ => rfl
  | [], _, n + 1, h => by rw [show _ = _ from h]; rfl
  | d :: ds, _, n + 1, h => by obtain ⟨v, r, rfl, h1, h2⟩ := h; exact .cons h1 (Reps.take n h2)
theorem Reps.drop : ∀ {ds : List D} {vs : List V} (n : Nat), Reps P w K H ds vs → Reps P w K H (ds.drop n) (vs.drop n)
  | _, _, 0, h => h
  | [], _, n + 1, h => by rw [show _ = _ from h]; rfl
  | d :: ds, _, n + 1, h => by obtain ⟨v, r, rfl, h1, h2⟩ := h; exact Reps.drop n h2
theorem Reps.set : ∀ {ds : List D} {vs : List V} (n : Nat) {d : D} {v : V}, Reps P w K H ds vs → Rep P w K H d v → Reps P w K H (ds.set n d) (vs.set n v)
  | [], _, _, _, _, h, _ => by rw [show _ = _ from h]; rfl
  | d :: ds, _, 0, _, _, h, q => by obtain ⟨v, r, rfl, h1, h2⟩ := h; exact .cons q h2
  | d :: ds, _, n + 1, _, _, h, q => by obtain ⟨v, r, rfl, h1, h2⟩ := h; exact .cons h1 (Reps.set n h2 q)
theorem Reps.reverse : ∀ {ds : List D} {vs : List V}, Reps P w K H ds vs → Reps P w K H ds.reverse vs.reverse
  | [], _, h => by rw [show _ = _ from h]; rfl
  | d :: ds, _, h => by obtain ⟨v, r, rfl, h1, h2⟩ := h; rw [List.reverse_cons, List.reverse_cons]; exact (Reps.reverse h2).snoc h1
theorem Reps.dropLast {ds : List D} {vs : List V} (h : Reps P w K H ds vs) : Reps P w K H ds.dropLast vs.dropLast := by
  rw [List.dropLast_eq_take, List.dropLast_eq_take, h.length]; exact h.take _
theorem Reps.eraseIdx {ds : List D} {vs : List V} (i : Nat) (h : Reps P w K H ds vs) : Reps P w K H (ds.eraseIdx i) (vs.eraseIdx i) := by
  rw [List.eraseIdx_eq_take_drop_succ, List.eraseIdx_eq_take_drop_succ]; exact (h.take _).append (h.drop _)
theorem Reps.flat {ds : List D} {vs : List V} (h : Reps P w K H ds vs) : ∀ k : Nat, Reps P w K H (List.replicate k ds).flatten (List.replicate k vs).flatten
  | 0 => rfl
  | k + 1 => by rw [List.replicate_succ, List.replicate_succ, List.flatten_cons, List.flatten_cons]; exact h.append (Reps.flat h k)
theorem Reps.ints : ∀ {ns : List Int}, Reps P w K H (ns.map D.int) (ns.map V.int)
  | [] => rfl
  | n :: ns => .cons (show Rep P w K H (.int n) (.int n) from rfl) (Reps.ints (ns := ns))
theorem Reps.ints_eq : ∀ {ns : List Int} {vs : List V}, Reps P w K H (ns.map D.int) vs → vs = ns.map V.int
  | [], _, h => h
  | n :: ns, _, h => by obtain ⟨v, r, rfl, h1, h2⟩ := h; rw [show v = _ from h1, Reps.ints_eq h2]; rfl
theorem Reps.strs_eq : ∀ {ns : List Str} {vs : List V}, Reps P w K H (ns.map D.str) vs → vs = ns.map V.str
  | [], _, h => h
  | n :: ns, _, h => by obtain ⟨v, r, rfl, h1, h2⟩ := h; rw [show v = _ from h1, Reps.strs_eq h2]; rfl
theorem Reps.bls_eq : ∀ {ns : List Bool} {vs : List V}, Reps P w K H (ns.map D.bl) vs → vs = ns.map V.bl
  | [], _, h => h
  | n :: ns, _, h => by obtain ⟨v, r, rfl, h1, h2⟩ := h; rw [show v = _ from h1, Reps.bls_eq h2]; rfl

/-- tuples are kept -/
structure TKeep (K : PySem.W.Frag) (H H' : Hp) : Prop where
  t : ∀ a vs, SqT K H a vs → SqT K H' a vs
  z : ∀ a o u, H a = some (.frz o u) → H' a = some (.frz o u)
theorem TKeep.l (k : TKeep K H H') {a : Addr} {vs : List V} (h : FzL H a vs) : FzL H' a vs := let ⟨o, e⟩ := h; ⟨o, k.z _ _ _ e⟩
theorem TKeep.d (k : TKeep K H H') {a : Addr} {t : Tk} (h : FzD K H a t) : FzD K H' a t := h.imp (fun ⟨o, e⟩ => ⟨o, k.z _ _ _ e⟩) id
mutual
theorem Rep.keep (k : TKeep K H H') : ∀ (d : D) (v : V), Rep P w K H d v → Rep P w K H' d v
  | .non, _, h => h
  | .bl _, _, h => h
  | .int _, _, h => h
  | .str _, _, h => h
  | .ref _, _, h => h
  | .tup ds, _, h => by obtain ⟨a, vs, e, s, r⟩ := h; exact ⟨a, vs, e, k.t a vs s, Reps.keep k ds vs r⟩
  | .fl ds, _, h => by obtain ⟨a, vs, e, s, r⟩ := h; exact ⟨a, vs, e, k.l s, Reps.keep k ds vs r⟩
  | .fd ks ds, _, h => by obtain ⟨a, t, kus, us, e, s, r1, r2⟩ := h; exact ⟨a, t, kus, us, e, ⟨k.d s.1, s.2⟩, Reps.keep k ks kus r1, Reps.keep k ds us r2⟩
theorem Reps.keep (k : TKeep K H H') : ∀ (ds : List D) (vs : List V), Reps P w K H ds vs → Reps P w K H' ds vs
  | [], _, h => h
  | d :: ds, _, h => by obtain ⟨v, r, e, h1, h2⟩ := h; exact ⟨v, r, e, Rep.keep k d v h1, Reps.keep k ds r h2⟩
end
end

/-- fields -/
def RepF (P : Program) (w : World) (K : PySem.W.Frag) (H : Hp) : List (Str × D) → List (Str × V) → Prop := Paired fun p q => p.1 = q.1 ∧ Rep P w K H p.2 q.2
theorem RepF.keep {P : Program} {w : World} {K : PySem.W.Frag} {H H' : Hp} (k : TKeep K H H') {fs : List (Str × D)} {gs : List (Str × V)} (h : RepF P w K H fs gs) : RepF P w K H' fs gs := Paired.mapP h fun p q z => ⟨z.1, Rep.keep k _ _ z.2⟩

/-! ### D: equality -/
mutual
def D.beq : D → D → Bool
  | .non, .non => true
  | .bl a, .bl b => a == b
  | .int a, .int b => decide (a = b)
  | .str a, .str b => decide (a = b)
  | .tup a, .tup b => D.beqs a b
  | .ref a, .ref b => decide (a = b)
  | .fl a, .fl b => D.beqs a b
  | .fd a c, .fd b d => D.beqs a b && D.beqs c d
  | .non, .bl _ | .non, .int _ | .non, .str _ | .non, .tup _ | .non, .ref _ | .non, .fl _ | .non, .fd _ _ => false
  | .bl _, .non | .bl _, .int _ | .bl _, .str _ | .bl _, .tup _ | .bl _, .ref _ | .bl _, .fl _ | .bl _, .fd _ _ => false
  | .int _, .non | .int _, .bl _ | .int _, .str _ | .int _, .tup _ | .int _, .ref _ | .int _, .fl _ | .int _, .fd _ _ => false
  | .str _, .non | .str _, .bl _ | .str _, .int _ | .str _, .tup _ | .str _, .ref _ | .str _, .fl _ | .str _, .fd _ _ => false
  | .tup _, .non | .tup _, .bl _ | .tup _, .int _ | .tup _, .str _ | .tup _, .ref _ | .tup _, .fl _ | .tup _, .fd _ _ => false
  | .ref _, .non | .ref _, .bl _ | .ref _, .int _ | .ref _, .str _ | .ref _, .tup _ | .ref _, .fl _ | .ref _, .fd _ _ => false
  | .fl _, .non | .fl _, .bl _ | .fl _, .int _ | .fl _, .str _ | .fl _, .tup _ | .fl _, .ref _ | .fl _, .fd _ _ => false
  | .fd _ _, .non | .fd _ _, .bl _ | .fd _ _, .int _ | .fd _ _, .str _ | .fd _ _, .tup _ | .fd _ _, .ref _ | .fd _ _, .fl _ => false
def D.beqs : List D → List D → Bool
  | [], [] => true
  | a :: as, b :: bs => D.beq a b && D.beqs as bs
  | [], _ :: _ => false
  | _ :: _, [] => false
end
mutual
theorem D.beq_self : ∀ a : D, D.beq a a = true
  | .non => rfl
  | .bl a => by simp [D.beq]
  | .int a => by simp [D.beq]
  | .str a => by simp [D.beq]
  | .ref a => by simp [D.beq]
  | .tup a => by rw [D.beq]; exact D.beqs_self a
  | .fl a => by rw [D.beq]; exact D.beqs_self a
  | .fd a b => by rw [D.beq, D.beqs_self a, D.beqs_self b]; rfl
theorem D.beqs_self : ∀ a : List D, D.beqs a a = true
  | [] => rfl
  | a :: as => by rw [D.beqs, D.beq_self a, D.beqs_self as]; rfl
end
mutual
theorem D.eq_of_beq : ∀ a b : D, D.beq a b = true → a = b
  | .non, b, h => by cases b <;> simp [D.beq] at h ⊢
  | .bl a, b, h => by cases b <;> simp [D.beq] at h ⊢; exact h
  | .int a, b, h => by cases b <;> simp [D.beq] at h ⊢; exact h
  | .str a, b, h => by cases b <;> simp [D.beq] at h ⊢; exact h
  | .ref a, b, h => by cases b <;> simp [D.beq] at h ⊢; exact h
  | .tup a, b, h => by
    cases b with
    | tup b => rw [D.beq] at h; rw [D.eq_of_beqs a b h]
    | _ => simp [D.beq] at h
  | .fl a, b, h => by
    cases b with
    | fl b => rw [D.beq] at h; rw [D.eq_of_beqs a b h]
    | _ => simp [D.beq] at h
  | .fd a c, b, h => by
    cases b with
    | fd b d => rw [D.beq, Bool.and_eq_true] at h; rw [D.eq_of_beqs a b h.1, D.eq_of_beqs c d h.2]
    | _ => simp [D.beq] at h
theorem D.eq_of_beqs : ∀ a b : List D, D.beqs a b = true → a = b
  | [], [], _ => rfl
  | a :: as, b :: bs, h => by
    rw [D.beqs, Bool.and_eq_true] at h
    rw [D.eq_of_beq a b h.1, D.eq_of_beqs as bs h.2]
  | [], _ :: _, h => by simp [D.beqs] at h
  | _ :: _, [], h => by simp [D.beqs] at h
end
instance : DecidableEq D := fun a b => if h : D.beq a b = true then Decidable.isTrue (D.eq_of_beq a b h) else Decidable.isFalse fun e => h (e ▸ D.beq_self a)

theorem D.flat_inj {a b : D} {k : Key} (h : a.flat? = some k) (h' : b.flat? = some k) : a = b := by
  cases a <;> simp [D.flat?] at h <;> cases b <;> simp [D.flat?] at h' <;> subst h <;> simp at h' <;> rw [h']
mutual
theorem D.nk_inj : ∀ (a b : D) (k : NestedKey), a.nk = some k → b.nk = some k → a = b
  | .non, b, k, h, h' => by
    simp [D.nk] at h; subst h
    cases b <;> simp [D.nk] at h' ⊢
  | .int i, b, k, h, h' => by
    simp [D.nk] at h; subst h
    cases b <;> simp [D.nk] at h' ⊢
    exact h'.symm
  | .str i, b, k, h, h' => by
    simp [D.nk] at h; subst h
    cases b <;> simp [D.nk] at h' ⊢
    exact h'.symm
  | .bl _, _, _, h, _ => by simp [D.nk] at h
  | .ref _, _, _, h, _ => by simp [D.nk] at h
  | .fl _, _, _, h, _ => by simp [D.nk] at h
  | .fd _ _, _, _, h, _ => by simp [D.nk] at h
  | .tup ds, b, k, h, h' => by
    simp only [D.nk, Option.map_eq_some_iff] at h
    obtain ⟨ks, h1, rfl⟩ := h
    cases b with
    | tup es =>
      simp only [D.nk, Option.map_eq_some_iff] at h'
      obtain ⟨ls, h2, e⟩ := h'
      injection e with e
      subst e
      rw [D.nks_inj ds es _ h1 h2]
    | _ => simp [D.nk] at h'
theorem D.nks_inj : ∀ (a b : List D) (k : List NestedKey), D.nks a = some k → D.nks b = some k → a = b
  | [], [], _, _, _ => rfl
  | [], y :: ys, k, h, h' => by
    simp [D.nks] at h; subst h
    rw [D.nks] at h'
    split at h' <;> simp at h'
  | x :: xs, [], k, h, h' => by
    simp [D.nks] at h'; subst h'
    rw [D.nks] at h
    split at h <;> simp at h
  | x :: xs, y :: ys, k, h, h' => by
    rw [D.nks] at h h'
    split at h
    · rename_i k1 ks1 e1 e2
      split at h'
      · rename_i k2 ks2 e3 e4
        simp at h h'
        subst h
        obtain ⟨rfl, rfl⟩ := List.cons.inj h'
        rw [D.nk_inj x y _ e1 e3, D.nks_inj xs ys _ e2 e4]
      · simp at h'
    · simp at h
end

/-! ### tables of data -/
def valD (kvs : List (D × D)) (k : D) : Option D := (kvs.find? fun kv => decide (kv.1 = k)).map (·.2)
def putD (kvs : List (D × D)) (k v : D) : List (D × D) :=
  if (kvs.any fun kv => decide (kv.1 = k)) = true then kvs.map (fun kv => if kv.1 = k then (kv.1, v) else kv) else kvs ++ [(k, v)]
def dropD (kvs : List (D × D)) (k : D) : List (D × D) := kvs.filter fun kv => decide (kv.1 ≠ k)

section
variable (P : Program) (w : World) (K : PySem.W.Frag) (H : Hp)
/-- the entries of a dict whose keys stand by value -/
def EntF (kvs : List (D × D)) (es : Array DictEntry) : Prop :=
  ∃ vs : List (Key × Value), Paired (fun (p : D × D) (q : Key × Value) => p.1.flat? = some q.1 ∧ ∃ v, Rep P w K H p.2 v ∧ RelV v q.2) kvs vs ∧ KeysOf (mixKind P w) es ∧ Pairs (mixKind P w) es.toList vs ∧ (vs.map (·.1)).Nodup
/-- .. whose keys are tuples -/
def EntT (kvs : List (D × D)) (es : Array DictEntry) : Prop :=
  ∃ xs : List (NestedKey × Addr × Value), Paired (fun (p : D × D) (q : NestedKey × Addr × Value) => (p.1.nk = some q.1 ∧ q.1.depth ≤ 8 ∧ Rep P w K H p.1 (.ref q.2.1) ∧ ∃ ds, p.1 = .tup ds) ∧ ∃ v, Rep P w K H p.2 v ∧ RelV v q.2.2) kvs xs ∧ es.toList = xs.map (entryOfKey (nestedKind P w)) ∧ (xs.map (·.1)).Nodup
def Cell (a : Addr) : MO → Prop
  | .lst ds => ∃ vs, H a = some (.lst vs) ∧ Reps P w K H ds vs
  | .dict kvs t => H a = some (DX a t) ∧ (a == sysModules) = false ∧ kvs.length ≤ sizeLine ∧ (EntF P w K H kvs t.1 ∨ EntT P w K H kvs t.1)
  | .ins C fs => ∃ dx gs, H a = some (.ins C dx gs) ∧ RepF P w K H fs gs
def MRel (M : Mem) : Prop := ∀ a o, M a = some o → Cell P w K H a o
end

/-- what is tracked and not in the memory stays -/
def Keep (H : Hp) (M : Mem) (H' : Hp) (M' : Mem) : Prop := ∀ a o, H a = some o → M a = none → H' a = some o ∧ M' a = none
section
variable {P : Program} {w : World} {K : PySem.W.Frag} {H H' H1 : Hp} {M M' M1 : Mem} {a p : Addr}
theorem Keep.refl : Keep H M H M := fun _ _ h n => ⟨h, n⟩
theorem Keep.trans (k : Keep H M H1 M1) (l : Keep H1 M1 H' M') : Keep H M H' M' := fun a o h n => let ⟨x, y⟩ := k a o h n; l a o x y
theorem Cell.some {mo : MO} (c : Cell P w K H a mo) : ∃ o, H a = some o := by
  cases mo with
  | lst ds => obtain ⟨vs, e, _⟩ := c; exact ⟨_, e⟩
  | dict kvs t => obtain ⟨e, _⟩ := c; exact ⟨_, e⟩
  | ins C fs => obtain ⟨dx, gs, e, _⟩ := c; exact ⟨_, e⟩
theorem Cell.noTup {mo : MO} (c : Cell P w K H a mo) {vs : List V} : ¬ Rd H a (.tup vs) := by
  intro r
  cases mo with
  | lst ds => obtain ⟨vs, e, _⟩ := c; rcases r with r | ⟨o, r⟩ <;> rw [e] at r <;> cases r
  | dict kvs t => obtain ⟨e, _⟩ := c; rcases r with r | ⟨o, r⟩ <;> rw [e] at r <;> cases r
  | ins C fs => obtain ⟨dx, gs, e, _⟩ := c; rcases r with r | ⟨o, r⟩ <;> rw [e] at r <;> cases r
theorem Cell.noFrz {mo : MO} (c : Cell P w K H a mo) {o : Obj} {u : HO} : H a ≠ Option.some (HO.frz o u) := by
  intro r
  cases mo with
  | lst ds => obtain ⟨vs, e, _⟩ := c; rw [e] at r; cases r
  | dict kvs t => obtain ⟨e, _⟩ := c; rw [e] at r; cases r
  | ins C fs => obtain ⟨dx, gs, e, _⟩ := c; rw [e] at r; cases r
theorem Cell.keep {mo : MO} (k : TKeep K H H') (e : H' a = H a) (c : Cell P w K H a mo) : Cell P w K H' a mo := by
  cases mo with
  | lst ds => obtain ⟨vs, e1, r⟩ := c; exact ⟨vs, e.trans e1, Reps.keep k _ _ r⟩
  | dict kvs t =>
    obtain ⟨e1, h1, h2, h3⟩ := c
    refine ⟨e.trans e1, h1, h2, ?_⟩
    rcases h3 with ⟨vs, q, r⟩ | ⟨xs, q, r⟩
    · exact .inl ⟨vs, Paired.mapP q fun p q z => ⟨z.1, let ⟨v, z1, z2⟩ := z.2; ⟨v, Rep.keep k _ _ z1, z2⟩⟩, r⟩
    · exact .inr ⟨xs, Paired.mapP q fun p q z => ⟨⟨z.1.1, z.1.2.1, Rep.keep k _ _ z.1.2.2.1, z.1.2.2.2⟩, let ⟨v, z1, z2⟩ := z.2; ⟨v, Rep.keep k _ _ z1, z2⟩⟩, r⟩
  | ins C fs => obtain ⟨dx, gs, e1, r⟩ := c; exact ⟨dx, gs, e.trans e1, r.keep k⟩
theorem MRel.free (m : MRel P w K H M) (h : H p = none) : M p = none := by
  cases q : M p with
  | none => rfl
  | some mo => obtain ⟨o, e⟩ := (m p mo q).some; rw [h] at e; cases e
theorem Keep.tup (m : MRel P w K H M) (k : Keep H M H' M') : TKeep K H H' := by
  refine ⟨fun a vs s => ?_, fun a o u e => ?_⟩
  · rcases s with s | s
    · have n : M a = Option.none := by
        cases q : M a with
        | none => rfl
        | some mo => exact absurd s (m a mo q).noTup
      rcases s with s | ⟨o, s⟩
      · exact .inl (.inl (k a _ s n).1)
      · exact .inl (.inr ⟨o, (k a _ s n).1⟩)
    · exact .inr s
  · have n : M a = Option.none := by
      cases q : M a with
      | none => rfl
      | some mo => exact absurd e (m a mo q).noFrz
    exact (k a _ e n).1
theorem tkeep_new {o : HO} (h : H p = none) : TKeep K H (upd H p o) := by
  refine ⟨fun a vs s => ?_, fun a u x e => by rw [upd_ne (ne_of_none e h)]; exact e⟩
  rcases s with (s | ⟨u, s⟩) | s
  · exact .inl (.inl (by rw [upd_ne (ne_of_none s h)]; exact s))
  · exact .inl (.inr ⟨u, by rw [upd_ne (ne_of_none s h)]; exact s⟩)
  · exact .inr s
/-- a new thing -/
theorem MRel.alloc {o : HO} {mo : MO} (m : MRel P w K H M) (h : H p = none) (c : TKeep K H (upd H p o) → Cell P w K (upd H p o) p mo) : MRel P w K (upd H p o) (mset M p mo) ∧ Keep H M (upd H p o) (mset M p mo) ∧ M p = none := by
  refine ⟨fun a u e => ?_, fun a u e n => ?_, m.free h⟩
  · by_cases q : a = p
    · subst q; rw [mset_same] at e; cases e; exact c (tkeep_new h)
    · rw [mset_ne q] at e; exact (m a u e).keep (tkeep_new h) (upd_ne q)
  · have ne : a ≠ p := ne_of_none e h
    rw [upd_ne ne, mset_ne ne]; exact ⟨e, n⟩
/-- a new tuple (or another thing that the memory does not have) -/
theorem MRel.allocT {o : HO} (m : MRel P w K H M) (h : H p = none) : MRel P w K (upd H p o) M ∧ Keep H M (upd H p o) M := by
  refine ⟨fun a u e => ?_, fun a u e n => ?_⟩
  · have q : a ≠ p := fun z => by subst z; rw [m.free h] at e; cases e
    exact (m a u e).keep (tkeep_new h) (upd_ne q)
  · have ne : a ≠ p := ne_of_none e h
    rw [upd_ne ne]; exact ⟨e, n⟩
theorem tkeep_write {o : HO} {mo : MO} (m : MRel P w K H M) (e : M a = some mo) : TKeep K H (upd H a o) := by
  refine ⟨fun b vs s => ?_, fun b u x s => by rw [upd_ne (fun z => by subst z; exact (m b mo e).noFrz s)]; exact s⟩
  rcases s with s | s
  · have ne : b ≠ a := fun z => by subst z; exact (m b mo e).noTup s
    rcases s with s | ⟨u, s⟩
    · exact .inl (.inl (by rw [upd_ne ne]; exact s))
    · exact .inl (.inr ⟨u, by rw [upd_ne ne]; exact s⟩)
  · exact .inr s
/-- a thing of the memory is changed -/
theorem MRel.write {o : HO} {mo mo' : MO} (m : MRel P w K H M) (e : M a = some mo) (c : TKeep K H (upd H a o) → Cell P w K (upd H a o) a mo') : MRel P w K (upd H a o) (mset M a mo') ∧ Keep H M (upd H a o) (mset M a mo') := by
  refine ⟨fun b u q => ?_, fun b u q n => ?_⟩
  · by_cases z : b = a
    · subst z; rw [mset_same] at q; cases q; exact c (tkeep_write m e)
    · rw [mset_ne z] at q; exact (m b u q).keep (tkeep_write m e) (upd_ne z)
  · have ne : b ≠ a := fun z => by subst z; rw [e] at n; cases n
    rw [upd_ne ne, mset_ne ne]; exact ⟨q, n⟩
end

/-- a thing is taken out of the memory -/
def mdel (M : Mem) (a : Addr) : Mem := fun b => if b = a then none else M b
theorem mdel_ne {M : Mem} {a b : Addr} (h : b ≠ a) : mdel M a b = M b := if_neg h
theorem mdel_same {M : Mem} {a : Addr} : mdel M a a = none := if_pos rfl
theorem mdel_mset {M : Mem} {a : Addr} {o : MO} (h : M a = none) : mdel (mset M a o) a = M := by
  funext b
  by_cases e : b = a
  · subst e; rw [mdel_same, h]
  · rw [mdel_ne e, mset_ne e]
section
variable {P : Program} {w : World} {K : PySem.W.Frag} {H H' H1 : Hp} {M M' M1 : Mem} {a p : Addr}
theorem tkeep_lock {u : HO} {o : Obj} (e : H a = some u) (mu : Mut (some u)) : TKeep K H (upd H a (.frz o u)) := by
  refine ⟨fun b vs s => ?_, fun b o' u' s => by rw [upd_ne (fun z => by subst z; rw [e] at s; cases s; exact mu)]; exact s⟩
  rcases s with (s | ⟨o', s⟩) | s
  · exact .inl (.inl (by rw [upd_ne (fun z => by subst z; rw [e] at s; cases s; exact mu)]; exact s))
  · exact .inl (.inr ⟨o', by rw [upd_ne (fun z => by subst z; rw [e] at s; cases s; exact mu)]; exact s⟩)
  · exact .inr s
/-- a thing of the memory is frozen -/
theorem MRel.lock {mo : MO} {u : HO} {o : Obj} (m : MRel P w K H M) (e : M a = some mo) (h : H a = some u) (mu : Mut (some u)) : MRel P w K (upd H a (.frz o u)) (mdel M a) ∧ Keep H M (upd H a (.frz o u)) (mdel M a) := by
  refine ⟨fun b q eb => ?_, fun b q eb nb => ?_⟩
  · by_cases z : b = a
    · subst z; rw [mdel_same] at eb; cases eb
    · rw [mdel_ne z] at eb; exact (m b q eb).keep (tkeep_lock h mu) (upd_ne z)
  · have z : b ≠ a := fun z => by subst z; rw [e] at nb; cases nb
    rw [upd_ne z, mdel_ne z]; exact ⟨eb, nb⟩
theorem zipm {α β : Type} : ∀ (l : List (α × β)), (l.map (·.1)).zip (l.map (·.2)) = l
  | [] => rfl
  | x :: l => by rw [List.map_cons, List.map_cons, List.zip_cons_cons, zipm l]
theorem entV_of {kvs : List (D × D)} {t : Tk} (h : EntF P w K H kvs t.1) : ∃ us, Reps P w K H (kvs.map (·.2)) us ∧ EntV P w (kvs.map (·.1)) us t.1 := by
  obtain ⟨vs, q, h1, h2, h3⟩ := h
  have go : ∀ {l : List (D × D)} {m : List (Key × Value)}, Paired (fun (p : D × D) (q : Key × Value) => p.1.flat? = some q.1 ∧ ∃ v, Rep P w K H p.2 v ∧ RelV v q.2) l m → ∃ us, Reps P w K H (l.map (·.2)) us ∧ Paired (fun (p : D × V) (q : Key × Value) => p.1.flat? = some q.1 ∧ RelV p.2 q.2) ((l.map (·.1)).zip us) m := by
    intro l m q
    induction q with
    | nil => exact ⟨[], rfl, .nil⟩
    | cons h t ih =>
      obtain ⟨us, r, q⟩ := ih
      obtain ⟨e, v, rv, rr⟩ := h
      exact ⟨v :: us, .cons rv r, .cons ⟨e, rr⟩ q⟩
  obtain ⟨us, r, q⟩ := go q
  exact ⟨us, r, vs, q, h1, h2, h3⟩
theorem entU_of {kvs : List (D × D)} {t : Tk} (h : EntT P w K H kvs t.1) : ∃ kus us, Reps P w K H (kvs.map (·.1)) kus ∧ Reps P w K H (kvs.map (·.2)) us ∧ EntU P w (kvs.map (·.1)) kus us t.1 := by
  obtain ⟨xs, q, h1, h2⟩ := h
  have go : ∀ {l : List (D × D)} {m : List (NestedKey × Addr × Value)}, Paired (fun (p : D × D) (q : NestedKey × Addr × Value) => (p.1.nk = some q.1 ∧ q.1.depth ≤ 8 ∧ Rep P w K H p.1 (.ref q.2.1) ∧ ∃ ds, p.1 = .tup ds) ∧ ∃ v, Rep P w K H p.2 v ∧ RelV v q.2.2) l m →
      ∃ kus us, Reps P w K H (l.map (·.1)) kus ∧ Reps P w K H (l.map (·.2)) us ∧ Paired (fun (p : (D × V) × V) (q : NestedKey × Addr × Value) => (p.1.1.nk = some q.1 ∧ q.1.depth ≤ 8 ∧ p.1.2 = .ref q.2.1 ∧ ∃ ds, p.1.1 = .tup ds) ∧ RelV p.2 q.2.2) (((l.map (·.1)).zip kus).zip us) m := by
    intro l m q
    induction q with
    | nil => exact ⟨[], [], rfl, rfl, .nil⟩
    | cons h t ih =>
      obtain ⟨kus, us, r1, r2, q⟩ := ih
      obtain ⟨⟨e1, e2, e3, e4⟩, v, rv, rr⟩ := h
      exact ⟨_ :: kus, v :: us, .cons e3 r1, .cons rv r2, .cons ⟨⟨e1, e2, rfl, e4⟩, rr⟩ q⟩
  obtain ⟨kus, us, r1, r2, q⟩ := go q
  exact ⟨kus, us, r1, r2, xs, q, h1, h2⟩
theorem repsTop : ∀ (ds : List D), (∀ d ∈ ds, (∃ k, d.flat? = some k)) → Reps P w K H ds (ds.map fun d => match d.flat? with | some (.inl i) => V.int i | some (.inr z) => V.str z | none => V.non)
  | [], _ => rfl
  | d :: ds, h => by
    obtain ⟨k, e⟩ := h d List.mem_cons_self
    refine .cons ?_ (repsTop ds fun x hx => h x (List.mem_cons_of_mem _ hx))
    cases d <;> simp [D.flat?] at e <;> rfl
/-- a dict of the memory, frozen -/
theorem Cell.fd {kvs : List (D × D)} {t : Tk} (c : Cell P w K H a (.dict kvs t)) (tk : TKeep K H H') (f : FzD K H' a t) : Rep P w K H' (.fd (kvs.map (·.1)) (kvs.map (·.2))) (.ref a) := by
  obtain ⟨_, h1, h2, h3⟩ := c
  rcases h3 with h3 | h3
  · obtain ⟨us, r, q⟩ := entV_of h3
    have hk : ∀ d ∈ kvs.map (·.1), ∃ k, d.flat? = Option.some k := by
      intro d hd
      obtain ⟨vs, q, _⟩ := h3
      have go : ∀ {l : List (D × D)} {m : List (Key × Value)}, Paired (fun (p : D × D) (q : Key × Value) => p.1.flat? = Option.some q.1 ∧ ∃ v, Rep P w K H p.2 v ∧ RelV v q.2) l m → ∀ d ∈ l.map (·.1), ∃ k, d.flat? = Option.some k := by
        intro l m q
        induction q with
        | nil => intro d hd; simp at hd
        | cons h t ih =>
          intro d hd
          rcases List.mem_cons.mp hd with e | hd
          · exact ⟨_, by rw [e]; exact h.1⟩
          · exact ih d hd
      exact go q d hd
    exact ⟨a, t, _, us, rfl, ⟨f, h1, by rw [List.length_map]; exact h2, by rw [List.length_map, List.length_map], .inl q⟩, Reps.keep tk _ _ (repsTop _ hk), Reps.keep tk _ _ r⟩
  · obtain ⟨kus, us, r1, r2, q⟩ := entU_of h3
    exact ⟨a, t, kus, us, rfl, ⟨f, h1, by rw [List.length_map]; exact h2, by rw [List.length_map, List.length_map], .inr q⟩, Reps.keep tk _ _ r1, Reps.keep tk _ _ r2⟩
/-- what is known of a frozen dict -/
structure FDict (P : Program) (w : World) (K : PySem.W.Frag) (H : Hp) (a : Addr) (kvs : List (D × D)) (t : Tk) : Prop where
  fz : FzD K H a t
  ns : (a == sysModules) = false
  sz : kvs.length ≤ sizeLine
  en : EntF P w K H kvs t.1 ∨ EntT P w K H kvs t.1
theorem Rep.fdict {ks ds : List D} {v : V} (r : Rep P w K H (.fd ks ds) v) : ks.length = ds.length ∧ ∃ a t, v = .ref a ∧ FDict P w K H a (ks.zip ds) t := by
  obtain ⟨a, t, kus, us, rfl, ⟨f, h1, h2, h3, h4⟩, r1, r2⟩ := r
  refine ⟨h3, a, t, rfl, f, h1, by rw [List.length_zip]; omega, ?_⟩
  rcases h4 with ⟨vs, q, k1, k2, k3⟩ | ⟨xs, q, k1, k2⟩
  · refine .inl ⟨vs, ?_, k1, k2, k3⟩
    have go : ∀ {ks ds : List D} {us : List V} {vs : List (Key × Value)}, ks.length = ds.length → Reps P w K H ds us → Paired (fun (p : D × V) (q : Key × Value) => p.1.flat? = some q.1 ∧ RelV p.2 q.2) (ks.zip us) vs → Paired (fun (p : D × D) (q : Key × Value) => p.1.flat? = some q.1 ∧ ∃ v, Rep P w K H p.2 v ∧ RelV v q.2) (ks.zip ds) vs := by
      intro ks
      induction ks with
      | nil => intro ds us vs l r q; cases ds with
        | nil => rw [show us = [] from r] at q; exact (by cases q; exact .nil)
        | cons d ds => cases l
      | cons k ks ih =>
        intro ds us vs l r q
        cases ds with
        | nil => cases l
        | cons d ds =>
          obtain ⟨v, us', rfl, rv, r'⟩ := r
          rw [List.zip_cons_cons] at q ⊢
          cases q with
          | cons h t => exact .cons ⟨h.1, v, rv, h.2⟩ (ih (by simpa using l) r' t)
    exact go h3 r2 q
  · refine .inr ⟨xs, ?_, k1, k2⟩
    have go : ∀ {ks ds : List D} {kus us : List V} {xs : List (NestedKey × Addr × Value)}, ks.length = ds.length → Reps P w K H ks kus → Reps P w K H ds us → Paired (fun (p : (D × V) × V) (q : NestedKey × Addr × Value) => (p.1.1.nk = some q.1 ∧ q.1.depth ≤ 8 ∧ p.1.2 = .ref q.2.1 ∧ ∃ ds, p.1.1 = .tup ds) ∧ RelV p.2 q.2.2) ((ks.zip kus).zip us) xs →
        Paired (fun (p : D × D) (q : NestedKey × Addr × Value) => (p.1.nk = some q.1 ∧ q.1.depth ≤ 8 ∧ Rep P w K H p.1 (.ref q.2.1) ∧ ∃ ds, p.1 = .tup ds) ∧ ∃ v, Rep P w K H p.2 v ∧ RelV v q.2.2) (ks.zip ds) xs := by
      intro ks
      induction ks with
      | nil => intro ds kus us xs l r0 r q; cases ds with
        | nil => rw [show kus = [] from r0] at q; exact (by cases q; exact .nil)
        | cons d ds => cases l
      | cons k ks ih =>
        intro ds kus us xs l r0 r q
        cases ds with
        | nil => cases l
        | cons d ds =>
          obtain ⟨v, us', rfl, rv, r'⟩ := r
          obtain ⟨kv, kus', rfl, rkv, r0'⟩ := r0
          rw [List.zip_cons_cons, List.zip_cons_cons] at q
          rw [List.zip_cons_cons]
          cases q with
          | cons h t => exact .cons ⟨⟨h.1.1, h.1.2.1, by rw [← h.1.2.2.1]; exact rkv, h.1.2.2.2⟩, v, rv, h.2⟩ (ih (by simpa using l) r0' r' t)
    exact go h3 r1 r2 q
end

/-! ### the lifted judgements -/
abbrev Env := List (Option D)
abbrev DK := D → Mem → Prop
abbrev WE := Env → Mem → DK → Prop
abbrev WT := Env → Mem → (Bool → Mem → Prop) → Prop
abbrev WA := Env → Mem → (List D → Mem → Prop) → Prop
structure DEnds where
  nx : Env → Mem → Prop
  rt : DK
  bk : Env → Mem → Prop := fun _ _ => False
  ct : Env → Mem → Prop := fun _ _ => False
abbrev WS := DEnds → Env → Mem → Prop

structure Rl (X : Cx) (σ : St) (H : Hp) (ρ : Env) (M : Mem) : Prop where
  len : ρ.length = σ.length
  slot : ∀ (i : Nat) d, ρ[i]? = some (some d) → ∃ v, σ[i]? = some (some v) ∧ Rep X.prog X.w X.K H d v
  mem : MRel X.prog X.w X.K H M
section
variable {X : Cx} {σ : St} {H H' : Hp} {ρ : Env} {M M' : Mem}
theorem Rl.next (R : Rl X σ H ρ M) (m : MRel X.prog X.w X.K H' M') (k : Keep H M H' M') : Rl X σ H' ρ M' :=
  ⟨R.len, fun i d e => let ⟨v, e1, r⟩ := R.slot i d e; ⟨v, e1, Rep.keep (k.tup R.mem) d v r⟩, m⟩
theorem Rl.set (R : Rl X σ H ρ M) (i : Nat) {d : D} {v : V} (r : Rep X.prog X.w X.K H d v) : Rl X (σ.set i (some v)) H (ρ.set i (some d)) M := by
  refine ⟨by rw [List.length_set, List.length_set]; exact R.len, fun j e q => ?_, R.mem⟩
  by_cases h : i = j
  · subst h
    by_cases hi : i < ρ.length
    · rw [List.getElem?_set_self hi] at q
      cases q
      exact ⟨v, by rw [List.getElem?_set_self (by rw [← R.len]; exact hi)], r⟩
    · rw [List.getElem?_eq_none (by rw [List.length_set]; omega)] at q; cases q
  · rw [List.getElem?_set_ne h] at q ⊢
    exact R.slot j e q
end

def lE (X : Cx) (w : WE) : TE := fun σ H Q => ∃ ρ M Q', Rl X σ H ρ M ∧ w ρ M Q' ∧ ∀ v H' d M', Rep X.prog X.w X.K H' d v → MRel X.prog X.w X.K H' M' → Keep H M H' M' → Q' d M' → Q v H'
def lT (X : Cx) (w : WT) : TT := fun σ H Q => ∃ ρ M Q', Rl X σ H ρ M ∧ w ρ M Q' ∧ ∀ b H' M', MRel X.prog X.w X.K H' M' → Keep H M H' M' → Q' b M' → Q b H'
def lA (X : Cx) (w : WA) : TA := fun σ H Q => ∃ ρ M Q', Rl X σ H ρ M ∧ w ρ M Q' ∧ ∀ vs H' ds M', Reps X.prog X.w X.K H' ds vs → MRel X.prog X.w X.K H' M' → Keep H M H' M' → Q' ds M' → Q vs H'
/-- what is wanted behind, lifted -/
structure EndsLe (X : Cx) (H : Hp) (M : Mem) (D' : DEnds) (D : Ends) : Prop where
  nx : ∀ σ' H' ρ' M', Rl X σ' H' ρ' M' → Keep H M H' M' → D'.nx ρ' M' → D.nx σ' H'
  rt : ∀ v H' d M', Rep X.prog X.w X.K H' d v → MRel X.prog X.w X.K H' M' → Keep H M H' M' → D'.rt d M' → D.rt v H'
  bk : ∀ σ' H' ρ' M', Rl X σ' H' ρ' M' → Keep H M H' M' → D'.bk ρ' M' → D.bk σ' H'
  ct : ∀ σ' H' ρ' M', Rl X σ' H' ρ' M' → Keep H M H' M' → D'.ct ρ' M' → D.ct σ' H'
theorem EndsLe.after {X : Cx} {H H1 : Hp} {M M1 : Mem} {D' : DEnds} {D : Ends} (e : EndsLe X H M D' D) (k : Keep H M H1 M1) : EndsLe X H1 M1 D' D :=
  ⟨fun _ _ _ _ r l q => e.nx _ _ _ _ r (k.trans l) q, fun _ _ _ _ r m l q => e.rt _ _ _ _ r m (k.trans l) q, fun _ _ _ _ r l q => e.bk _ _ _ _ r (k.trans l) q, fun _ _ _ _ r l q => e.ct _ _ _ _ r (k.trans l) q⟩
def lS (X : Cx) (w : WS) : TS := fun D σ H => ∃ ρ M D', Rl X σ H ρ M ∧ w D' ρ M ∧ EndsLe X H M D' D

abbrev DEx (X : Cx) (e : Expr) (w : WE) : Prop := PE X e (lE X w)
abbrev DTs (X : Cx) (e : Expr) (w : WT) : Prop := PT X e (lT X w)
abbrev DAr (X : Cx) (es : List Expr) (w : WA) : Prop := PA X es (lA X w)
abbrev DSt (X : Cx) (st : Stmt) (w : WS) : Prop := PS X st (lS X w)
abbrev DSs (X : Cx) (st : List Stmt) (w : WS) : Prop := PSs X st (lS X w)

section
variable {X : Cx} {e : Expr}
theorem pe_imp {t t' : TE} (h : PE X e t) (i : ∀ σ H Q, t' σ H Q → t σ H Q) : PE X e t' := ⟨fun pins s σ H Q I q => h.run pins s σ H Q I (i _ _ _ q)⟩
theorem pt_imp {t t' : TT} (h : PT X e t) (i : ∀ σ H Q, t' σ H Q → t σ H Q) : PT X e t' := ⟨fun pins s σ H Q I q => h.run pins s σ H Q I (i _ _ _ q)⟩
theorem pw_imp {t t' : TT} (h : PW X e t) (i : ∀ σ H Q, t' σ H Q → t σ H Q) : PW X e t' := ⟨fun wh pins s σ H Q I q => h.run wh pins s σ H Q I (i _ _ _ q)⟩
theorem pa_imp {es : List Expr} {t t' : TA} (h : PA X es t) (i : ∀ σ H Q, t' σ H Q → t σ H Q) : PA X es t' := ⟨fun pos pins s σ H Q I q => h.run pos pins s σ H Q I (i _ _ _ q)⟩
theorem ps_imp {st : Stmt} {t t' : TS} (h : PS X st t) (i : ∀ D σ H, t' D σ H → t D σ H) : PS X st t' := ⟨fun pins s σ H D I q => h.run pins s σ H D I (i _ _ _ q)⟩
theorem pss_imp {st : List Stmt} {t t' : TS} (h : PSs X st t) (i : ∀ D σ H, t' D σ H → t D σ H) : PSs X st t' := ⟨fun pins s σ H D I q => h.run pins s σ H D I (i _ _ _ q)⟩
/-- the reading of a part, used in the reading of the whole -/
theorem lE_use {w : WE} {σ : St} {H : Hp} {ρ : Env} {M : Mem} {Q' : DK} {Q : VK} (R : Rl X σ H ρ M) (h : w ρ M Q') (k : ∀ v H' d M', Rep X.prog X.w X.K H' d v → MRel X.prog X.w X.K H' M' → Keep H M H' M' → Q' d M' → Q v H') : lE X w σ H Q := ⟨ρ, M, Q', R, h, k⟩

/-! ### freezing -/
/-- the value is a thing, which is frozen -/
def FQ (v : V) (H : Hp) (Q : VK) : Prop := ∃ p u, v = .ref p ∧ H p = some u ∧ Mut (some u) ∧ ∀ o, Q v (upd H p (.frz o u))
theorem pe_frz {t : TE} (h : PE X e t) : PE X e fun σ H Q => t σ H fun v H1 => Q v H1 ∨ FQ v H1 Q := ⟨fun pins s σ H Q I q => wpAny_mono (h.run pins s σ H _ I q) (fun u s' ⟨v, H', I', r, q⟩ => by
  rcases q with q | ⟨p, x, e1, e2, mu, q⟩
  · exact ⟨v, H', I', r, q⟩
  · obtain ⟨o, I2⟩ := I'.lock e2 mu
    exact ⟨v, _, I2, r, q o⟩) fun _ _ z => z⟩
theorem pss_frz {st : List Stmt} {t : TS} (h : PSs X st t) : PSs X st fun D σ H => t { D with rt := fun v H1 => D.rt v H1 ∨ FQ v H1 D.rt } σ H := ⟨fun pins s σ H D I q => wpAny_mono (h.run pins s σ H _ I q) (fun f s' q => by
  cases f with
  | ret u =>
    obtain ⟨v, σ', H', I', r, q⟩ := q
    rcases q with q | ⟨p, x, e1, e2, mu, q⟩
    · exact ⟨v, σ', H', I', r, q⟩
    · obtain ⟨o, I2⟩ := I'.lock e2 mu
      exact ⟨v, σ', _, I2, r, q o⟩
  | next => exact q
  | brk => exact q
  | cont => exact q) fun _ _ z => z⟩
/-- behind a statement something is frozen -/
def FN (σ : St) (H : Hp) (N : St → Hp → Prop) : Prop := ∃ p u, H p = some u ∧ Mut (some u) ∧ ∀ o, N σ (upd H p (.frz o u))
theorem ps_frz {st : Stmt} {t : TS} (h : PS X st t) : PS X st fun D σ H => t { D with nx := fun σ' H' => D.nx σ' H' ∨ FN σ' H' D.nx } σ H := ⟨fun pins s σ H D I q => wpAny_mono (h.run pins s σ H _ I q) (fun f s' q => by
  cases f with
  | next =>
    obtain ⟨σ', H', I', q⟩ := q
    rcases q with q | ⟨p, x, e2, mu, q⟩
    · exact ⟨σ', H', I', q⟩
    · obtain ⟨o, I2⟩ := I'.lock e2 mu
      exact ⟨σ', _, I2, q o⟩
  | ret u => exact q
  | brk => exact q
  | cont => exact q) fun _ _ z => z⟩

/-! ### names, constants -/
def wVar (i : Nat) : WE := fun ρ M Q => ∃ d, ρ[i]? = some (some d) ∧ Q d M
def wC (d : D) : WE := fun _ M Q => Q d M
theorem de_var {i : Nat} (h : PE X e (tVar i)) : DEx X e (wVar i) := pe_imp h fun σ H Q ⟨ρ, M, Q', R, ⟨d, e, q⟩, k⟩ => let ⟨v, e', r⟩ := R.slot i d e; ⟨v, e', k v H d M r R.mem .refl q⟩
theorem de_c {v : V} {d : D} (h : PE X e (tC v)) (r : ∀ H, Rep X.prog X.w X.K H d v) : DEx X e (wC d) := pe_imp h fun σ H Q ⟨ρ, M, Q', R, q, k⟩ => k v H d M (r H) R.mem .refl q

/-! ### operators by values -/
abbrev W2 := D → D → Mem → DK → Prop
def Lift2 (X : Cx) (r : R2) (g : W2) : Prop := ∀ H M x y d e Q (Q' : DK), MRel X.prog X.w X.K H M → Rep X.prog X.w X.K H d x → Rep X.prog X.w X.K H e y → g d e M Q' → (∀ v H' d' M', Rep X.prog X.w X.K H' d' v → MRel X.prog X.w X.K H' M' → Keep H M H' M' → Q' d' M' → Q v H') → r x y H Q
def wBin (g : W2) (wa wb : WE) : WE := fun ρ M Q => wa ρ M fun d M1 => wb ρ M1 fun e M2 => g d e M2 Q
theorem lift_bin {r : R2} {g : W2} {wa wb : WE} (l : Lift2 X r g) : ∀ σ H Q, lE X (wBin g wa wb) σ H Q → tOp r (lE X wa) (lE X wb) σ H Q := fun σ H Q ⟨ρ, M, Q', R, q, k⟩ =>
  ⟨ρ, M, _, R, q, fun x H1 d M1 r1 m1 k1 q1 => ⟨ρ, M1, _, R.next m1 k1, q1, fun y H2 e M2 r2 m2 k2 q2 =>
    l H2 M2 x y d e Q Q' m2 (Rep.keep (k2.tup m1) _ _ r1) r2 q2 fun v H3 d3 M3 r3 m3 k3 q3 => k v H3 d3 M3 r3 m3 (k1.trans (k2.trans k3)) q3⟩⟩
theorem de_op {a b : Expr} {op : Operator} {pos : Pos} {r : R2} {g : W2} {wa wb : WE} (ho : OpR X (binaryOp op) r) (l : Lift2 X r g) (ha : DEx X a wa) (hb : DEx X b wb) : DEx X (.BinOp a op b pos) (wBin g wa wb) := pe_imp (pe_op ho ha hb) (lift_bin l)
theorem de_cmp {a b : Expr} {op : CmpOp} {pos : Pos} {r : R2} {g : W2} {wa wb : WE} (ho : OpR X (compareOp op) r) (l : Lift2 X r g) (ha : DEx X a wa) (hb : DEx X b wb) (hm : behindInMarks op b = false) : DEx X (.Compare a [op] [b] pos) (wBin g wa wb) := pe_imp (pe_cmpR ho ha hb hm) (lift_bin l)
/-- a value as a test -/
def wB (w : WE) : WT := fun ρ M Q => w ρ M fun d M1 => ∃ b, d = .bl b ∧ Q b M1
theorem lift_tt {w : WE} {t : TE} (l : ∀ σ H Q, lE X w σ H Q → t σ H Q) : ∀ σ H Q, lT X (wB w) σ H Q → tTest t σ H Q := fun σ H Q ⟨ρ, M, Q', R, q, k⟩ =>
  l σ H _ ⟨ρ, M, _, R, q, fun x H1 d M1 r1 m1 k1 ⟨b, e, q1⟩ => by
    subst e
    cases (show x = .bl b from r1)
    exact ⟨b, rfl, k b H1 M1 m1 k1 q1⟩⟩
theorem dt_cmp {a b : Expr} {op : CmpOp} {pos : Pos} {r : R2} {g : W2} {wa wb : WE} (ho : OpR X (compareOp op) r) (l : Lift2 X r g) (ha : DEx X a wa) (hb : DEx X b wb) (hm : behindInMarks op b = false) : DTs X (.Compare a [op] [b] pos) (wB (wBin g wa wb)) := pt_imp (pt_cmpR ho ha hb hm) (lift_tt (lift_bin l))

/-! ### and, or, not -/
def wNotT (w : WT) : WT := fun ρ M Q => w ρ M fun b M1 => Q (!b) M1
def wAndT (a b : WT) : WT := fun ρ M Q => a ρ M fun c M1 => if c = true then b ρ M1 Q else Q false M1
def wOrT (a b : WT) : WT := fun ρ M Q => a ρ M fun c M1 => if c = true then Q true M1 else b ρ M1 Q
theorem dt_not {a : Expr} {pos : Pos} {w : WT} (h : DTs X a w) : DTs X (.UnaryOp .Not a pos) (wNotT w) := pt_imp (pt_not h) fun σ H Q ⟨ρ, M, Q', R, q, k⟩ => ⟨ρ, M, _, R, q, fun b H1 M1 m1 k1 q1 => k _ H1 M1 m1 k1 q1⟩
theorem lift_and {wa wb : WT} : ∀ σ H Q, lT X (wAndT wa wb) σ H Q → tAnd (lT X wa) (lT X wb) σ H Q := fun σ H Q ⟨ρ, M, Q', R, q, k⟩ => ⟨ρ, M, _, R, q, fun b H1 M1 m1 k1 q1 => by
  cases b with
  | true => rw [if_pos rfl] at q1 ⊢; exact ⟨ρ, M1, Q', R.next m1 k1, q1, fun b H2 M2 m2 k2 q2 => k b H2 M2 m2 (k1.trans k2) q2⟩
  | false => rw [if_neg Bool.false_ne_true] at q1 ⊢; exact k _ H1 M1 m1 k1 q1⟩
theorem lift_or {wa wb : WT} : ∀ σ H Q, lT X (wOrT wa wb) σ H Q → tOr (lT X wa) (lT X wb) σ H Q := fun σ H Q ⟨ρ, M, Q', R, q, k⟩ => ⟨ρ, M, _, R, q, fun b H1 M1 m1 k1 q1 => by
  cases b with
  | false => rw [if_neg Bool.false_ne_true] at q1 ⊢; exact ⟨ρ, M1, Q', R.next m1 k1, q1, fun b H2 M2 m2 k2 q2 => k b H2 M2 m2 (k1.trans k2) q2⟩
  | true => rw [if_pos rfl] at q1 ⊢; exact k _ H1 M1 m1 k1 q1⟩
abbrev DWs (X : Cx) (e : Expr) (w : WT) : Prop := PW X e (lT X w)
theorem dw_and1 {a : Expr} {pos : Pos} {w : WT} (h : DTs X a w) : DWs X (.BoolOp .And [a] pos) w := pw_and1 h
theorem dw_or1 {a : Expr} {pos : Pos} {w : WT} (h : DTs X a w) : DWs X (.BoolOp .Or [a] pos) w := pw_or1 h
theorem dw_and {a b : Expr} {rest : List Expr} {pos : Pos} {wa wb : WT} (h : DTs X a wa) (hr : DWs X (.BoolOp .And (b :: rest) pos) wb) : DWs X (.BoolOp .And (a :: b :: rest) pos) (wAndT wa wb) := pw_imp (pw_and h hr) lift_and
theorem dw_or {a b : Expr} {rest : List Expr} {pos : Pos} {wa wb : WT} (h : DTs X a wa) (hr : DWs X (.BoolOp .Or (b :: rest) pos) wb) : DWs X (.BoolOp .Or (a :: b :: rest) pos) (wOrT wa wb) := pw_imp (pw_or h hr) lift_or
def wIfE (c : WT) (a b : WE) : WE := fun ρ M Q => c ρ M fun k M1 => if k = true then a ρ M1 Q else b ρ M1 Q
theorem de_if {c a b : Expr} {pos : Pos} {wc : WT} {wa wb : WE} (hc : DTs X c wc) (ha : DEx X a wa) (hb : DEx X b wb) : DEx X (.IfExp c a b pos) (wIfE wc wa wb) := pe_imp (pe_ifExp hc ha hb) fun σ H Q ⟨ρ, M, Q', R, q, k⟩ => ⟨ρ, M, _, R, q, fun c H1 M1 m1 k1 q1 => by
  cases c with
  | true => rw [if_pos rfl] at q1 ⊢; exact ⟨ρ, M1, Q', R.next m1 k1, q1, fun v H2 d M2 r2 m2 k2 q2 => k v H2 d M2 r2 m2 (k1.trans k2) q2⟩
  | false => rw [if_neg Bool.false_ne_true] at q1 ⊢; exact ⟨ρ, M1, Q', R.next m1 k1, q1, fun v H2 d M2 r2 m2 k2 q2 => k v H2 d M2 r2 m2 (k1.trans k2) q2⟩⟩

/-! ### truth -/
def truD (d : D) (M : Mem) : Option Bool :=
  match d with
  | .non => some false
  | .bl b => some b
  | .int i => some (decide (i ≠ 0))
  | .str s => if s.length ≤ sizeLine then some (decide (s.length ≠ 0)) else none
  | .tup ds => some (!ds.isEmpty)
  | .ref a => match M a with
    | some (.lst ds) => some (!ds.isEmpty)
    | _ => none
  | .fl ds => some (!ds.isEmpty)
  | .fd _ _ => none
end
end Fw

set_option Elab.async false
set_option linter.all false
set_option maxRecDepth 100000
set_option maxHeartbeats 4000000
/-! FwOps: operators, comparisons, subscripts, slices over data -/
namespace Fw
open PySem PySem.Spec PyProof.Rows L2

/-! ### tuple * int, once and none -/
theorem tuple_mulSame (l : Addr) (items : Array Value) (n : Nat) (dd : Option Addr) (sl : Array (Option Value)) (x : Int) (u : Tok) (c0 : (decide (x < -(2 ^ 63)) || decide (x ≥ 2 ^ 63)) = false) (c1 : (items.isEmpty || x == 1) = true) :
    Meets (Builtin.«tuple.__mul__» ⟨[.ref l, .int x u], []⟩) (fun _ R s => s.heap.get? l = some { cls := .type "tuple", dict := dd, data := .seq items n, slots := sl } ∧ R (.ok (.ret (Value.ref l))) { s with heap := s.heap, toks := s.toks }) :=
  .of_wp fun prog w A R s h => by
    obtain ⟨hp, g, d, tk, os⟩ := s
    obtain ⟨hl, h⟩ := h
    have f1 := AutoSeq1.idx_int
    wp_walk using wpAny_loadPart' hl
    repeat (first
      | (refine wpAny_ite_false (decide_eq_false (by rw [c0]; exact Bool.false_ne_true)) ?_; wp_walk using wpAny_loadPart' hl)
      | (refine wpAny_ite_true (decide_eq_true c1) ?_; wp_walk using wpAny_loadPart' hl))
    exact ⟨_, rfl, h⟩
theorem tuple_mulNone (l : Addr) (items : Array Value) (n : Nat) (dd : Option Addr) (sl : Array (Option Value)) (x : Int) (u : Tok) (c0 : (decide (x < -(2 ^ 63)) || decide (x ≥ 2 ^ 63)) = false) (c1 : (items.isEmpty || x == 1) = false) (c2 : (decide (x ≤ 0) || items.isEmpty) = true) :
    Meets (Builtin.«tuple.__mul__» ⟨[.ref l, .int x u], []⟩) (fun _ R s => s.heap.get? l = some { cls := .type "tuple", dict := dd, data := .seq items n, slots := sl } ∧
      R (.ok (.ret (Value.ref s.heap.objs.size))) { s with heap := s.heap.push { cls := Value.type "tuple", data := Data.seq #[] }, toks := s.toks }) :=
  .of_wp fun prog w A R s h => by
    obtain ⟨hp, g, d, tk, os⟩ := s
    obtain ⟨hl, h⟩ := h
    have f1 := AutoSeq1.idx_int
    wp_walk using wpAny_loadPart' hl
    repeat (first
      | (refine wpAny_ite_false (decide_eq_false (by rw [c0]; exact Bool.false_ne_true)) ?_; wp_walk using wpAny_loadPart' hl)
      | (refine wpAny_ite_false (decide_eq_false (by rw [c1]; exact Bool.false_ne_true)) ?_; wp_walk using wpAny_loadPart' hl)
      | (refine wpAny_ite_true (decide_eq_true c2) ?_; wp_walk using wpAny_loadPart' hl))
    exact ⟨_, rfl, h⟩
/-- t * k, once, none or many times -/
def rRepA (K : PySem.W.Frag) : R2 := fun x y H Q => ∃ l k xs, x = .ref l ∧ y = .int k ∧ SqT K H l xs ∧ k ≤ 1000 ∧ -1000 ≤ k ∧ xs.length ≤ 1000 ∧
  (xs = [] ∨ k = 1 → Q (.ref l) H) ∧ (xs ≠ [] → k ≤ 0 → ∀ p, H p = none → Q (.ref p) (upd H p (.tup []))) ∧ (xs ≠ [] → 2 ≤ k → ∀ p, H p = none → Q (.ref p) (upd H p (.tup (List.replicate k.toNat xs).flatten)))
theorem op_repA {X : Cx} : OpR X (binaryOp .Mult) (rRepA X.K) := by
  intro pins s σ H x y v u Q I rx ry h
  obtain ⟨l, k, xs, rfl, rfl, hT, h1, h0, hz, q0, q1, q2⟩ := h
  by_cases c : xs = [] ∨ k = 1
  · cases rx
    obtain ⟨t, rfl⟩ := ry
    obtain ⟨its, r, ⟨⟨cls, dd, data, sl⟩, ho, hc, n, hd⟩, hs⟩ := I.tuple hT
    simp only at hc hd
    subst hc hd
    have c0 : (decide (k < -(2 ^ 63)) || decide (k ≥ 2 ^ 63)) = false := by
      rw [decide_eq_false (by omega), decide_eq_false (by omega)] <;> rfl
    have c1 : (its.toArray.isEmpty || k == 1) = true := by
      rcases c with c | c
      · subst c; cases r; rfl
      · rw [c]; simp
    exact wpAny_binaryOp_repeat_ref (T := "tuple") (U := "int") (by decide) ⟨_, ho, rfl⟩ (fun s' => typeIs_int s' k t) noFill_tuple_mul F.fills_int_mul F.slot_int_rmul repeat_tuple F.slot_int_index.lookup
      (call_meets F.slot_int_rmul (typeIs_int s k t) F.entry_int_rmul (F.args_int_rmul_2 _ _) (int_rmul_tuple k t l its.toArray n dd sl)
        ⟨ho, rfl, ⟨_, ho, rfl⟩, call_meets F.slot_tuple_mul ⟨_, ho, rfl⟩ F.entry_tuple_mul (F.args_tuple_mul_2 _ _) (tuple_mulSame l its.toArray n dd sl k t c0 c1) ⟨ho, ⟨.ref l, H, I, rfl, q0 c⟩⟩⟩)
  · by_cases c2 : 2 ≤ k
    · exact op_repT pins s σ H _ _ v u Q I rx ry ⟨l, k, xs, rfl, rfl, hT, fun e => c (.inl e), c2, h1, hz, q2 (fun e => c (.inl e)) c2⟩
    · cases rx
      obtain ⟨t, rfl⟩ := ry
      obtain ⟨its, r, ⟨⟨cls, dd, data, sl⟩, ho, hc, n, hd⟩, hs⟩ := I.tuple hT
      simp only at hc hd
      subst hc hd
      have hk : k ≤ 0 := by
        have : k ≠ 1 := fun e => c (.inr e)
        omega
      have c0 : (decide (k < -(2 ^ 63)) || decide (k ≥ 2 ^ 63)) = false := by
        rw [decide_eq_false (by omega), decide_eq_false (by omega)] <;> rfl
      have hi : its.toArray.isEmpty = false := by
        cases its with
        | nil => cases r; exact absurd (.inl rfl) c
        | cons a b => rfl
      have c1 : (its.toArray.isEmpty || k == 1) = false := by
        rw [hi, Bool.false_or]
        exact beq_eq_false_iff_ne.mpr (by omega)
      have c3 : (decide (k ≤ 0) || its.toArray.isEmpty) = true := by
        rw [decide_eq_true hk]; rfl
      refine wpAny_binaryOp_repeat_ref (T := "tuple") (U := "int") (by decide) ⟨_, ho, rfl⟩ (fun s' => typeIs_int s' k t) noFill_tuple_mul F.fills_int_mul F.slot_int_rmul repeat_tuple F.slot_int_index.lookup
        (call_meets F.slot_int_rmul (typeIs_int s k t) F.entry_int_rmul (F.args_int_rmul_2 _ _) (int_rmul_tuple k t l its.toArray n dd sl)
          ⟨ho, rfl, ⟨_, ho, rfl⟩, call_meets F.slot_tuple_mul ⟨_, ho, rfl⟩ F.entry_tuple_mul (F.args_tuple_mul_2 _ _) (tuple_mulNone l its.toArray n dd sl k t c0 c1 c3) ⟨ho, ?_⟩⟩)
      refine ⟨.ref s.heap.objs.size, _, I.laid (t' := s.toks) (o := .tup []) (fun b ob q => Heap.get?_push_of_some _ q) (Nat.le_refl _) ?_, rfl, q1 (fun e => c (.inl e)) hk _ (I.hok.fresh (Nat.le_refl _))⟩
      exact ⟨Nat.zero_le _, [], .nil, IsTup.new _ _⟩

/-! ### data for == -/
mutual
def D.py : D → Option PyData
  | .non => some .none
  | .bl b => some (.bool b)
  | .int i => some (.int i)
  | .str s => some (.str s)
  | .ref _ => none
  | .tup ds => (D.pys ds).map PyData.tuple
  | .fl _ => none
  | .fd _ _ => none
def D.pys : List D → Option (List PyData)
  | [] => some []
  | d :: ds => match D.py d, D.pys ds with
    | some k, some ks => some (k :: ks)
    | _, _ => none
end
section
variable {P : Program} {w : World} {K : PySem.W.Frag} {H : Hp}
mutual
theorem Rep.dp : ∀ (d : D) (p : PyData) (v : V), d.py = some p → Rep P w K H d v → Dp K H v p
  | .non, p, v, e, r => by simp [D.py] at e; subst e; cases (show v = .non from r); exact .non
  | .bl b, p, v, e, r => by simp [D.py] at e; subst e; cases (show v = .bl b from r); exact .bl b
  | .int b, p, v, e, r => by simp [D.py] at e; subst e; cases (show v = .int b from r); exact .int b
  | .str b, p, v, e, r => by simp [D.py] at e; subst e; cases (show v = .str b from r); exact .str b
  | .ref _, p, v, e, r => by simp [D.py] at e
  | .tup ds, p, v, e, r => by
    simp only [D.py, Option.map_eq_some_iff] at e
    obtain ⟨ps, e, rfl⟩ := e
    obtain ⟨a, vs, rfl, s, rs⟩ := r
    exact .tup s (Reps.dp ds ps vs e rs)
  | .fl _, p, v, e, r => by simp [D.py] at e
  | .fd _ _, p, v, e, r => by simp [D.py] at e
theorem Reps.dp : ∀ (ds : List D) (ps : List PyData) (vs : List V), D.pys ds = some ps → Reps P w K H ds vs → DpAll K H vs ps
  | [], ps, vs, e, r => by simp [D.pys] at e; subst e; rw [show vs = [] from r]; exact .nil
  | d :: ds, ps, vs, e, r => by
    obtain ⟨v, r', rfl, h1, h2⟩ := r
    rw [D.pys] at e
    split at e
    · rename_i k ks e1 e2
      simp at e; subst e
      exact .cons (Rep.dp d k v e1 h1) (Reps.dp ds ks r' e2 h2)
    · simp at e
end
end
/-- == of data, told whole: what both are as data -/
def EqIs (x y : D) (b : Bool) : Prop := ∃ p q, x.py = some p ∧ y.py = some q ∧ SeqAt.shaped p = true ∧ SeqAt.shaped q = true ∧ PyData.eqv p q = b
/-- scalars of one kind -/
def scEq : D → D → Option Bool
  | .int i, .int j => some (decide (i = j))
  | .str i, .str j => some (decide (i = j))
  | .bl i, .bl j => some (decide (i = j))
  | _, _ => none
def dEq (f : Bool → Bool) : W2 := fun x y M Q => match scEq x y with
  | some b => Q (.bl (f b)) M
  | none => ∃ b, EqIs x y b ∧ Q (.bl (f b)) M

section
variable {X : Cx}
/-! ### arithmetic and + -/
/-- two lists, read -/
def rCatM : R2 := fun x y H Q => ∃ l b xs zs, x = .ref l ∧ y = .ref b ∧ Rd H l (.lst xs) ∧ Rd H b (.lst zs) ∧ xs.length + zs.length ≤ sizeLine ∧ ∀ p, H p = none → Q (.ref p) (upd H p (.lst (xs ++ zs)))
theorem op_catM : OpR X (binaryOp .Add) rCatM := by
  intro pins s σ H x y v u Q I rx ry ⟨l, b, xs, zs, ex, ey, hl, hb, hz, q⟩
  subst ex ey
  cases rx
  cases ry
  obtain ⟨_, i1, n1, r1, e1⟩ := hl.ok I.hok
  obtain ⟨_, i2, n2, r2, e2⟩ := hb.ok I.hok
  have l1 := r1.length
  have l2 := r2.length
  have h12 : i1.toArray.size + i2.toArray.size ≤ sizeLine := by
    simp only [List.size_toArray]; omega
  refine PySem.P.add_list e1 e2 ?_ h12
  rw [show i1.toArray ++ i2.toArray = (i1 ++ i2).toArray by simp]
  exact ⟨.ref _, _, I.lnew (t' := s.toks) (r1.append r2) (by simp; omega), rfl, q _ I.fresh⟩
theorem op_frz {op : Value → Value → Sem Value} {r : R2} (h : OpR X op r) : OpR X op fun x y H Q => r x y H fun v H1 => Q v H1 ∨ FQ v H1 Q := by
  intro pins s σ H x y v u Q I rx ry q
  refine wpAny_mono (h pins s σ H x y v u _ I rx ry q) (fun u s' ⟨v, H', I', r, q⟩ => ?_) fun _ _ z => z
  rcases q with q | ⟨p, x, e1, e2, mu, q⟩
  · exact ⟨v, H', I', r, q⟩
  · obtain ⟨o, I2⟩ := I'.lock e2 mu
    exact ⟨v, _, I2, r, q o⟩
def rAddR (K : PySem.W.Frag) : R2 := fun x y H Q => rI0 (fun i j => .int (i + j)) x y H Q ∨ ((∃ i j, x = .str i ∧ y = .str j ∧ i.length + j.length ≤ sizeLine ∧ Q (.str (i ++ j)) H) ∨ (rCatA K x y H Q ∨ rCatM x y H fun v H1 => Q v H1 ∨ FQ v H1 Q))
theorem op_addR : OpR X (binaryOp .Add) (rAddR X.K) := op_add.or (op_add_str.or (op_catA.or (op_frz op_catM)))
/-- a list that is read -/
def readL (d : D) (M : Mem) : Option (List D) := match d with
  | .fl ds => some ds
  | .ref a => match M a with
    | some (.lst ds) => some ds
    | _ => none
  | _ => none
theorem readL_rd {P : Program} {w : World} {K : PySem.W.Frag} {H : Hp} {M : Mem} {d : D} {x : V} {ds : List D} (m : MRel P w K H M) (r : Rep P w K H d x) (h : readL d M = some ds) : ∃ a vs, x = .ref a ∧ Rd H a (.lst vs) ∧ Reps P w K H ds vs := by
  cases d with
  | fl l => cases h; obtain ⟨a, vs, rfl, f, rs⟩ := r; exact ⟨a, vs, rfl, f.rd, rs⟩
  | ref a =>
    unfold readL at h
    simp only at h
    cases c : M a with
    | none => rw [c] at h; cases h
    | some mo =>
      rw [c] at h
      cases mo with
      | lst l => cases h; obtain ⟨vs, e, rs⟩ := m a _ c; exact ⟨a, vs, r, .of e, rs⟩
      | dict _ _ => cases h
      | ins _ _ => cases h
  | _ => cases h
def dAdd : W2 := fun x y M Q => match x with
  | .int i => match y with
    | .int j => Q (.int (i + j)) M
    | _ => False
  | .str i => match y with
    | .str j => i.length + j.length ≤ sizeLine ∧ Q (.str (i ++ j)) M
    | _ => False
  | .tup i => match y with
    | .tup j => i.length + j.length ≤ sizeLine ∧ Q (.tup (i ++ j)) M
    | _ => False
  | .ref a => ∃ xs ys, readL (.ref a) M = some xs ∧ readL y M = some ys ∧ xs.length + ys.length ≤ sizeLine ∧ Q (.fl (xs ++ ys)) M
  | .fl xs => ∃ ys, readL y M = some ys ∧ xs.length + ys.length ≤ sizeLine ∧ Q (.fl (xs ++ ys)) M
  | _ => False
/-- + whose new list may be changed -/
def dAddM : W2 := fun x y M Q => ∃ xs ys, readL x M = some xs ∧ readL y M = some ys ∧ xs.length + ys.length ≤ sizeLine ∧ ∀ p, M p = none → Q (.ref p) (mset M p (.lst (xs ++ ys)))
theorem lift_addM : Lift2 X rCatM dAddM := by
  intro H M x y d e Q Q' m rx ry ⟨xs, ys, e1, e2, hz, q⟩ k
  obtain ⟨a, vs, rfl, h1, r1⟩ := readL_rd m rx e1
  obtain ⟨b, ws, rfl, h2, r2⟩ := readL_rd m ry e2
  refine ⟨a, b, vs, ws, rfl, rfl, h1, h2, by rw [← r1.length, ← r2.length]; exact hz, fun p np => ?_⟩
  obtain ⟨m', k', n⟩ := m.alloc (o := .lst (vs ++ ws)) (mo := .lst (xs ++ ys)) np fun t => ⟨_, upd_same, (Reps.keep t _ _ r1).append (Reps.keep t _ _ r2)⟩
  exact k _ _ (.ref p) _ rfl m' k' (q p n)
theorem MRel.newZ {P : Program} {w : World} {K : PySem.W.Frag} {H : Hp} {M : Mem} {p : Addr} {ds : List D} {vs : List V} {Q : VK} {Q' : DK} (m : MRel P w K H M) (np : H p = none) (r : Reps P w K H ds vs) (q : Q' (.fl ds) M)
    (k : ∀ v H' d' M', Rep P w K H' d' v → MRel P w K H' M' → Keep H M H' M' → Q' d' M' → Q v H') : FQ (.ref p) (upd H p (.lst vs)) Q := ⟨p, .lst vs, rfl, upd_same, True.intro, fun o => by
  rw [upd_upd]
  obtain ⟨m', k'⟩ := m.allocT (o := .frz o (.lst vs)) np
  exact k _ _ (.fl ds) M ⟨p, vs, rfl, ⟨o, upd_same⟩, Reps.keep (tkeep_new np) _ _ r⟩ m' k' q⟩
theorem lift_cat {H : Hp} {M : Mem} {x y : V} {d e : D} {xs ys : List D} {Q : VK} {Q' : DK} (m : MRel X.prog X.w X.K H M) (rx : Rep X.prog X.w X.K H d x) (ry : Rep X.prog X.w X.K H e y) (e1 : readL d M = some xs) (e2 : readL e M = some ys) (hz : xs.length + ys.length ≤ sizeLine) (q : Q' (.fl (xs ++ ys)) M)
    (k : ∀ v H' d' M', Rep X.prog X.w X.K H' d' v → MRel X.prog X.w X.K H' M' → Keep H M H' M' → Q' d' M' → Q v H') : rCatM x y H fun v H1 => Q v H1 ∨ FQ v H1 Q := by
  obtain ⟨a, vs, rfl, h1, r1⟩ := readL_rd m rx e1
  obtain ⟨b, ws, rfl, h2, r2⟩ := readL_rd m ry e2
  exact ⟨a, b, vs, ws, rfl, rfl, h1, h2, by rw [← r1.length, ← r2.length]; exact hz, fun p np => .inr (m.newZ np (r1.append r2) q k)⟩
theorem MRel.lst {P : Program} {w : World} {K : PySem.W.Frag} {H : Hp} {M : Mem} {a : Addr} {ds : List D} (m : MRel P w K H M) (e : M a = some (.lst ds)) : ∃ vs, H a = some (.lst vs) ∧ Reps P w K H ds vs := m a _ e
theorem lift_add : Lift2 X (rAddR X.K) dAdd := by
  intro H M x y d e Q Q' m rx ry h k
  cases d with
  | int i =>
    cases e with
    | int j => cases (show x = .int i from rx); cases (show y = .int j from ry); exact .inl ⟨i, j, rfl, rfl, k _ H (.int (i + j)) M rfl m .refl h⟩
    | _ => exact h.elim
  | str i =>
    cases e with
    | str j => cases (show x = .str i from rx); cases (show y = .str j from ry); exact .inr (.inl ⟨i, j, rfl, rfl, h.1, k _ H (.str (i ++ j)) M rfl m .refl h.2⟩)
    | _ => exact h.elim
  | tup i =>
    cases e with
    | tup j =>
      obtain ⟨a, vs, rfl, s, rs⟩ := rx
      obtain ⟨b, ws, rfl, s', rs'⟩ := ry
      have l1 := rs.length
      have l2 := rs'.length
      obtain ⟨hz, q⟩ := h
      refine .inr (.inr (.inl ⟨a, b, vs, ws, rfl, rfl, s, s', by omega, fun e => ?_, fun _ e => ?_, fun _ _ p np => ?_⟩))
      · subst e
        have e' : i = [] := List.eq_nil_of_length_eq_zero l1
        subst e'
        exact k _ H (.tup j) M ⟨b, ws, rfl, s', rs'⟩ m .refl q
      · subst e
        have e' : j = [] := List.eq_nil_of_length_eq_zero l2
        subst e'
        rw [List.append_nil] at q
        exact k _ H (.tup i) M ⟨a, vs, rfl, s, rs⟩ m .refl q
      · obtain ⟨m', k'⟩ := m.allocT (o := .tup (vs ++ ws)) np
        exact k _ _ (.tup (i ++ j)) M ⟨p, vs ++ ws, rfl, .of upd_same, (Reps.keep (tkeep_new np) _ _ rs).append (Reps.keep (tkeep_new np) _ _ rs')⟩ m' k' q
    | _ => exact h.elim
  | ref a =>
    obtain ⟨xs, ys, e1, e2, hz, q⟩ := h
    exact .inr (.inr (.inr (lift_cat m rx ry e1 e2 hz q k)))
  | fl xs =>
    obtain ⟨ys, e2, hz, q⟩ := h
    exact .inr (.inr (.inr (lift_cat m rx ry rfl e2 hz q k)))
  | fd _ _ => exact h.elim
  | non => exact h.elim
  | bl b => exact h.elim
/-- ints alone -/
def dInt (C : Int → Int → Prop) (f : Int → Int → D) : W2 := fun x y M Q => match x with
  | .int i => match y with
    | .int j => C i j ∧ Q (f i j) M
    | _ => False
  | _ => False
def dInt0 (f : Int → Int → D) : W2 := fun x y M Q => match x with
  | .int i => match y with
    | .int j => Q (f i j) M
    | _ => False
  | _ => False
theorem lift_int {C : Int → Int → Prop} {g : Int → Int → V} {f : Int → Int → D} (hf : ∀ i j H, Rep X.prog X.w X.K H (f i j) (g i j)) : Lift2 X (rI C g) (dInt C f) := by
  intro H M x y d e Q Q' m rx ry h k
  cases d with
  | int i =>
    cases e with
    | int j => cases (show x = .int i from rx); cases (show y = .int j from ry); exact ⟨i, j, rfl, rfl, h.1, k _ H _ M (hf i j H) m .refl h.2⟩
    | _ => exact h.elim
  | _ => exact h.elim
theorem lift_int0 {g : Int → Int → V} {f : Int → Int → D} (hf : ∀ i j H, Rep X.prog X.w X.K H (f i j) (g i j)) : Lift2 X (rI0 g) (dInt0 f) := by
  intro H M x y d e Q Q' m rx ry h k
  cases d with
  | int i =>
    cases e with
    | int j => cases (show x = .int i from rx); cases (show y = .int j from ry); exact ⟨i, j, rfl, rfl, k _ H _ M (hf i j H) m .refl h⟩
    | _ => exact h.elim
  | _ => exact h.elim
/-- * -/
def rMulR (K : PySem.W.Frag) : R2 := fun x y H Q => rI CMul (fun i j => .int (i * j)) x y H Q ∨ (rRepA K x y H Q ∨ rRep x y H Q)
theorem op_mulR : OpR X (binaryOp .Mult) (rMulR X.K) := op_mul.or (op_repA.or op_rep)
def dMul : W2 := fun x y M Q => match x with
  | .int i => match y with
    | .int j => CMul i j ∧ Q (.int (i * j)) M
    | _ => False
  | .tup ds => match y with
    | .int k => ds.length ≤ 1000 ∧ -1000 ≤ k ∧ k ≤ 1000 ∧ Q (.tup (List.replicate k.toNat ds).flatten) M
    | _ => False
  | .ref a => match y with
    | .int k => ∃ xs, M a = some (.lst xs) ∧ -1000 ≤ k ∧ k ≤ 1000 ∧ xs.length * k.toNat ≤ sizeLine ∧ ∀ p, M p = none → Q (.ref p) (mset M p (.lst (List.replicate k.toNat xs).flatten))
    | _ => False
  | _ => False
theorem lift_mul : Lift2 X (rMulR X.K) dMul := by
  intro H M x y d e Q Q' m rx ry h k
  cases d with
  | int i =>
    cases e with
    | int j => cases (show x = .int i from rx); cases (show y = .int j from ry); exact .inl ⟨i, j, rfl, rfl, h.1, k _ H (.int (i * j)) M rfl m .refl h.2⟩
    | _ => exact h.elim
  | tup ds =>
    cases e with
    | int j =>
      obtain ⟨a, vs, rfl, s, rs⟩ := rx
      cases (show y = .int j from ry)
      obtain ⟨h1, h2, h3, q⟩ := h
      have l := rs.length
      refine .inr (.inl ⟨a, j, vs, rfl, rfl, s, h3, h2, by omega, fun c => ?_, fun ne c p np => ?_, fun ne c p np => ?_⟩)
      · have e : (List.replicate j.toNat ds).flatten = ds := by
          rcases c with c | c
          · subst c
            have e' : ds = [] := List.eq_nil_of_length_eq_zero l
            rw [e']; simp
          · subst c; simp
        rw [e] at q
        exact k _ H (.tup ds) M ⟨a, vs, rfl, s, rs⟩ m .refl q
      · have e : j.toNat = 0 := by omega
        rw [e] at q
        obtain ⟨m', k'⟩ := m.allocT (o := .tup []) np
        exact k _ _ (.tup []) M ⟨p, [], rfl, .of upd_same, rfl⟩ m' k' q
      · obtain ⟨m', k'⟩ := m.allocT (o := .tup (List.replicate j.toNat vs).flatten) np
        exact k _ _ (.tup (List.replicate j.toNat ds).flatten) M ⟨p, _, rfl, .of upd_same, (Reps.keep (tkeep_new np) _ _ rs).flat _⟩ m' k' q
    | _ => exact h.elim
  | ref a =>
    cases e with
    | int j =>
      cases (show x = .ref a from rx); cases (show y = .int j from ry)
      obtain ⟨xs, e1, h1, h2, hz, q⟩ := h
      obtain ⟨vs, hh, r1⟩ := m.lst e1
      have l := r1.length
      refine .inr (.inr ⟨a, j, vs, rfl, rfl, hh, by omega, by omega, by rw [← l]; exact hz, fun p np => ?_⟩)
      obtain ⟨m', k', n⟩ := m.alloc (o := .lst (List.replicate j.toNat vs).flatten) (mo := .lst (List.replicate j.toNat xs).flatten) np fun t => ⟨_, upd_same, (Reps.keep t _ _ r1).flat _⟩
      exact k _ _ (.ref p) _ rfl m' k' (q p n)
    | _ => exact h.elim
  | _ => exact h.elim

/-! ### comparisons -/
def rEqR (K : PySem.W.Frag) : R2 := fun x y H Q => rEq x y H Q ∨ rEqD K x y H Q
def rNeR (K : PySem.W.Frag) : R2 := fun x y H Q => rNe x y H Q ∨ rNeD K x y H Q
theorem op_eqR (hu : X.A.units + 64 < cLine) : OpR X (compareOp .Eq) (rEqR X.K) := op_eq.or (op_eqD hu)
theorem op_neR (hu : X.A.units + 64 < cLine) : OpR X (compareOp .NotEq) (rNeR X.K) := op_ne.or (op_neD hu)
theorem scEq_v {d e : D} {x y : V} {H : Hp} {b : Bool} (rx : Rep X.prog X.w X.K H d x) (ry : Rep X.prog X.w X.K H e y) (h : scEq d e = some b) : scal x y = true ∧ decide (x = y) = b := by
  cases d <;> cases e <;> simp [scEq] at h
  · cases (show x = _ from rx); cases (show y = _ from ry); exact ⟨rfl, by rw [← h, Bool.eq_iff_iff]; simp⟩
  · cases (show x = _ from rx); cases (show y = _ from ry); exact ⟨rfl, by rw [← h, Bool.eq_iff_iff]; simp⟩
  · cases (show x = _ from rx); cases (show y = _ from ry); exact ⟨rfl, by rw [← h, Bool.eq_iff_iff]; simp⟩
theorem lift_eq : Lift2 X (rEqR X.K) (dEq id) := by
  intro H M x y d e Q Q' m rx ry h k
  unfold dEq at h
  cases c : scEq d e with
  | some b =>
    rw [c] at h
    obtain ⟨h1, h2⟩ := scEq_v rx ry c
    exact .inl ⟨h1, k _ H (.bl b) M (by rw [h2]; rfl) m .refl h⟩
  | none =>
    rw [c] at h
    obtain ⟨b, ⟨p, q, e1, e2, s1, s2, e3⟩, h⟩ := h
    exact .inr ⟨p, q, Rep.dp _ _ _ e1 rx, Rep.dp _ _ _ e2 ry, s1, s2, k _ H (.bl b) M (by rw [e3]; rfl) m .refl h⟩
theorem lift_ne : Lift2 X (rNeR X.K) (dEq not) := by
  intro H M x y d e Q Q' m rx ry h k
  unfold dEq at h
  cases c : scEq d e with
  | some b =>
    rw [c] at h
    obtain ⟨h1, h2⟩ := scEq_v rx ry c
    exact .inl ⟨h1, k _ H (.bl (!b)) M (by rw [h2]; rfl) m .refl h⟩
  | none =>
    rw [c] at h
    obtain ⟨b, ⟨p, q, e1, e2, s1, s2, e3⟩, h⟩ := h
    exact .inr ⟨p, q, Rep.dp _ _ _ e1 rx, Rep.dp _ _ _ e2 ry, s1, s2, k _ H (.bl (!b)) M (by rw [e3]; rfl) m .refl h⟩
/-- is None, is of bools -/
def rIsR : R2 := fun x y H Q => (y = .non ∧ Q (.bl (decide (x = .non))) H) ∨ rIsB x y H Q
def rNotR : R2 := fun x y H Q => (y = .non ∧ Q (.bl (!decide (x = .non))) H) ∨ rNotB x y H Q
theorem op_isR : OpR X (compareOp .Is) rIsR := op_isN.or op_isBl
theorem op_notR : OpR X (compareOp .IsNot) rNotR := op_notN.or op_notBl
def isN : D → Bool
  | .non => true
  | _ => false
def dIs (f : Bool → Bool) : W2 := fun x y M Q => match y with
  | .non => Q (.bl (f (isN x))) M
  | .bl b => match x with
    | .bl a => Q (.bl (f (decide (a = b)))) M
    | _ => False
  | _ => False
theorem isN_v {d : D} {x : V} {H : Hp} (r : Rep X.prog X.w X.K H d x) : decide (x = .non) = isN d := by
  cases d with
  | tup ds => obtain ⟨a, vs, rfl, _⟩ := r; rfl
  | fl ds => obtain ⟨a, vs, rfl, _⟩ := r; rfl
  | fd ks ds => obtain ⟨a, t, kus, us, rfl, _⟩ := r; rfl
  | _ => rw [show x = _ from r]; rfl
theorem lift_is : Lift2 X rIsR (dIs id) := by
  intro H M x y d e Q Q' m rx ry h k
  cases e with
  | non => cases (show y = _ from ry); exact .inl ⟨rfl, k _ H (.bl (isN d)) M (by rw [isN_v rx]; rfl) m .refl h⟩
  | bl b =>
    cases d with
    | bl a => cases (show x = _ from rx); cases (show y = _ from ry); exact .inr ⟨a, b, rfl, rfl, k _ H (.bl (decide (a = b))) M rfl m .refl h⟩
    | _ => exact h.elim
  | _ => exact h.elim
theorem lift_not : Lift2 X rNotR (dIs not) := by
  intro H M x y d e Q Q' m rx ry h k
  cases e with
  | non => cases (show y = _ from ry); exact .inl ⟨rfl, k _ H (.bl (!isN d)) M (by rw [isN_v rx]; rfl) m .refl h⟩
  | bl b =>
    cases d with
    | bl a => cases (show x = _ from rx); cases (show y = _ from ry); exact .inr ⟨a, b, rfl, rfl, k _ H (.bl (!decide (a = b))) M rfl m .refl h⟩
    | _ => exact h.elim
  | _ => exact h.elim
/-- < of ints and texts; <= .. of ints -/
def rLtR : R2 := fun x y H Q => rI0 (fun i j => .bl (decide (i < j))) x y H Q ∨ (∃ i j, x = .str i ∧ y = .str j ∧ Q (.bl (decide (i.cps.toList < j.cps.toList))) H)
theorem op_ltR : OpR X (compareOp .Lt) rLtR := op_lt.or op_lt_str
def dLt : W2 := fun x y M Q => match x with
  | .int i => match y with
    | .int j => Q (.bl (decide (i < j))) M
    | _ => False
  | .str i => match y with
    | .str j => Q (.bl (decide (i.cps.toList < j.cps.toList))) M
    | _ => False
  | _ => False
theorem lift_lt : Lift2 X rLtR dLt := by
  intro H M x y d e Q Q' m rx ry h k
  cases d with
  | int i =>
    cases e with
    | int j => cases (show x = .int i from rx); cases (show y = .int j from ry); exact .inl ⟨i, j, rfl, rfl, k _ H (.bl _) M rfl m .refl h⟩
    | _ => exact h.elim
  | str i =>
    cases e with
    | str j => cases (show x = .str i from rx); cases (show y = .str j from ry); exact .inr ⟨i, j, rfl, rfl, k _ H (.bl _) M rfl m .refl h⟩
    | _ => exact h.elim
  | _ => exact h.elim

/-! ### subscripts -/
def lIx (X : Cx) (r : R2) (g : W2) : Prop := Lift2 X r g
theorem de_ix {a b : Expr} {pos : Pos} {r : R2} {g : W2} {wa wb : WE} (hr : IxR X r) (l : Lift2 X r g) (ha : DEx X a wa) (hb : DEx X b wb) (hs : PlainIx b) : DEx X (.Subscript a b pos) (wBin g wa wb) := pe_imp (pe_ix hr ha hb hs) (lift_bin l)
theorem Reps.atI {P : Program} {w : World} {K : PySem.W.Frag} {H : Hp} {ds : List D} {vs : List V} {i : Int} {d : D} (r : Reps P w K H ds vs) (h : L2.atI ds i = some d) : ∃ v, L2.atI vs i = some v ∧ Rep P w K H d v := by
  unfold L2.atI at h ⊢
  rw [r.length] at h
  obtain ⟨j, e1, e2⟩ := Option.bind_eq_some_iff.mp h
  obtain ⟨v, h1, h2⟩ := r.get e2
  exact ⟨v, by rw [e1]; exact h1, h2⟩
/-- t[i], xs[i], s[i], in bounds -/
def dIx : W2 := fun x y M Q => match y with
  | .int i => match x with
    | .tup ds => ∃ d, L2.atI ds i = some d ∧ Q d M
    | .str z => z.length ≤ sizeLine ∧ ∃ c, L2.atI z.cps.toList i = some c ∧ Q (.str ⟨#[c]⟩) M
    | .ref a => match M a with
      | some (.lst ds) => ∃ d, L2.atI ds i = some d ∧ Q d M
      | _ => False
    | .fl ds => ∃ d, L2.atI ds i = some d ∧ Q d M
    | _ => False
  | _ => False
theorem lift_ix : Lift2 X (rIx X.K) dIx := by
  intro H M x y d e Q Q' m rx ry h k
  cases e with
  | int i =>
    cases (show y = .int i from ry)
    cases d with
    | tup ds =>
      obtain ⟨a, vs, rfl, s, rs⟩ := rx
      obtain ⟨d, e, q⟩ := h
      obtain ⟨v, e', r⟩ := rs.atI e
      exact .inr (.inl ⟨a, vs, i, v, rfl, rfl, s, e', k v H d M r m .refl q⟩)
    | str z =>
      cases (show x = .str z from rx)
      obtain ⟨hz, c, e, q⟩ := h
      exact .inr (.inr ⟨z, i, c, rfl, rfl, hz, e, k _ H (.str ⟨#[c]⟩) M rfl m .refl q⟩)
    | ref a =>
      cases (show x = .ref a from rx)
      unfold dIx at h
      simp only at h
      cases c : M a with
      | none => rw [c] at h; exact h.elim
      | some mo =>
        rw [c] at h
        cases mo with
        | lst ds =>
          obtain ⟨d, e, q⟩ := h
          obtain ⟨vs, hh, rs⟩ := m a _ c
          obtain ⟨v, e', r⟩ := rs.atI e
          exact .inl ⟨a, vs, i, v, rfl, rfl, .of hh, e', k v H d M r m .refl q⟩
        | dict _ _ => exact h.elim
        | ins _ _ => exact h.elim
    | fl ds =>
      obtain ⟨a, vs, rfl, f, rs⟩ := rx
      obtain ⟨d, e, q⟩ := h
      obtain ⟨v, e', r⟩ := rs.atI e
      exact .inl ⟨a, vs, i, v, rfl, rfl, f.sql, e', k v H d M r m .refl q⟩
    | _ => exact h.elim
  | _ => exact h.elim

/-! ### slices -/
def cutD (xs : List D) (lo hi : Option Int) : List D := (xs.drop (HT.sIx xs.length 0 lo)).take (HT.sIx xs.length xs.length hi - HT.sIx xs.length 0 lo)
theorem Reps.cut {P : Program} {w : World} {K : PySem.W.Frag} {H : Hp} {ds : List D} {vs : List V} (r : Reps P w K H ds vs) (lo hi : Option Int) : Reps P w K H (cutD ds lo hi) (cutV vs lo hi) := by
  unfold cutD cutV
  rw [r.length]
  exact (r.drop _).take _
abbrev WO := Env → Mem → (Option Int → Mem → Prop) → Prop
def wNoPart : WO := fun _ M Q => Q none M
def wPart (w : WE) : WO := fun ρ M Q => w ρ M fun d M1 => ∃ i, d = .int i ∧ Q (some i) M1
def lO (X : Cx) (w : WO) : TO := fun σ H Q => ∃ ρ M Q', Rl X σ H ρ M ∧ w ρ M Q' ∧ ∀ o H' M', MRel X.prog X.w X.K H' M' → Keep H M H' M' → Q' o M' → Q o H'
abbrev DO (X : Cx) (e : Option Expr) (w : WO) : Prop := PO X e (lO X w)
theorem po_imp {e : Option Expr} {t t' : TO} (h : PO X e t) (i : ∀ σ H Q, t' σ H Q → t σ H Q) : PO X e t' := ⟨fun pins s σ H Q I q => h.run pins s σ H Q I (i _ _ _ q)⟩
theorem do_none : DO X none wNoPart := po_imp po_none fun σ H Q ⟨ρ, M, Q', R, q, k⟩ => k none H M R.mem .refl q
theorem do_some {e : Expr} {w : WE} (h : DEx X e w) : DO X (some e) (wPart w) := po_imp (po_some h) fun σ H Q ⟨ρ, M, Q', R, q, k⟩ => ⟨ρ, M, _, R, q, fun v H1 d M1 r1 m1 k1 ⟨i, e, q1⟩ => by
  subst e
  exact ⟨i, r1, k (some i) H1 M1 m1 k1 q1⟩⟩
def dSl (x : D) (lo hi : Option Int) (M : Mem) (Q : DK) : Prop := match x with
  | .tup ds => Q (.tup (cutD ds lo hi)) M
  | .str z => z.length ≤ sizeLine ∧ Q (.str (cutS z lo hi)) M
  | .ref a => match M a with
    | some (.lst ds) => Q (.fl (cutD ds lo hi)) M
    | _ => False
  | .fl ds => Q (.fl (cutD ds lo hi)) M
  | _ => False
def wSl (we : WE) (wl wh : WO) : WE := fun ρ M Q => we ρ M fun d M1 => wl ρ M1 fun l M2 => wh ρ M2 fun u M3 => dSl d l u M3 Q
def rSlR (K : PySem.W.Frag) : V → Option Int → Option Int → Hp → VK → Prop := fun x lo hi H Q => rSlA K x lo hi H Q ∨ ((rSlL K x lo hi H fun v H1 => Q v H1 ∨ FQ v H1 Q) ∨ ∃ z, x = .str z ∧ z.length ≤ sizeLine ∧ Q (.str (cutS z lo hi)) H)
theorem sl_frz {r : V → Option Int → Option Int → Hp → VK → Prop} (h : SlR X r) : SlR X fun x lo hi H Q => r x lo hi H fun v H1 => Q v H1 ∨ FQ v H1 Q := by
  intro pins s σ H x v vl vu lo hi sl Q I rx hs pl pu q
  obtain ⟨T, f, h1, h2, h3⟩ := h pins s σ H x v vl vu lo hi sl _ I rx hs pl pu q
  refine ⟨T, f, h1, h2, wpAny_mono h3 (fun u s' ⟨v, H', I', r, q⟩ => ?_) fun _ _ z => z⟩
  rcases q with q | ⟨p, x, e1, e2, mu, q⟩
  · exact ⟨v, H', I', r, q⟩
  · obtain ⟨o, I2⟩ := I'.lock e2 mu
    exact ⟨v, _, I2, r, q o⟩
theorem sl_allR : SlR X (rSlR X.K) := sl_tupA.or ((sl_frz sl_list).or sl_str)
theorem cutD_whole {ds : List D} {lo hi : Option Int} (h : HT.sIx ds.length 0 lo = 0 ∧ HT.sIx ds.length ds.length hi = ds.length) : cutD ds lo hi = ds := by
  unfold cutD
  rw [h.1, h.2, List.drop_zero, Nat.sub_zero, List.take_length]
theorem lift_sl {H : Hp} {M : Mem} {x : V} {d : D} {lo hi : Option Int} {Q : VK} {Q' : DK} (m : MRel X.prog X.w X.K H M) (rx : Rep X.prog X.w X.K H d x) (h : dSl d lo hi M Q') (k : ∀ v H' d' M', Rep X.prog X.w X.K H' d' v → MRel X.prog X.w X.K H' M' → Keep H M H' M' → Q' d' M' → Q v H') : rSlR X.K x lo hi H Q := by
  cases d with
  | tup ds =>
    obtain ⟨a, vs, rfl, s, rs⟩ := rx
    have l := rs.length
    refine .inl ⟨a, vs, rfl, s, fun c => ?_, fun c p np => ?_⟩
    · rw [← l] at c
      have q : Q' (.tup ds) M := by
        have q : Q' (.tup (cutD ds lo hi)) M := h
        rw [cutD_whole c] at q
        exact q
      exact k _ H (.tup ds) M ⟨a, vs, rfl, s, rs⟩ m .refl q
    · obtain ⟨m', k'⟩ := m.allocT (o := .tup (cutV vs lo hi)) np
      exact k _ _ (.tup (cutD ds lo hi)) M ⟨p, _, rfl, .of upd_same, (Reps.keep (tkeep_new np) _ _ rs).cut lo hi⟩ m' k' h
  | str z => cases (show x = .str z from rx); exact .inr (.inr ⟨z, rfl, h.1, k _ H (.str (cutS z lo hi)) M rfl m .refl h.2⟩)
  | ref a =>
    cases (show x = .ref a from rx)
    unfold dSl at h
    simp only at h
    cases c : M a with
    | none => rw [c] at h; exact h.elim
    | some mo =>
      rw [c] at h
      cases mo with
      | lst ds =>
        obtain ⟨vs, hh, rs⟩ := m a _ c
        exact .inr (.inl ⟨a, vs, rfl, .of hh, fun p np => .inr (m.newZ np (rs.cut lo hi) h k)⟩)
      | dict _ _ => exact h.elim
      | ins _ _ => exact h.elim
  | fl ds =>
    obtain ⟨a, vs, rfl, f, rs⟩ := rx
    exact .inr (.inl ⟨a, vs, rfl, f.sql, fun p np => .inr (m.newZ np (rs.cut lo hi) h k)⟩)
  | _ => exact h.elim
theorem de_slice {e : Expr} {lo hi : Option Expr} {p2 pos : Pos} {we : WE} {wl wh : WO} (he : DEx X e we) (hl : DO X lo wl) (hh : DO X hi wh) : DEx X (.Subscript e (.Slice lo hi none p2) pos) (wSl we wl wh) :=
  pe_imp (pe_slice sl_allR he hl hh) fun σ H Q ⟨ρ, M, Q', R, q, k⟩ =>
    ⟨ρ, M, _, R, q, fun x H1 d M1 r1 m1 k1 q1 => ⟨ρ, M1, _, R.next m1 k1, q1, fun lo H2 M2 m2 k2 q2 => ⟨ρ, M2, _, (R.next m1 k1).next m2 k2, q2, fun hi H3 M3 m3 k3 q3 =>
      lift_sl m3 (Rep.keep ((k2.trans k3).tup m1) _ _ r1) q3 fun v H4 d4 M4 r4 m4 k4 q4 => k v H4 d4 M4 r4 m4 (k1.trans (k2.trans (k3.trans k4))) q4⟩⟩⟩

/-! ### arguments, displays -/
def wNil : WA := fun _ M Q => Q [] M
def wCons (we : WE) (wr : WA) : WA := fun ρ M Q => we ρ M fun d M1 => wr ρ M1 fun ds M2 => Q (d :: ds) M2
theorem da_nil : DAr X [] wNil := pa_imp pa_nil fun σ H Q ⟨ρ, M, Q', R, q, k⟩ => k [] H [] M rfl R.mem .refl q
theorem da_cons {e : Expr} {es : List Expr} {we : WE} {wr : WA} (he : DEx X e we) (hr : DAr X es wr) (hs : starEach (e :: es) X.env = (false, eval e X.env) :: starEach es X.env) : DAr X (e :: es) (wCons we wr) :=
  pa_imp (pa_cons he hr hs) fun σ H Q ⟨ρ, M, Q', R, q, k⟩ => ⟨ρ, M, _, R, q, fun v H1 d M1 r1 m1 k1 q1 => ⟨ρ, M1, _, R.next m1 k1, q1, fun vs H2 ds M2 r2 m2 k2 q2 => k (v :: vs) H2 (d :: ds) M2 (.cons (Rep.keep (k2.tup m1) _ _ r1) r2) m2 (k1.trans k2) q2⟩⟩
def wTup (w : WA) : WE := fun ρ M Q => w ρ M fun ds M1 => ds.length ≤ sizeLine ∧ Q (.tup ds) M1
def wLst (w : WA) : WE := fun ρ M Q => w ρ M fun ds M1 => ds.length ≤ sizeLine ∧ ∀ p, M1 p = none → Q (.ref p) (mset M1 p (.lst ds))
theorem de_tup {es : List Expr} {x1 : Nat} {pos : Pos} {w : WA} (h : DAr X es w) : DEx X (.Tuple es x1 pos) (wTup w) := pe_imp (pe_tup h) fun σ H Q ⟨ρ, M, Q', R, q, k⟩ => ⟨ρ, M, _, R, q, fun vs H1 ds M1 r1 m1 k1 ⟨hz, q1⟩ => ⟨by rw [← r1.length]; exact hz, fun p np => by
  obtain ⟨m', k'⟩ := m1.allocT (o := .tup vs) np
  exact k _ _ (.tup ds) M1 ⟨p, vs, rfl, .of upd_same, Reps.keep (tkeep_new np) _ _ r1⟩ m' (k1.trans k') q1⟩⟩
theorem de_lst {es : List Expr} {pos : Pos} {w : WA} (h : DAr X es w) : DEx X (.List es pos) (wLst w) := pe_imp (pe_lst h) fun σ H Q ⟨ρ, M, Q', R, q, k⟩ => ⟨ρ, M, _, R, q, fun vs H1 ds M1 r1 m1 k1 ⟨hz, q1⟩ => ⟨by rw [← r1.length]; exact hz, fun p np => by
  obtain ⟨m', k', n⟩ := m1.alloc (o := .lst vs) (mo := .lst ds) np fun t => ⟨_, upd_same, Reps.keep t _ _ r1⟩
  exact k _ _ (.ref p) _ rfl m' (k1.trans k') (q1 p n)⟩⟩

/-- a list that is not changed -/
def wFl (w : WA) : WE := fun ρ M Q => w ρ M fun ds M1 => ds.length ≤ sizeLine ∧ Q (.fl ds) M1
theorem de_fl {es : List Expr} {pos : Pos} {w : WA} (h : DAr X es w) : DEx X (.List es pos) (wFl w) := pe_imp (pe_frz (pe_lst h)) fun σ H Q ⟨ρ, M, Q', R, q, k⟩ => ⟨ρ, M, _, R, q, fun vs H1 ds M1 r1 m1 k1 ⟨hz, q1⟩ => ⟨by rw [← r1.length]; exact hz, fun p np =>
  .inr (m1.newZ np r1 q1 fun v H' d' M' r' m' k' q' => k v H' d' M' r' m' (k1.trans k') q')⟩⟩

/-! ### built-in functions, built-in methods by values -/
abbrev WL := List D → Mem → DK → Prop
def LiftL (X : Cx) (r : List V → Hp → VK → Prop) (g : WL) : Prop := ∀ H M xs ds Q (Q' : DK), MRel X.prog X.w X.K H M → Reps X.prog X.w X.K H ds xs → g ds M Q' → (∀ v H' d' M', Rep X.prog X.w X.K H' d' v → MRel X.prog X.w X.K H' M' → Keep H M H' M' → Q' d' M' → Q v H') → r xs H Q
def wCall (g : WL) (w : WA) : WE := fun ρ M Q => w ρ M fun ds M1 => g ds M1 Q
theorem lift_cb {r : List V → Hp → VK → Prop} {g : WL} {w : WA} (l : LiftL X r g) : ∀ σ H Q, lE X (wCall g w) σ H Q → tCB r (lA X w) σ H Q := fun σ H Q ⟨ρ, M, Q', R, q, k⟩ =>
  ⟨ρ, M, _, R, q, fun vs H1 ds M1 r1 m1 k1 q1 => l H1 M1 vs ds Q Q' m1 r1 q1 fun v H2 d2 M2 r2 m2 k2 q2 => k v H2 d2 M2 r2 m2 (k1.trans k2) q2⟩
abbrev WM := D → List D → Mem → DK → Prop
def LiftM (X : Cx) (r : V → List V → Hp → VK → Prop) (g : WM) : Prop := ∀ H M x xs d ds Q (Q' : DK), MRel X.prog X.w X.K H M → Rep X.prog X.w X.K H d x → Reps X.prog X.w X.K H ds xs → g d ds M Q' → (∀ v H' d' M', Rep X.prog X.w X.K H' d' v → MRel X.prog X.w X.K H' M' → Keep H M H' M' → Q' d' M' → Q v H') → r x xs H Q

/-! ### truth -/
theorem lift_tru {K : PySem.W.Frag} {P : Program} {w : World} {H : Hp} {M : Mem} {x : V} {d : D} {b : Bool} (m : MRel P w K H M) (r : Rep P w K H d x) (h : truD d M = some b) : TruV K x H b := by
  have eb : ∀ {ds : List D} {vs : List V}, Reps P w K H ds vs → (!ds.isEmpty) = (!vs.isEmpty) := fun {ds vs} r => by
    have l := r.length
    cases ds <;> cases vs <;> first | rfl | cases l
  cases d with
  | non => cases (show x = _ from r); cases h; rfl
  | bl b => cases (show x = _ from r); cases h; rfl
  | int i => cases (show x = _ from r); cases h; show decide (i ≠ 0) = (i != 0); rw [Bool.eq_iff_iff]; simp
  | str z =>
    cases (show x = _ from r)
    unfold truD at h
    simp only at h
    by_cases c : z.length ≤ sizeLine
    · rw [if_pos c] at h
      cases h
      refine ⟨c, ?_⟩
      rw [Bool.eq_iff_iff]; simp
    · rw [if_neg c] at h; cases h
  | tup ds =>
    obtain ⟨a, vs, rfl, s, rs⟩ := r
    cases h
    exact .inr (.inl ⟨vs, s, eb rs⟩)
  | ref a =>
    cases (show x = _ from r)
    unfold truD at h
    simp only at h
    cases c : M a with
    | none => rw [c] at h; cases h
    | some mo =>
      rw [c] at h
      cases mo with
      | lst ds => obtain ⟨vs, hh, rs⟩ := m a _ c; cases h; exact .inl ⟨vs, .of hh, eb rs⟩
      | dict _ _ => cases h
      | ins _ _ => cases h
  | fl ds => obtain ⟨a, vs, rfl, f, rs⟩ := r; cases h; exact .inl ⟨vs, f.sql, eb rs⟩
  | fd _ _ => cases h
/-- a value as a test, by its truth -/
def wTru (w : WE) : WT := fun ρ M Q => w ρ M fun d M1 => ∃ b, truD d M1 = some b ∧ Q b M1
theorem dt_tru {a : Expr} {w : WE} (h : DEx X a w) (he : ∀ whole, isTrue a X.env whole = (do let v ← whole; standAt a.pos; holding [v] (truthy v))) : DTs X a (wTru w) :=
  pt_imp (pt_truth h he) fun σ H Q ⟨ρ, M, Q', R, q, k⟩ => ⟨ρ, M, _, R, q, fun x H1 d M1 r1 m1 k1 ⟨b, e, q1⟩ => ⟨b, lift_tru m1 r1 e, k b H1 M1 m1 k1 q1⟩⟩
/-- not, and, or as values -/
def wNotV (w : WE) : WE := fun ρ M Q => w ρ M fun d M1 => ∃ b, truD d M1 = some b ∧ Q (.bl (!b)) M1
def wAndV (a b : WE) : WE := fun ρ M Q => a ρ M fun d M1 => ∃ c, truD d M1 = some c ∧ if c = true then b ρ M1 Q else Q d M1
def wOrV (a b : WE) : WE := fun ρ M Q => a ρ M fun d M1 => ∃ c, truD d M1 = some c ∧ if c = true then Q d M1 else b ρ M1 Q
theorem de_not {a : Expr} {pos : Pos} {w : WE} (h : DEx X a w) : DEx X (.UnaryOp .Not a pos) (wNotV w) := pe_imp (pe_notT h) fun σ H Q ⟨ρ, M, Q', R, q, k⟩ => ⟨ρ, M, _, R, q, fun x H1 d M1 r1 m1 k1 ⟨b, e, q1⟩ => ⟨b, lift_tru m1 r1 e, k _ H1 (.bl (!b)) M1 rfl m1 k1 q1⟩⟩
theorem de_one {op : BoolOp} {a : Expr} {pos : Pos} {w : WE} (h : DEx X a w) : DEx X (.BoolOp op [a] pos) w := pe_one h
theorem de_and {a b : Expr} {rest : List Expr} {pos : Pos} {wa wb : WE} (h : DEx X a wa) (hr : DEx X (.BoolOp .And (b :: rest) pos) wb) : DEx X (.BoolOp .And (a :: b :: rest) pos) (wAndV wa wb) :=
  pe_imp (pe_andT h hr) fun σ H Q ⟨ρ, M, Q', R, q, k⟩ => ⟨ρ, M, _, R, q, fun x H1 d M1 r1 m1 k1 ⟨b, e, q1⟩ => ⟨b, lift_tru m1 r1 e, by
    cases b with
    | true => rw [if_pos rfl] at q1 ⊢; exact ⟨ρ, M1, Q', R.next m1 k1, q1, fun v H2 d M2 r2 m2 k2 q2 => k v H2 d M2 r2 m2 (k1.trans k2) q2⟩
    | false => rw [if_neg Bool.false_ne_true] at q1 ⊢; exact k x H1 d M1 r1 m1 k1 q1⟩⟩
theorem de_or {a b : Expr} {rest : List Expr} {pos : Pos} {wa wb : WE} (h : DEx X a wa) (hr : DEx X (.BoolOp .Or (b :: rest) pos) wb) : DEx X (.BoolOp .Or (a :: b :: rest) pos) (wOrV wa wb) :=
  pe_imp (pe_orT h hr) fun σ H Q ⟨ρ, M, Q', R, q, k⟩ => ⟨ρ, M, _, R, q, fun x H1 d M1 r1 m1 k1 ⟨b, e, q1⟩ => ⟨b, lift_tru m1 r1 e, by
    cases b with
    | false => rw [if_neg Bool.false_ne_true] at q1 ⊢; exact ⟨ρ, M1, Q', R.next m1 k1, q1, fun v H2 d M2 r2 m2 k2 q2 => k v H2 d M2 r2 m2 (k1.trans k2) q2⟩
    | true => rw [if_pos rfl] at q1 ⊢; exact k x H1 d M1 r1 m1 k1 q1⟩⟩
/-- chains of two comparisons -/
def wChain (g g' : W2) (wa wb wc : WE) : WE := fun ρ M Q => wa ρ M fun d M1 => wb ρ M1 fun e M2 => g d e M2 fun z M3 => ∃ b, z = .bl b ∧ (if b = true then wc ρ M3 fun f M4 => g' e f M4 Q else Q (.bl false) M3)
theorem lift_chain {r r' : R2} {g g' : W2} {wa wb wc : WE} (l : Lift2 X r g) (l' : Lift2 X r' g') : ∀ σ H Q, lE X (wChain g g' wa wb wc) σ H Q → tChain r r' (lE X wa) (lE X wb) (lE X wc) σ H Q := fun σ H Q ⟨ρ, M, Q', R, q, k⟩ =>
  ⟨ρ, M, _, R, q, fun x H1 d M1 r1 m1 k1 q1 => ⟨ρ, M1, _, R.next m1 k1, q1, fun y H2 e M2 r2 m2 k2 q2 =>
    l H2 M2 x y d e _ _ m2 (Rep.keep (k2.tup m1) _ _ r1) r2 q2 fun v H3 d3 M3 r3 m3 k3 ⟨b, e3, q3⟩ => by
      subst e3
      cases (show v = .bl b from r3)
      refine ⟨b, rfl, ?_⟩
      cases b with
      | false => rw [if_neg Bool.false_ne_true] at q3 ⊢; exact k _ H3 (.bl false) M3 rfl m3 (k1.trans (k2.trans k3)) q3
      | true =>
        rw [if_pos rfl] at q3 ⊢
        exact ⟨ρ, M3, _, ((R.next m1 k1).next m2 k2).next m3 k3, q3, fun z H4 f M4 r4 m4 k4 q4 =>
          l' H4 M4 y z e f Q Q' m4 (Rep.keep ((k3.trans k4).tup m2) _ _ r2) r4 q4 fun v5 H5 d5 M5 r5 m5 k5 q5 => k v5 H5 d5 M5 r5 m5 (k1.trans (k2.trans (k3.trans (k4.trans k5)))) q5⟩⟩⟩
theorem de_chain {a b c : Expr} {op op' : CmpOp} {pos : Pos} {r r' : R2} {g g' : W2} {wa wb wc : WE} (ho : OpR X (compareOp op) r) (ho' : OpR X (compareOp op') r') (l : Lift2 X r g) (l' : Lift2 X r' g') (ha : DEx X a wa) (hb : DEx X b wb) (hc : DEx X c wc) (hm : lastMarks [op, op'] [b, c] = false) :
    DEx X (.Compare a [op, op'] [b, c] pos) (wChain g g' wa wb wc) := pe_imp (pe_chain ho ho' ha hb hc hm) (lift_chain l l')
theorem dt_chain {a b c : Expr} {op op' : CmpOp} {pos : Pos} {r r' : R2} {g g' : W2} {wa wb wc : WE} (ho : OpR X (compareOp op) r) (ho' : OpR X (compareOp op') r') (l : Lift2 X r g) (l' : Lift2 X r' g') (ha : DEx X a wa) (hb : DEx X b wb) (hc : DEx X c wc) (hm : lastMarks [op, op'] [b, c] = false) :
    DTs X (.Compare a [op, op'] [b, c] pos) (wB (wChain g g' wa wb wc)) := pt_imp (pt_chain ho ho' ha hb hc hm) (lift_tt (lift_chain l l'))
/-- - -/
def wNeg (w : WE) : WE := fun ρ M Q => w ρ M fun d M1 => ∃ i, d = .int i ∧ Q (.int (-i)) M1
theorem de_neg {a : Expr} {pos : Pos} {w : WE} (h : DEx X a w) : DEx X (.UnaryOp .USub a pos) (wNeg w) := pe_imp (pe_un un_neg h) fun σ H Q ⟨ρ, M, Q', R, q, k⟩ => ⟨ρ, M, _, R, q, fun x H1 d M1 r1 m1 k1 ⟨i, e, q1⟩ => by
  subst e
  exact ⟨i, r1, k _ H1 (.int (-i)) M1 rfl m1 k1 q1⟩⟩
end
end Fw

set_option Elab.async false
set_option linter.all false
set_option maxRecDepth 100000
set_option maxHeartbeats 4000000
/-! FwDict: dicts over data -/
namespace Fw
open PySem PySem.Spec PyProof.Rows L2

/-! ### keyed tables -/
section
variable {κ : Type} [DecidableEq κ] {kd : D → Option κ} {R : D → Value → Prop}
theorem val_rel (inj : ∀ a b k, kd a = some k → kd b = some k → a = b) {d : D} {k : κ} (hk : kd d = some k) : ∀ {kvs : List (D × D)} {vs : List (κ × Value)}, Paired (fun (p : D × D) (q : κ × Value) => kd p.1 = some q.1 ∧ R p.2 q.2) kvs vs →
    (valD kvs d = none ∧ valueAt vs k = none) ∨ ∃ e u, valD kvs d = some e ∧ valueAt vs k = some u ∧ R e u := by
  intro kvs vs r
  induction r with
  | nil => exact .inl ⟨rfl, rfl⟩
  | @cons p q ps qs h t ih =>
    obtain ⟨h1, h2⟩ := h
    by_cases e : q.1 = k
    · have e' : p.1 = d := inj _ _ k (by rw [h1, e]) hk
      exact .inr ⟨p.2, q.2, by simp [valD, List.find?_cons, e'], by simp [valueAt, List.find?_cons, e], h2⟩
    · have e' : ¬ p.1 = d := fun z => e (by rw [z, hk] at h1; exact (Option.some.inj h1).symm)
      have a1 : valD (p :: ps) d = valD ps d := by simp [valD, List.find?_cons, e']
      have a2 : valueAt (q :: qs) k = valueAt qs k := by simp [valueAt, List.find?_cons, e]
      rw [a1, a2]; exact ih
theorem any_rel (inj : ∀ a b k, kd a = some k → kd b = some k → a = b) {d : D} {k : κ} (hk : kd d = some k) : ∀ {kvs : List (D × D)} {vs : List (κ × Value)}, Paired (fun (p : D × D) (q : κ × Value) => kd p.1 = some q.1 ∧ R p.2 q.2) kvs vs →
    (kvs.any fun kv => decide (kv.1 = d)) = (vs.any fun kv => decide (kv.1 = k)) := by
  intro kvs vs r
  induction r with
  | nil => rfl
  | @cons p q ps qs h t ih =>
    obtain ⟨h1, h2⟩ := h
    rw [List.any_cons, List.any_cons, ih]
    congr 1
    rw [Bool.eq_iff_iff, decide_eq_true_iff, decide_eq_true_iff]
    exact ⟨fun z => by rw [z, hk] at h1; exact (Option.some.inj h1).symm, fun z => inj _ _ k (by rw [h1, z]) hk⟩
theorem put_rel (inj : ∀ a b k, kd a = some k → kd b = some k → a = b) {d e : D} {k : κ} {u : Value} (hk : kd d = some k) (he : R e u) {kvs : List (D × D)} {vs : List (κ × Value)} (r : Paired (fun (p : D × D) (q : κ × Value) => kd p.1 = some q.1 ∧ R p.2 q.2) kvs vs) :
    Paired (fun (p : D × D) (q : κ × Value) => kd p.1 = some q.1 ∧ R p.2 q.2) (putD kvs d e) (stored vs k u) := by
  unfold putD stored
  rw [any_rel inj hk r]
  by_cases c : (vs.any fun kv => decide (kv.1 = k)) = true
  · rw [if_pos c, if_pos c]
    clear c
    induction r with
    | nil => exact .nil
    | @cons p q ps qs h t ih =>
      obtain ⟨h1, h2⟩ := h
      rw [List.map_cons, List.map_cons]
      refine .cons ?_ ih
      by_cases z : q.1 = k
      · have z' : p.1 = d := inj _ _ k (by rw [h1, z]) hk
        rw [if_pos z, if_pos z']; exact ⟨h1, he⟩
      · have z' : ¬ p.1 = d := fun y => z (by rw [y, hk] at h1; exact (Option.some.inj h1).symm)
        rw [if_neg z, if_neg z']; exact ⟨h1, h2⟩
  · rw [if_neg c, if_neg c]; exact Paired.snoc r ⟨hk, he⟩
theorem drop_rel (inj : ∀ a b k, kd a = some k → kd b = some k → a = b) {d : D} {k : κ} (hk : kd d = some k) {kvs : List (D × D)} {vs : List (κ × Value)} (r : Paired (fun (p : D × D) (q : κ × Value) => kd p.1 = some q.1 ∧ R p.2 q.2) kvs vs) :
    Paired (fun (p : D × D) (q : κ × Value) => kd p.1 = some q.1 ∧ R p.2 q.2) (dropD kvs d) (without vs k) := by
  unfold dropD without
  induction r with
  | nil => exact .nil
  | @cons p q ps qs h t ih =>
    obtain ⟨h1, h2⟩ := h
    rw [List.filter_cons, List.filter_cons]
    by_cases z : q.1 = k
    · have z' : p.1 = d := inj _ _ k (by rw [h1, z]) hk
      have a : ¬ decide (p.1 ≠ d) = true := by simp [z']
      have b : ¬ decide (q.1 ≠ k) = true := by simp [z]
      rw [if_neg a, if_neg b]; exact ih
    · have z' : ¬ p.1 = d := fun y => z (by rw [y, hk] at h1; exact (Option.some.inj h1).symm)
      have a : decide (p.1 ≠ d) = true := by simp [z']
      have b : decide (q.1 ≠ k) = true := by simp [z]
      rw [if_pos a, if_pos b]; exact .cons ⟨h1, h2⟩ ih
end
theorem length_putD (kvs : List (D × D)) (k v : D) : (putD kvs k v).length ≤ kvs.length + 1 := by
  unfold putD
  split
  · rw [List.length_map]; omega
  · rw [List.length_append, List.length_cons, List.length_nil]; omega
theorem length_dropD (kvs : List (D × D)) (k : D) : (dropD kvs k).length ≤ kvs.length := List.length_filter_le _ _

/-- keys by value; keys that are tuples -/
def fkey (d : D) : Bool := d.flat?.isSome
def tkey : D → Bool
  | .tup ds => match D.nks ds with
    | some ks => decide ((NestedKey.tup ks).depth ≤ 8)
    | none => false
  | _ => false
/-- k may be asked of a dict with these entries -/
def keyOk (kvs : List (D × D)) (k : D) : Prop := (fkey k = true ∧ ∀ p ∈ kvs, fkey p.1 = true) ∨ (tkey k = true ∧ ∀ p ∈ kvs, tkey p.1 = true)
theorem tkey_some {d : D} (h : tkey d = true) : ∃ ds k, d = .tup ds ∧ d.nk = some k ∧ k.depth ≤ 8 := by
  cases d with
  | tup ds =>
    unfold tkey at h
    simp only at h
    cases c : D.nks ds with
    | none => rw [c] at h; cases h
    | some ks => rw [c] at h; exact ⟨ds, .tup ks, rfl, by rw [D.nk, c]; rfl, of_decide_eq_true h⟩
  | _ => cases h
theorem fkey_tkey {d : D} (h : fkey d = true) (h' : tkey d = true) : False := by
  obtain ⟨ds, k, rfl, _⟩ := tkey_some h'
  cases h

/-- the key as it stands in the heap -/
theorem rel_key {d : D} {k : Key} {v : V} {u : Value} {P : Program} {w : World} {K : PySem.W.Frag} {H : Hp} (h : d.flat? = some k) (r : Rep P w K H d v) (rv : RelV v u) : v = kV k := by
  cases d <;> simp [D.flat?] at h
  · subst h; exact r
  · subst h; exact r

section
variable {X : Cx} {pins : List (Addr × Obj)} {σ : L2.St} {H : Hp} {s : Shared} {M : Mem}
mutual
theorem nis (I : Inv X pins σ H s) : ∀ (d : D) (k : NestedKey) (v : V) (u : Value), d.nk = some k → Rep X.prog X.w X.K H d v → RelV v u → NestedIs s.heap k u
  | .non, k, v, u, e, r, rv => by
    simp [D.nk] at e; subst e
    cases (show v = .non from r); cases (show u = Value.none from rv); exact .none
  | .int i, k, v, u, e, r, rv => by
    simp [D.nk] at e; subst e
    cases (show v = .int i from r); obtain ⟨t, rfl⟩ := rv; exact .int i t
  | .str i, k, v, u, e, r, rv => by
    simp [D.nk] at e; subst e
    cases (show v = .str i from r); obtain ⟨t, rfl⟩ := rv; exact .text i t
  | .bl _, k, v, u, e, r, rv => by simp [D.nk] at e
  | .ref _, k, v, u, e, r, rv => by simp [D.nk] at e
  | .fl _, k, v, u, e, r, rv => by simp [D.nk] at e
  | .fd _ _, k, v, u, e, r, rv => by simp [D.nk] at e
  | .tup ds, k, v, u, e, r, rv => by
    simp only [D.nk, Option.map_eq_some_iff] at e
    obtain ⟨ks, e, rfl⟩ := e
    obtain ⟨a, vs, rfl, sq, rs⟩ := r
    cases (show u = Value.ref a from rv)
    obtain ⟨its, rv, ⟨o, ho, hc, n, hd⟩, _⟩ := I.tuple sq
    exact .tup ho hc hd (by simpa using niss I ds ks vs its e rs rv)
theorem niss (I : Inv X pins σ H s) : ∀ (ds : List D) (ks : List NestedKey) (vs : List V) (us : List Value), D.nks ds = some ks → Reps X.prog X.w X.K H ds vs → Vals vs us → NestedAll s.heap ks us
  | [], ks, vs, us, e, r, rv => by
    simp [D.nks] at e; subst e
    rw [show vs = [] from r] at rv; cases rv; exact .nil
  | d :: ds, ks, vs, us, e, r, rv => by
    obtain ⟨v, r', rfl, h1, h2⟩ := r
    rw [D.nks] at e
    split at e
    · rename_i k ks' e1 e2
      simp at e; subst e
      cases rv with
      | cons q1 q2 => exact .cons (nis I d k v _ e1 h1 q1) (niss I ds ks' r' _ e2 h2 q2)
    · simp at e
end

abbrev RVal (X : Cx) (H : Hp) : D → Value → Prop := fun d u => ∃ v, Rep X.prog X.w X.K H d v ∧ RelV v u
/-- a dict that may be read: one of the memory, a frozen one, one of the module's -/
structure RDict (X : Cx) (H : Hp) (a : Addr) (kvs : List (D × D)) (t : Tk) : Prop where
  raw : ∀ {pins : List (Addr × Obj)} {σ : L2.St} {s : Shared}, Inv X pins σ H s → ∃ o, s.heap.get? a = some o ∧ o.ExactDict ∧ o.data = .dict t.1 t.2
  ns : (a == sysModules) = false
  sz : kvs.length ≤ sizeLine
  en : EntF X.prog X.w X.K H kvs t.1 ∨ EntT X.prog X.w X.K H kvs t.1
theorem RDict.of {a : Addr} {kvs : List (D × D)} {t : Tk} (c : Cell X.prog X.w X.K H a (.dict kvs t)) : RDict X H a kvs t := ⟨fun I => (I.hok a _ c.1).1, c.2.1, c.2.2.1, c.2.2.2⟩
theorem RDict.ofF {a : Addr} {kvs : List (D × D)} {t : Tk} (c : FDict X.prog X.w X.K H a kvs t) : RDict X H a kvs t := ⟨fun I => by
  rcases c.fz with ⟨o, e⟩ | ⟨o, e, hx, hd⟩
  · exact (I.hok a _ e).2.1
  · exact ⟨o, I.kIn a o e, hx, hd⟩, c.ns, c.sz, c.en⟩
/-- the dict as the library tells it -/
theorem dict_f (I : Inv X pins σ H s) {a : Addr} {kvs : List (D × D)} {t : Tk} (c : RDict X H a kvs t) (e : EntF X.prog X.w X.K H kvs t.1) :
    ∃ vs : List (Key × Value), Paired (fun (p : D × D) (q : Key × Value) => p.1.flat? = some q.1 ∧ RVal X H p.2 q.2) kvs vs ∧ s.heap.DictOf (mixKind X.prog X.w) a vs ∧ vs.length ≤ sizeLine := by
  obtain ⟨vs, q, k1, k2, k3⟩ := e
  obtain ⟨o, ho, hx, hd⟩ := c.raw I
  exact ⟨vs, q, ⟨o, t.1, t.2, ho, hx, hd, k1, k2, k3⟩, by rw [← Paired.length q]; exact c.sz⟩
theorem dict_t (I : Inv X pins σ H s) {a : Addr} {kvs : List (D × D)} {t : Tk} (c : RDict X H a kvs t) (e : EntT X.prog X.w X.K H kvs t.1) :
    ∃ xs : List (NestedKey × Addr × Value), Paired (fun (p : D × D) (q : NestedKey × Addr × Value) => (p.1.nk = some q.1 ∧ q.1.depth ≤ 8 ∧ Rep X.prog X.w X.K H p.1 (.ref q.2.1) ∧ ∃ ds, p.1 = .tup ds) ∧ ∃ v, Rep X.prog X.w X.K H p.2 v ∧ RelV v q.2.2) kvs xs ∧ s.heap.DictOfH (nestedKind X.prog X.w) a xs ∧ xs.length ≤ sizeLine := by
  obtain ⟨xs, q, k1, k2⟩ := e
  obtain ⟨o, ho, hx, hd⟩ := c.raw I
  refine ⟨xs, q, ⟨o, t.1, t.2, ho, hx, hd, k1, ?_, k2⟩, by rw [← Paired.length q]; exact c.sz⟩
  have all : ∀ {l : List (D × D)} {m : List (NestedKey × Addr × Value)}, Paired (fun (p : D × D) (q : NestedKey × Addr × Value) => (p.1.nk = some q.1 ∧ q.1.depth ≤ 8 ∧ Rep X.prog X.w X.K H p.1 (.ref q.2.1) ∧ ∃ ds, p.1 = .tup ds) ∧ ∃ v, Rep X.prog X.w X.K H p.2 v ∧ RelV v q.2.2) l m → ∀ x ∈ m, (nestedKind X.prog X.w).is s.heap x.1 x.2.1 := by
    intro l m q
    induction q with
    | nil => intro x hx; exact nomatch hx
    | @cons p q ps qs hq t ih =>
      intro x hx
      rcases List.mem_cons.mp hx with e | hx
      · subst e
        exact ⟨nis I p.1 _ _ _ hq.1.1 hq.1.2.2.1 rfl, hq.1.2.1⟩
      · exact ih x hx
  exact all q
theorem pairs_t {kvs : List (D × D)} {xs : List (NestedKey × Addr × Value)} (q : Paired (fun (p : D × D) (q : NestedKey × Addr × Value) => (p.1.nk = some q.1 ∧ q.1.depth ≤ 8 ∧ Rep X.prog X.w X.K H p.1 (.ref q.2.1) ∧ ∃ ds, p.1 = .tup ds) ∧ ∃ v, Rep X.prog X.w X.K H p.2 v ∧ RelV v q.2.2) kvs xs) :
    Paired (fun (p : D × D) (q : NestedKey × Value) => p.1.nk = some q.1 ∧ RVal X H p.2 q.2) kvs (pairsH xs) := by
  induction q with
  | nil => exact .nil
  | cons h t ih => exact .cons ⟨h.1.1, h.2⟩ ih
/-- which way -/
theorem way {a : Addr} {kvs : List (D × D)} {t : Tk} {k : D} (c : RDict X H a kvs t) (ok : keyOk kvs k) :
    (∃ y, k.flat? = some y ∧ EntF X.prog X.w X.K H kvs t.1) ∨ (∃ ds y, k = .tup ds ∧ k.nk = some y ∧ y.depth ≤ 8 ∧ EntT X.prog X.w X.K H kvs t.1) := by
  have e := c.en
  rcases ok with ⟨f, all⟩ | ⟨f, all⟩
  · refine .inl ?_
    obtain ⟨y, hy⟩ := Option.isSome_iff_exists.mp f
    refine ⟨y, hy, ?_⟩
    rcases e with e | ⟨xs, q, k1, k2⟩
    · exact e
    · cases q with
      | nil =>
        have h0 : t.1 = #[] := by
          have : t.1.toList = [] := k1
          exact Array.toList_eq_nil_iff.mp this
        exact ⟨[], .nil, by rw [h0]; intro i hi; simp at hi, by rw [h0]; exact .nil, List.nodup_nil⟩
      | @cons p q ps qs h t' =>
        obtain ⟨ds, e⟩ := h.1.2.2.2
        have := all p List.mem_cons_self
        rw [e] at this
        cases this
  · refine .inr ?_
    obtain ⟨ds, y, rfl, hy, hd⟩ := tkey_some f
    refine ⟨ds, y, rfl, hy, hd, ?_⟩
    rcases e with ⟨vs, q, k1, k2, k3⟩ | e
    · cases q with
      | nil =>
        have h0 : t.1 = #[] := by
          cases c : t.1.toList with
          | nil => exact Array.toList_eq_nil_iff.mp c
          | cons x xs => rw [c] at k2; cases k2
        exact ⟨[], .nil, by rw [h0]; rfl, List.nodup_nil⟩
      | @cons p q ps qs h t' =>
        exact (fkey_tkey (d := p.1) (by unfold fkey; rw [h.1]; rfl) (all p List.mem_cons_self)).elim
    · exact e
end

/-! ### operations -/
def rOf2 (X : Cx) (g : W2) : R2 := fun x y H Q => ∃ (M : Mem) (d e : D) (Q' : DK), MRel X.prog X.w X.K H M ∧ Rep X.prog X.w X.K H d x ∧ Rep X.prog X.w X.K H e y ∧ g d e M Q' ∧ ∀ v H' d' M', Rep X.prog X.w X.K H' d' v → MRel X.prog X.w X.K H' M' → Keep H M H' M' → Q' d' M' → Q v H'
theorem lift_of2 {X : Cx} {g : W2} : Lift2 X (rOf2 X g) g := fun H M x y d e Q Q' m rx ry h k => ⟨M, d, e, Q', m, rx, ry, h, k⟩
def rOfL (X : Cx) (g : WL) : List V → Hp → VK → Prop := fun xs H Q => ∃ (M : Mem) (ds : List D) (Q' : DK), MRel X.prog X.w X.K H M ∧ Reps X.prog X.w X.K H ds xs ∧ g ds M Q' ∧ ∀ v H' d' M', Rep X.prog X.w X.K H' d' v → MRel X.prog X.w X.K H' M' → Keep H M H' M' → Q' d' M' → Q v H'
theorem lift_ofL {X : Cx} {g : WL} : LiftL X (rOfL X g) g := fun H M xs ds Q Q' m r h k => ⟨M, ds, Q', m, r, h, k⟩
def rOfM (X : Cx) (g : WM) : V → List V → Hp → VK → Prop := fun x xs H Q => ∃ (M : Mem) (d : D) (ds : List D) (Q' : DK), MRel X.prog X.w X.K H M ∧ Rep X.prog X.w X.K H d x ∧ Reps X.prog X.w X.K H ds xs ∧ g d ds M Q' ∧ ∀ v H' d' M', Rep X.prog X.w X.K H' d' v → MRel X.prog X.w X.K H' M' → Keep H M H' M' → Q' d' M' → Q v H'
theorem lift_ofM {X : Cx} {g : WM} : LiftM X (rOfM X g) g := fun H M x xs d ds Q Q' m rx r h k => ⟨M, d, ds, Q', m, rx, r, h, k⟩

section
variable {X : Cx} {pins : List (Addr × Obj)} {σ : L2.St} {H : Hp} {s : Shared} {M : Mem} {a : Addr} {kvs : List (D × D)} {t : Tk} {k : D} {v : V} {u : Value} {E : Value → Shared → Prop} {A : Around}
theorem room8 (hu : A.units + 64 < cLine) : (nestedKind X.prog X.w).room A.in1 := by
  show A.units + 1 + 8 < cLine
  omega
theorem dict_neq {a : Addr} {kvs : List (D × D)} {t : Tk} (c : RDict X H a kvs t) : (a == sysModules) = false := c.ns
theorem dict_type (I : Inv X pins σ H s) (c : RDict X H a kvs t) : s.TypeIs (.ref a) "dict" := by
  obtain ⟨o, ho, hx, hd⟩ := c.raw I
  exact ⟨o, ho, hx.1⟩
theorem dict_nodict (I : Inv X pins σ H s) (c : RDict X H a kvs t) : ∀ b, Value.ref a = .ref b → ∃ ob, s.heap.get? b = some ob ∧ ob.dict = none := fun b q => by
  cases q
  obtain ⟨o, ho, hx, hd⟩ := c.raw I
  exact ⟨o, ho, hx.2.1⟩
theorem atKey_pairs (xs : List (NestedKey × Addr × Value)) (k : NestedKey) : (atKey xs k).map (·.2) = valueAt (pairsH xs) k := (valueAt_pairsH xs k).symm
theorem isSome_rel {R : D → Value → Prop} {o : Option D} {p : Option Value} (h : (o = none ∧ p = none) ∨ ∃ e u, o = some e ∧ p = some u ∧ R e u) : p.isSome = o.isSome := by
  rcases h with ⟨rfl, rfl⟩ | ⟨e, u, rfl, rfl, _⟩ <;> rfl
/-- in -/
theorem w_in {Q : Value → Shared → Prop} (hu : A.units + 64 < cLine) (I : Inv X pins σ H s) (c : RDict X H a kvs t) (ok : keyOk kvs k) (r : Rep X.prog X.w X.K H k v) (rv : RelV v u) (h : ∀ s', Inv X pins σ H s' → Q (.bool (valD kvs k).isSome) s') :
    wpAny (model X.prog X.w) A (compareOp .In u (.ref a)) Q E s := by
  rcases way c ok with ⟨y, hy, e⟩ | ⟨ds, y, rfl, hy, hd, e⟩
  · obtain ⟨vs, q, dd, hz⟩ := dict_f I c e
    have ev := rel_key hy r rv
    subst ev
    refine wpAny_in_of (kV_is rv) (dict_neq c) dd.mapOf ?_
    rw [isSome_rel (val_rel (κ := Key) (kd := D.flat?) (R := RVal X H) (fun a b k h1 h2 => D.flat_inj h1 h2) hy q)]
    exact h _ (I.tok _)
  · obtain ⟨xs, q, dd, hz⟩ := dict_t I c e
    obtain ⟨b, vs, rfl, _⟩ := id r
    cases (show u = Value.ref b from rv)
    refine wpAny_in_heap (knd := nestedKind X.prog X.w) (k := y) (room8 hu) ⟨nis I _ _ _ _ hy r rv, hd⟩ (dict_neq c) dd ?_
    have e1 := isSome_rel (val_rel (κ := NestedKey) (kd := D.nk) (R := RVal X H) D.nk_inj hy (pairs_t q))
    rw [← atKey_pairs, Option.isSome_map] at e1
    rw [e1]
    exact h _ (I.tok _)
theorem w_notIn {Q : Value → Shared → Prop} (hu : A.units + 64 < cLine) (I : Inv X pins σ H s) (c : RDict X H a kvs t) (ok : keyOk kvs k) (r : Rep X.prog X.w X.K H k v) (rv : RelV v u) (h : ∀ s', Inv X pins σ H s' → Q (.bool (!(valD kvs k).isSome)) s') :
    wpAny (model X.prog X.w) A (compareOp .NotIn u (.ref a)) Q E s := by
  rcases way c ok with ⟨y, hy, e⟩ | ⟨ds, y, rfl, hy, hd, e⟩
  · obtain ⟨vs, q, dd, hz⟩ := dict_f I c e
    have ev := rel_key hy r rv
    subst ev
    refine wpAny_notIn_of (kV_is rv) (dict_neq c) dd.mapOf ?_
    rw [isSome_rel (val_rel (κ := Key) (kd := D.flat?) (R := RVal X H) (fun a b k h1 h2 => D.flat_inj h1 h2) hy q)]
    exact h _ (I.tok _)
  · obtain ⟨xs, q, dd, hz⟩ := dict_t I c e
    obtain ⟨b, vs, rfl, _⟩ := id r
    cases (show u = Value.ref b from rv)
    refine wpAny_notIn_heap (knd := nestedKind X.prog X.w) (k := y) (room8 hu) ⟨nis I _ _ _ _ hy r rv, hd⟩ (dict_neq c) dd ?_
    have e1 := isSome_rel (val_rel (κ := NestedKey) (kd := D.nk) (R := RVal X H) D.nk_inj hy (pairs_t q))
    rw [← atKey_pairs, Option.isSome_map] at e1
    rw [e1]
    exact h _ (I.tok _)
/-- d[k], there -/
theorem w_get {e : D} {Q : Value → Shared → Prop} (hu : A.units + 64 < cLine) (I : Inv X pins σ H s) (c : RDict X H a kvs t) (ok : keyOk kvs k) (r : Rep X.prog X.w X.K H k v) (rv : RelV v u) (hv : valD kvs k = some e) (h : ∀ x w' s', Inv X pins σ H s' → Rep X.prog X.w X.K H e x → RelV x w' → Q w' s') :
    wpAny (model X.prog X.w) A (getItem (.ref a) u) Q E s := by
  rcases way c ok with ⟨y, hy, en⟩ | ⟨ds, y, rfl, hy, hd, en⟩
  · obtain ⟨vs, q, dd, hz⟩ := dict_f I c en
    have ev := rel_key hy r rv
    subst ev
    rcases val_rel (κ := Key) (kd := D.flat?) (R := RVal X H) (fun a b k h1 h2 => D.flat_inj h1 h2) hy q with ⟨z, _⟩ | ⟨e', w', z, z2, x, rx, rxv⟩
    · rw [hv] at z; cases z
    · rw [hv] at z; cases z
      exact wpAny_getItem_of (kV_is rv) dd.mapOf z2 (h x w' _ (I.tok _) rx rxv)
  · obtain ⟨xs, q, dd, hz⟩ := dict_t I c en
    obtain ⟨b, vs, rfl, _⟩ := id r
    cases (show u = Value.ref b from rv)
    rcases val_rel (κ := NestedKey) (kd := D.nk) (R := RVal X H) D.nk_inj hy (pairs_t q) with ⟨z, _⟩ | ⟨e', w', z, z2, x, rx, rxv⟩
    · rw [hv] at z; cases z
    · rw [hv] at z; cases z
      rw [← atKey_pairs] at z2
      obtain ⟨p, hp, hp2⟩ := Option.map_eq_some_iff.mp z2
      refine wpAny_getItem_heap (knd := nestedKind X.prog X.w) (k := y) (room8 hu) ⟨nis I _ _ _ _ hy r rv, hd⟩ dd hp ?_
      rw [hp2]
      exact h x w' _ (I.tok _) rx rxv
/-- d.get(k) -/
theorem w_get1 {Q : Value → Shared → Prop} (hu : A.units + 64 < cLine) (I : Inv X pins σ H s) (c : RDict X H a kvs t) (ok : keyOk kvs k) (r : Rep X.prog X.w X.K H k v) (rv : RelV v u) (h : ∀ x w' s', Inv X pins σ H s' → Rep X.prog X.w X.K H ((valD kvs k).getD .non) x → RelV x w' → Q w' s') :
    wpAny (model X.prog X.w) A (call (.builtin "dict.get") [.ref a, u]) Q E s := by
  have fin : ∀ {o : Option D} {p : Option Value} {tk : Nat}, ((o = none ∧ p = none) ∨ ∃ e u, o = some e ∧ p = some u ∧ RVal X H e u) → o = valD kvs k → Q (p.getD .none) { s with toks := tk } := by
    intro o p tk hr eo
    rw [← eo] at h
    rcases hr with ⟨rfl, rfl⟩ | ⟨e, w', rfl, rfl, x, rx, rxv⟩
    · exact h .non _ _ (I.tok _) rfl rfl
    · exact h x _ _ (I.tok _) rx rxv
  rcases way c ok with ⟨y, hy, en⟩ | ⟨ds, y, rfl, hy, hd, en⟩
  · obtain ⟨vs, q, dd, hz⟩ := dict_f I c en
    have ev := rel_key hy r rv
    subst ev
    exact call_meetsIn PySem.F.slot_dict_get dd.typeIs PySem.F.entry_dict_get (PySem.F.args_dict_get_2 _ _) (meets_dict_get (mixKind X.prog X.w) a (kV_is rv) (dict_neq c)) ⟨_, dd.mapOf, fin (val_rel (κ := Key) (kd := D.flat?) (R := RVal X H) (fun a b k h1 h2 => D.flat_inj h1 h2) hy q) rfl⟩
  · obtain ⟨xs, q, dd, hz⟩ := dict_t I c en
    obtain ⟨b, vs, rfl, _⟩ := id r
    cases (show u = Value.ref b from rv)
    refine call_meetsIn PySem.F.slot_dict_get dd.typeIs PySem.F.entry_dict_get (PySem.F.args_dict_get_2 _ _) (meetsH_dict_get (nestedKind X.prog X.w) a b (dict_neq c)) ⟨room8 hu, y, xs, ⟨nis I _ _ _ _ hy r rv, hd⟩, dd, ?_⟩
    rw [atKey_pairs]
    exact fin (val_rel (κ := NestedKey) (kd := D.nk) (R := RVal X H) D.nk_inj hy (pairs_t q)) rfl
/-- the dict's object behind a store -/
theorem cell_f {h' : Heap} {vs : List (Key × Value)} (dd : h'.DictOf (mixKind X.prog X.w) a vs) : ∃ t : Tk, h'.DictRaw a t.1 t.2 ∧ KeysOf (mixKind X.prog X.w) t.1 ∧ Pairs (mixKind X.prog X.w) t.1.toList vs ∧ (vs.map (·.1)).Nodup := by
  obtain ⟨o, es, ep, h1, h2, h3, h4, h5, h6⟩ := dd
  exact ⟨(es, ep), ⟨o, h1, h2, h3⟩, h4, h5, h6⟩
theorem cell_t {h' : Heap} {xs : List (NestedKey × Addr × Value)} (dd : h'.DictOfH (nestedKind X.prog X.w) a xs) : ∃ t : Tk, h'.DictRaw a t.1 t.2 ∧ t.1.toList = xs.map (entryOfKey (nestedKind X.prog X.w)) ∧ (xs.map (·.1)).Nodup := by
  obtain ⟨o, es, ep, h1, h2, h3, h4, h5, h6⟩ := dd
  exact ⟨(es, ep), ⟨o, h1, h2, h3⟩, h4, h6⟩
theorem dx_ok {P : Program} {w : World} {H : Hp} {h : Heap} {t : Tk} (d : h.DictRaw a t.1 t.2) : ObjOk P w H h a (DX a t) := by
  obtain ⟨o, h1, h2, h3⟩ := d
  exact ⟨⟨o, h1, h2, h3⟩, ⟨o, h1⟩, fun h1 h2 q k => q.at k⟩
theorem t_put {kvs : List (D × D)} {xs : List (NestedKey × Addr × Value)} {k e : D} {y : NestedKey} {b : Addr} {u : Value} (q : Paired (fun (p : D × D) (q : NestedKey × Addr × Value) => (p.1.nk = some q.1 ∧ q.1.depth ≤ 8 ∧ Rep X.prog X.w X.K H p.1 (.ref q.2.1) ∧ ∃ ds, p.1 = .tup ds) ∧ ∃ v, Rep X.prog X.w X.K H p.2 v ∧ RelV v q.2.2) kvs xs)
    (hk : k.nk = some y ∧ y.depth ≤ 8 ∧ Rep X.prog X.w X.K H k (.ref b) ∧ ∃ ds, k = .tup ds) (he : RVal X H e u) :
    Paired (fun (p : D × D) (q : NestedKey × Addr × Value) => (p.1.nk = some q.1 ∧ q.1.depth ≤ 8 ∧ Rep X.prog X.w X.K H p.1 (.ref q.2.1) ∧ ∃ ds, p.1 = .tup ds) ∧ ∃ v, Rep X.prog X.w X.K H p.2 v ∧ RelV v q.2.2) (putD kvs k e) (storedH xs y b u) := by
  have e1 : (kvs.any fun kv => decide (kv.1 = k)) = (atKey xs y).isSome := by
    rw [any_rel (κ := NestedKey) (kd := D.nk) (R := RVal X H) D.nk_inj hk.1 (pairs_t q), any_pairsH]
  unfold putD storedH
  rw [e1]
  by_cases c : (atKey xs y).isSome = true
  · rw [if_pos c, if_pos c]
    clear c e1
    induction q with
    | nil => exact .nil
    | @cons p q ps qs h t ih =>
      rw [List.map_cons, List.map_cons]
      refine .cons ?_ ih
      unfold putAt
      by_cases z : q.1 = y
      · have z' : p.1 = k := D.nk_inj _ _ y (by rw [h.1.1, z]) hk.1
        rw [if_pos z, if_pos z']; exact ⟨h.1, he⟩
      · have z' : ¬ p.1 = k := fun w => z (by have := h.1.1; rw [w, hk.1] at this; exact (Option.some.inj this).symm)
        rw [if_neg z, if_neg z']; exact h
  · rw [if_neg c, if_neg c]; exact Paired.snoc q ⟨hk, he⟩
/-- d[k] = e -/
theorem w_put {e : D} {x : V} {xu : Value} {Q : Unit → Shared → Prop} (hu : A.units + 64 < cLine) (I : Inv X pins σ H s) (m : MRel X.prog X.w X.K H M) (hM : M a = some (.dict kvs t)) (ok : keyOk kvs k) (r : Rep X.prog X.w X.K H k v) (rv : RelV v u) (re : Rep X.prog X.w X.K H e x) (rxv : RelV x xu)
    (hz : kvs.length < sizeLine) (h : ∀ t' s', Inv X pins σ (upd H a (DX a t')) s' → MRel X.prog X.w X.K (upd H a (DX a t')) (mset M a (.dict (putD kvs k e) t')) → Keep H M (upd H a (DX a t')) (mset M a (.dict (putD kvs k e) t')) → Q () s') :
    wpAny (model X.prog X.w) A (setItem (.ref a) u xu) Q E s := by
  have c0 := m a _ hM
  have c := RDict.of c0
  have hl := length_putD kvs k e
  rcases way c ok with ⟨y, hy, en⟩ | ⟨ds, y, rfl, hy, hd, en⟩
  · obtain ⟨vs, q, dd, hz'⟩ := dict_f I c en
    have ev := rel_key hy r rv
    subst ev
    refine wpAny_setItem_pairs (hsz := hz') (kV_is rv) dd fun h' dd' hs => ?_
    obtain ⟨t', d', k1, k2, k3⟩ := cell_f dd'
    obtain ⟨m', k'⟩ := m.write (o := DX a t') (mo' := .dict (putD kvs k e) t') hM fun tk => ⟨upd_same, dict_neq c, by omega, .inl ⟨_, Paired.mapP (put_rel (κ := Key) (kd := D.flat?) (R := RVal X H) (fun a b k h1 h2 => D.flat_inj h1 h2) hy ⟨x, re, rxv⟩ q) fun p q z => ⟨z.1, let ⟨v, z1, z2⟩ := z.2; ⟨v, Rep.keep tk _ _ z1, z2⟩⟩, k1, k2, k3⟩⟩
    exact h t' _ (d_write I (by rw [c0.1]; exact True.intro) hs (let ⟨o, ho, _⟩ := d'; ⟨o, ho⟩) (dx_ok d')) m' k'
  · obtain ⟨xs, q, dd, hz'⟩ := dict_t I c en
    obtain ⟨b, vs, rfl, _⟩ := id r
    cases (show u = Value.ref b from rv)
    refine wpAny_setItem_heap (knd := nestedKind X.prog X.w) (k := y) (hsz := hz') (room8 hu) ⟨nis I _ _ _ _ hy r rv, hd⟩ dd fun h' dd' hs => ?_
    obtain ⟨t', d', k1, k2⟩ := cell_t dd'
    obtain ⟨m', k'⟩ := m.write (o := DX a t') (mo' := .dict (putD kvs (.tup ds) e) t') hM fun tk => ⟨upd_same, dict_neq c, by omega, .inr ⟨_, Paired.mapP (t_put q ⟨hy, hd, r, _, rfl⟩ ⟨x, re, rxv⟩) fun p q z => ⟨⟨z.1.1, z.1.2.1, Rep.keep tk _ _ z.1.2.2.1, z.1.2.2.2⟩, let ⟨v, z1, z2⟩ := z.2; ⟨v, Rep.keep tk _ _ z1, z2⟩⟩, k1, k2⟩⟩
    exact h t' _ (d_write I (by rw [c0.1]; exact True.intro) hs (let ⟨o, ho, _⟩ := d'; ⟨o, ho⟩) (dx_ok d')) m' k'
/-- len(d) -/
theorem w_len {Q : Value → Shared → Prop} (I : Inv X pins σ H s) (c : RDict X H a kvs t) (h : ∀ tk s', Inv X pins σ H s' → Q (.int kvs.length tk) s') : wpAny (model X.prog X.w) A (call (.builtin "len") [.ref a]) Q E s := by
  have sz := c.sz
  rw [sizeLine_eq] at sz
  rcases c.en with e | e
  · obtain ⟨vs, q, dd, hz⟩ := dict_f I c e
    have l : kvs.length = vs.length := Paired.length q
    refine call_len_dict (dict_neq c) dd (by rw [← l]; omega) ?_
    rw [← l]; exact h _ _ (I.tok _)
  · obtain ⟨xs, q, dd, hz⟩ := dict_t I c e
    have l : kvs.length = xs.length := Paired.length q
    refine call_len_dictH (dict_neq c) dd (by rw [← l]; omega) ?_
    rw [← l]; exact h _ _ (I.tok _)
end
end Fw

set_option Elab.async false
set_option linter.all false
set_option maxRecDepth 100000
set_option maxHeartbeats 4000000
/-! FwCall: in, subscripts, stores, built-in functions and methods over data -/
namespace Fw
open PySem PySem.Spec PyProof.Rows L2

section
variable {X : Cx}
/-! ### in -/
def dInD (f : Bool → Bool) : W2 := fun x y M Q => match y with
  | .ref a => ∃ kvs t, M a = some (.dict kvs t) ∧ keyOk kvs x ∧ Q (.bl (f (valD kvs x).isSome)) M
  | .fd ks ds => keyOk (ks.zip ds) x ∧ Q (.bl (f (valD (ks.zip ds) x).isSome)) M
  | _ => False
theorem op_inD1 (hu : X.A.units + 64 < cLine) : OpR X (compareOp .In) (rOf2 X (dInD id)) := by
  intro pins s σ H x y v u Q I rx ry h
  obtain ⟨M, d, e, Q', m, r1, r2, q, k⟩ := h
  cases e with
  | ref a =>
    obtain ⟨kvs, t, hM, ok, q⟩ := q
    cases (show y = .ref a from r2)
    cases (show u = Value.ref a from ry)
    exact w_in hu I (.of (m a _ hM)) ok r1 rx fun s' I' => ⟨.bl _, H, I', rfl, k _ H (.bl (valD kvs d).isSome) M rfl m .refl q⟩
  | fd ks ds =>
    obtain ⟨ok, q⟩ := q
    obtain ⟨_, a, t, rfl, fd⟩ := r2.fdict
    cases (show u = Value.ref a from ry)
    exact w_in hu I (.ofF fd) ok r1 rx fun s' I' => ⟨.bl _, H, I', rfl, k _ H (.bl (valD (ks.zip ds) d).isSome) M rfl m .refl q⟩
  | _ => exact q.elim
theorem op_notInD1 (hu : X.A.units + 64 < cLine) : OpR X (compareOp .NotIn) (rOf2 X (dInD not)) := by
  intro pins s σ H x y v u Q I rx ry h
  obtain ⟨M, d, e, Q', m, r1, r2, q, k⟩ := h
  cases e with
  | ref a =>
    obtain ⟨kvs, t, hM, ok, q⟩ := q
    cases (show y = .ref a from r2)
    cases (show u = Value.ref a from ry)
    exact w_notIn hu I (.of (m a _ hM)) ok r1 rx fun s' I' => ⟨.bl _, H, I', rfl, k _ H (.bl (!(valD kvs d).isSome)) M rfl m .refl q⟩
  | fd ks ds =>
    obtain ⟨ok, q⟩ := q
    obtain ⟨_, a, t, rfl, fd⟩ := r2.fdict
    cases (show u = Value.ref a from ry)
    exact w_notIn hu I (.ofF fd) ok r1 rx fun s' I' => ⟨.bl _, H, I', rfl, k _ H (.bl (!(valD (ks.zip ds) d).isSome)) M rfl m .refl q⟩
  | _ => exact q.elim
/-- flat things without truth values -/
def flatD : D → Bool
  | .non => true
  | .int _ => true
  | .str _ => true
  | _ => false
theorem flatD_v {d : D} {v : V} {P : Program} {w : World} {K : PySem.W.Frag} {H : Hp} (f : flatD d = true) (r : Rep P w K H d v) : flatV v = true := by
  cases d with
  | non => cases (show v = _ from r); rfl
  | int i => cases (show v = _ from r); rfl
  | str i => cases (show v = _ from r); rfl
  | _ => exact Bool.noConfusion f
theorem flatD_eq {d e : D} {v w : V} {P : Program} {wd : World} {K : PySem.W.Frag} {H : Hp} (f : flatD d = true) (g : flatD e = true) (r : Rep P wd K H d v) (q : Rep P wd K H e w) : eqV v w = decide (d = e) := by
  cases d with
  | non =>
    cases (show v = _ from r)
    cases e with
    | non => cases (show w = _ from q); rfl
    | int j => cases (show w = _ from q); exact (decide_eq_false (fun z => nomatch z)).symm
    | str j => cases (show w = _ from q); exact (decide_eq_false (fun z => nomatch z)).symm
    | _ => exact Bool.noConfusion g
  | int i =>
    cases (show v = _ from r)
    cases e with
    | non => cases (show w = _ from q); exact (decide_eq_false (fun z => nomatch z)).symm
    | int j => cases (show w = _ from q); rw [Bool.eq_iff_iff, decide_eq_true_iff]; exact ⟨fun z => by rw [eq_of_beq (show (i == j) = true from z)], fun z => by cases z; exact beq_self_eq_true i⟩
    | str j => cases (show w = _ from q); exact (decide_eq_false (fun z => nomatch z)).symm
    | _ => exact Bool.noConfusion g
  | str i =>
    cases (show v = _ from r)
    cases e with
    | non => cases (show w = _ from q); exact (decide_eq_false (fun z => nomatch z)).symm
    | int j => cases (show w = _ from q); exact (decide_eq_false (fun z => nomatch z)).symm
    | str j => cases (show w = _ from q); rw [Bool.eq_iff_iff, decide_eq_true_iff]; exact ⟨fun z => by rw [eq_of_beq (show (i == j) = true from z)], fun z => by cases z; exact beq_self_eq_true i⟩
    | _ => exact Bool.noConfusion g
  | _ => exact Bool.noConfusion f
theorem flatD_all {P : Program} {w : World} {K : PySem.W.Frag} {H : Hp} : ∀ {ds : List D} {vs : List V}, ds.all flatD = true → Reps P w K H ds vs → vs.all flatV = true
  | [], _, _, r => by rw [show _ = _ from r]; rfl
  | d :: ds, _, f, r => by
    obtain ⟨v, r', rfl, h1, h2⟩ := r
    rw [List.all_cons, Bool.and_eq_true] at f
    rw [List.all_cons, flatD_v f.1 h1, flatD_all f.2 h2]; rfl
theorem flatD_any {P : Program} {wd : World} {K : PySem.W.Frag} {H : Hp} {x : D} {w : V} (g : flatD x = true) (q : Rep P wd K H x w) : ∀ {ds : List D} {vs : List V}, ds.all flatD = true → Reps P wd K H ds vs → inV w vs = decide (x ∈ ds)
  | [], _, _, r => by rw [show _ = _ from r]; rfl
  | d :: ds, _, f, r => by
    obtain ⟨v, r', rfl, h1, h2⟩ := r
    rw [List.all_cons, Bool.and_eq_true] at f
    have ih := flatD_any g q f.2 h2
    unfold inV at ih ⊢
    rw [List.any_cons, ih, flatD_eq f.1 g h1 q, Bool.eq_iff_iff, Bool.or_eq_true, decide_eq_true_iff, decide_eq_true_iff, decide_eq_true_iff, List.mem_cons]
    exact ⟨fun z => z.imp Eq.symm id, fun z => z.imp Eq.symm id⟩
/-- in a list: its items are data -/
def InL (f : Bool → Bool) (x : D) (ds : List D) (M : Mem) (Q : DK) : Prop :=
  ∃ p ps, x.py = some p ∧ D.pys ds = some ps ∧ SeqAt.shaped p = true ∧ SeqAt.shaped (.list ps) = true ∧ Q (.bl (f (ps.any fun z => PyData.eqv z p))) M
def InT (f : Bool → Bool) (x : D) (ds : List D) (M : Mem) (Q : DK) : Prop :=
  ∃ p ps, x.py = some p ∧ (D.tup ds).py = some (.tuple ps) ∧ SeqAt.shaped p = true ∧ SeqAt.shaped (.tuple ps) = true ∧ Q (.bl (f (ps.any fun z => PyData.eqv z p))) M
def dIn (f : Bool → Bool) : W2 := fun x y M Q => match y with
  | .tup ds => (flatD x = true ∧ ds.all flatD = true ∧ Q (.bl (f (decide (x ∈ ds)))) M) ∨ InT f x ds M Q
  | .str z => ∃ c, x = .str ⟨#[c]⟩ ∧ Q (.bl (f (decide (c ∈ z.cps.toList)))) M
  | .ref a => match M a with
    | some (.lst ds) => InL f x ds M Q
    | some (.dict kvs _) => keyOk kvs x ∧ Q (.bl (f (valD kvs x).isSome)) M
    | _ => False
  | .fl ds => InL f x ds M Q
  | .fd ks ds => keyOk (ks.zip ds) x ∧ Q (.bl (f (valD (ks.zip ds) x).isSome)) M
  | _ => False
/-- in a tuple of data -/
def rInT (K : PySem.W.Frag) (f : Bool → Bool) : R2 := fun x y H Q => ∃ d ds, Dp K H x d ∧ Dp K H y (.tuple ds) ∧ SeqAt.shaped d = true ∧ SeqAt.shaped (.tuple ds) = true ∧ Q (.bl (f (ds.any fun z => PyData.eqv z d))) H
theorem op_inTup (hu : X.A.units + 65 < cLine) : OpR X (compareOp .In) (rInT X.K id) := fun pins s σ H x y v u Q I rx ry ⟨d, ds, hd, he, sd, se, q⟩ => by
  obtain ⟨as, r1⟩ := Dp.reads I d x v hd rx
  obtain ⟨bs, r2⟩ := Dp.reads I (.tuple ds) y u he ry
  exact SeqAt.in_tuple_reads r2 r1 (SeqAt.canLay_of_shaped se) (SeqAt.canLay_of_shaped sd) (room_in_shaped sd hu) ⟨.bl _, H, I, rfl, q⟩
theorem op_notInTup (hu : X.A.units + 65 < cLine) : OpR X (compareOp .NotIn) (rInT X.K not) := fun pins s σ H x y v u Q I rx ry ⟨d, ds, hd, he, sd, se, q⟩ => by
  obtain ⟨as, r1⟩ := Dp.reads I d x v hd rx
  obtain ⟨bs, r2⟩ := Dp.reads I (.tuple ds) y u he ry
  exact SeqAt.notIn_tuple_reads r2 r1 (SeqAt.canLay_of_shaped se) (SeqAt.canLay_of_shaped sd) (room_in_shaped sd hu) ⟨.bl _, H, I, rfl, q⟩
def rInR (X : Cx) : R2 := fun x y H Q => rOf2 X (dInD id) x y H Q ∨ (rIn X.K false x y H Q ∨ (rInD X.K x y H Q ∨ (rInT X.K id x y H Q ∨ (∃ (c : Nat) (z : Str), x = .str ⟨#[c]⟩ ∧ y = .str z ∧ Q (.bl (decide (c ∈ z.cps.toList))) H))))
def rNotInR (X : Cx) : R2 := fun x y H Q => rOf2 X (dInD not) x y H Q ∨ (rIn X.K true x y H Q ∨ (rNotInD X.K x y H Q ∨ (rInT X.K not x y H Q ∨ (∃ (c : Nat) (z : Str), x = .str ⟨#[c]⟩ ∧ y = .str z ∧ Q (.bl (!decide (c ∈ z.cps.toList))) H))))
theorem op_inR (hu : X.A.units + 65 < cLine) : OpR X (compareOp .In) (rInR X) := (op_inD1 (by omega)).or (op_in_seq.or ((op_inD hu).or ((op_inTup hu).or op_in_sign)))
theorem op_notInR (hu : X.A.units + 65 < cLine) : OpR X (compareOp .NotIn) (rNotInR X) := (op_notInD1 (by omega)).or (op_notIn_seq.or ((op_notInD hu).or ((op_notInTup hu).or op_notIn_sign)))
theorem lift_in : Lift2 X (rInR X) (dIn id) := by
  intro H M x y d e Q Q' m rx ry h k
  cases e with
  | tup ds =>
    rcases h with ⟨f1, f2, q⟩ | ⟨p, ps, e1, e2, s1, s2, q⟩
    · obtain ⟨a, vs, rfl, s, rs⟩ := ry
      exact .inr (.inl ⟨a, vs, rfl, .inr s, flatD_v f1 rx, flatD_all f2 rs, by rw [if_neg Bool.false_ne_true, flatD_any f1 rx f2 rs]; exact k _ H (.bl _) M rfl m .refl q⟩)
    · exact .inr (.inr (.inr (.inl ⟨p, ps, Rep.dp _ _ _ e1 rx, Rep.dp _ _ _ e2 ry, s1, s2, k _ H (.bl _) M rfl m .refl q⟩)))
  | str z =>
    cases (show y = _ from ry)
    obtain ⟨c, rfl, q⟩ := h
    cases (show x = _ from rx)
    exact .inr (.inr (.inr (.inr ⟨c, z, rfl, rfl, k _ H (.bl _) M rfl m .refl q⟩)))
  | ref a =>
    cases (show y = _ from ry)
    unfold dIn at h
    simp only at h
    cases c : M a with
    | none => rw [c] at h; exact h.elim
    | some mo =>
      rw [c] at h
      cases mo with
      | lst ds =>
        obtain ⟨p, ps, e1, e2, s1, s2, q⟩ := h
        obtain ⟨vs, hh, rs⟩ := m a _ c
        exact .inr (.inr (.inl ⟨p, ps, Rep.dp _ _ _ e1 rx, .lst (.of hh) (Reps.dp _ _ _ e2 rs), s1, s2, k _ H (.bl _) M rfl m .refl q⟩))
      | dict kvs t => exact .inl ⟨M, d, .ref a, Q', m, rx, rfl, ⟨kvs, t, c, h.1, h.2⟩, k⟩
      | ins _ _ => exact h.elim
  | fl ds =>
    obtain ⟨a, vs, rfl, f, rs⟩ := ry
    obtain ⟨p, ps, e1, e2, s1, s2, q⟩ := h
    exact .inr (.inr (.inl ⟨p, ps, Rep.dp _ _ _ e1 rx, .lst f.sql (Reps.dp _ _ _ e2 rs), s1, s2, k _ H (.bl _) M rfl m .refl q⟩))
  | fd ks ds => exact .inl ⟨M, d, .fd ks ds, Q', m, rx, ry, h, k⟩
  | non => exact h.elim
  | bl b => exact h.elim
  | int b => exact h.elim
theorem lift_notIn : Lift2 X (rNotInR X) (dIn not) := by
  intro H M x y d e Q Q' m rx ry h k
  cases e with
  | tup ds =>
    rcases h with ⟨f1, f2, q⟩ | ⟨p, ps, e1, e2, s1, s2, q⟩
    · obtain ⟨a, vs, rfl, s, rs⟩ := ry
      exact .inr (.inl ⟨a, vs, rfl, .inr s, flatD_v f1 rx, flatD_all f2 rs, by rw [if_pos rfl, flatD_any f1 rx f2 rs]; exact k _ H (.bl _) M rfl m .refl q⟩)
    · exact .inr (.inr (.inr (.inl ⟨p, ps, Rep.dp _ _ _ e1 rx, Rep.dp _ _ _ e2 ry, s1, s2, k _ H (.bl _) M rfl m .refl q⟩)))
  | str z =>
    cases (show y = _ from ry)
    obtain ⟨c, rfl, q⟩ := h
    cases (show x = _ from rx)
    exact .inr (.inr (.inr (.inr ⟨c, z, rfl, rfl, k _ H (.bl _) M rfl m .refl q⟩)))
  | ref a =>
    cases (show y = _ from ry)
    unfold dIn at h
    simp only at h
    cases c : M a with
    | none => rw [c] at h; exact h.elim
    | some mo =>
      rw [c] at h
      cases mo with
      | lst ds =>
        obtain ⟨p, ps, e1, e2, s1, s2, q⟩ := h
        obtain ⟨vs, hh, rs⟩ := m a _ c
        exact .inr (.inr (.inl ⟨p, ps, Rep.dp _ _ _ e1 rx, .lst (.of hh) (Reps.dp _ _ _ e2 rs), s1, s2, k _ H (.bl _) M rfl m .refl q⟩))
      | dict kvs t => exact .inl ⟨M, d, .ref a, Q', m, rx, rfl, ⟨kvs, t, c, h.1, h.2⟩, k⟩
      | ins _ _ => exact h.elim
  | fl ds =>
    obtain ⟨a, vs, rfl, f, rs⟩ := ry
    obtain ⟨p, ps, e1, e2, s1, s2, q⟩ := h
    exact .inr (.inr (.inl ⟨p, ps, Rep.dp _ _ _ e1 rx, .lst f.sql (Reps.dp _ _ _ e2 rs), s1, s2, k _ H (.bl _) M rfl m .refl q⟩))
  | fd ks ds => exact .inl ⟨M, d, .fd ks ds, Q', m, rx, ry, h, k⟩
  | non => exact h.elim
  | bl b => exact h.elim
  | int b => exact h.elim

/-! ### d[k] -/
def dIxD : W2 := fun x y M Q => match x with
  | .ref a => ∃ kvs t d, M a = some (.dict kvs t) ∧ keyOk kvs y ∧ valD kvs y = some d ∧ Q d M
  | .fd ks ds => keyOk (ks.zip ds) y ∧ ∃ d, valD (ks.zip ds) y = some d ∧ Q d M
  | _ => False
theorem sub_tail {prog : Program} {w : World} {A : Around} {E : Value → Shared → Prop} {s : Shared} {value slice : Expr} {T id : String} {o i : Value} {Q : Value → Shared → Prop}
    (hl : typeLookup (.type T) "__getitem__" = pure (some (.builtin id))) (hs : subscripted slice false o i = operate [o, i] (getItem o i)) (hT : s.TypeIs o T)
    (h : wpAny (model prog w) A (getItem o i) Q E s) : wpAny (model prog w) A (subscriptTail value slice o i) Q E s := by
  unfold subscriptTail
  refine wpAny_bind ?_
  rw [getitemInPython_of_ne hT.not_modules]
  refine wpAny_bind (wpAny_specialOf hT hl ?_)
  have fin : wpAny (model prog w) A (subscripted slice false o i) (fun r s₃ => wpAny (model prog w) A (letTemporaryGo value o r >>= fun _ => pure r) Q E s₃) E s := by
    rw [hs]
    exact wpAny_operating (wpAny_mono h (fun r s₃ h₃ => wpAny_bind (wpAny_letTemporaryGo (wpAny_pure h₃))) fun _ _ x => x)
  exact wpAny_pure (wpAny_bind fin)
theorem ix_dict (hu : X.A.units + 64 < cLine) : IxR X (rOf2 X dIxD) := by
  intro value slice pins s σ H x y v u Q I rx ry h hs
  obtain ⟨M, d, e, Q', m, r1, r2, q, k⟩ := h
  cases d with
  | ref a =>
    obtain ⟨kvs, t, d, hM, ok, hv, q⟩ := q
    cases (show x = .ref a from r1)
    cases (show v = Value.ref a from rx)
    refine sub_tail PySem.F.slot_dict_getitem.lookup hs (dict_type I (.of (m a _ hM))) ?_
    exact w_get hu I (.of (m a _ hM)) ok r2 ry hv fun x' w' s' I' rr rv => ⟨x', H, I', rv, k x' H d M rr m .refl q⟩
  | fd ks ds =>
    obtain ⟨ok, d, hv, q⟩ := q
    obtain ⟨_, a, t, rfl, fd⟩ := r1.fdict
    cases (show v = Value.ref a from rx)
    refine sub_tail PySem.F.slot_dict_getitem.lookup hs (dict_type I (.ofF fd)) ?_
    exact w_get hu I (.ofF fd) ok r2 ry hv fun x' w' s' I' rr rv => ⟨x', H, I', rv, k x' H d M rr m .refl q⟩
  | _ => exact q.elim
/-- o[i]: of tuples, lists, texts; of dicts -/
def dIxA : W2 := fun x y M Q => match x with
  | .ref a => match M a with
    | some (.dict kvs _) => keyOk kvs y ∧ ∃ d, valD kvs y = some d ∧ Q d M
    | _ => dIx x y M Q
  | .fd ks ds => keyOk (ks.zip ds) y ∧ ∃ d, valD (ks.zip ds) y = some d ∧ Q d M
  | _ => dIx x y M Q
def rIxA (X : Cx) : R2 := fun x y H Q => rOf2 X dIxD x y H Q ∨ rIx X.K x y H Q
theorem ix_all (hu : X.A.units + 64 < cLine) : IxR X (rIxA X) := (ix_dict hu).or ix_seq
theorem lift_ixA : Lift2 X (rIxA X) dIxA := by
  intro H M x y d e Q Q' m rx ry h k
  cases d with
  | ref a =>
    unfold dIxA at h
    simp only at h
    cases c : M a with
    | none => rw [c] at h; exact .inr (lift_ix H M x y _ e Q Q' m rx ry h k)
    | some mo =>
      rw [c] at h
      cases mo with
      | dict kvs t => obtain ⟨ok, d, hv, q⟩ := h; exact .inl ⟨M, .ref a, e, Q', m, rx, ry, ⟨kvs, t, d, c, ok, hv, q⟩, k⟩
      | _ => exact .inr (lift_ix H M x y _ e Q Q' m rx ry h k)
  | fd ks ds => exact .inl ⟨M, .fd ks ds, e, Q', m, rx, ry, h, k⟩
  | _ => exact .inr (lift_ix H M x y _ e Q Q' m rx ry h k)

/-! ### o[i] = v -/
abbrev WSet := D → D → D → Mem → (Mem → Prop) → Prop
def rOfS (X : Cx) (g : WSet) : V → V → V → Hp → (Hp → Prop) → Prop := fun o i v H Q => ∃ (M : Mem) (d e f : D) (Q' : Mem → Prop), MRel X.prog X.w X.K H M ∧ Rep X.prog X.w X.K H d o ∧ Rep X.prog X.w X.K H e i ∧ Rep X.prog X.w X.K H f v ∧ g d e f M Q' ∧ ∀ H' M', MRel X.prog X.w X.K H' M' → Keep H M H' M' → Q' M' → Q H'
def dSetA : WSet := fun o i v M Q => match o with
  | .ref a => match M a with
    | some (.dict kvs _) => keyOk kvs i ∧ kvs.length < sizeLine ∧ ∀ t, Q (mset M a (.dict (putD kvs i v) t))
    | some (.lst ds) => ∃ k j, i = .int k ∧ ixN ds.length k = some j ∧ Q (mset M a (.lst (ds.set j v)))
    | _ => False
  | _ => False
theorem set_all (hu : X.A.units + 64 < cLine) : PSet X (rOfS X dSetA) := by
  intro pins s σ H o i v ov iv u Q I ro ri rv h
  obtain ⟨M, d, e, f, Q', m, r1, r2, r3, q, k⟩ := h
  cases d with
  | ref a =>
    cases (show o = .ref a from r1)
    cases (show ov = Value.ref a from ro)
    unfold dSetA at q
    simp only at q
    cases c : M a with
    | none => rw [c] at q; exact q.elim
    | some mo =>
      rw [c] at q
      cases mo with
      | dict kvs t =>
        obtain ⟨ok, hz, q⟩ := q
        exact w_put hu I m c ok r2 ri r3 rv hz fun t' s' I' m' k' => ⟨_, I', k _ _ m' k' (q t')⟩
      | lst ds =>
        obtain ⟨kk, j, rfl, hj, q⟩ := q
        obtain ⟨vs, hh, rs⟩ := m a _ c
        cases (show i = .int kk from r2)
        refine set_list pins s σ H _ _ v _ iv u Q I ro ri rv ⟨a, vs, kk, j, rfl, rfl, hh, by rw [← rs.length]; exact hj, ?_⟩
        obtain ⟨m', k'⟩ := m.write (o := .lst (vs.set j v)) (mo' := .lst (ds.set j f)) c fun t => ⟨_, upd_same, (Reps.keep t _ _ rs).set j (Rep.keep t _ _ r3)⟩
        exact k _ _ m' k' q
      | ins _ _ => exact q.elim
  | _ => exact q.elim

/-! ### {} -/
def wDnew : WE := fun _ M Q => ∀ p t, M p = none → Q (.ref p) (mset M p (.dict [] t))
theorem de_dnew {pos : Pos} : DEx X (.Dict [] [] pos) wDnew := ⟨fun pins s σ H Q I ⟨ρ, M, Q', R, q, k⟩ => by
  have np := I.hok.fresh (Nat.le_refl s.heap.objs.size)
  have dr : (s.heap.push { cls := .type "dict", data := .dict #[] }).DictRaw s.heap.objs.size #[] 0 := ⟨_, Heap.get?_push_size _ rfl, ⟨rfl, rfl, rfl⟩, rfl⟩
  obtain ⟨m', k', n⟩ := R.mem.alloc (o := DX s.heap.objs.size (#[], 0)) (mo := .dict [] (#[], 0)) np fun t => ⟨upd_same, beq_eq_false_iff_ne.mpr (Ne.symm (Nat.ne_of_lt I.big)), Nat.zero_le _, .inr ⟨[], .nil, rfl, List.nodup_nil⟩⟩
  refine wpAny_Dict_empty ⟨.ref s.heap.objs.size, _, I.laid (a := s.heap.objs.size) (o := DX s.heap.objs.size (#[], 0)) (t' := s.toks) (fun _ _ q => Heap.get?_push_of_some _ q) (Nat.le_refl _) ?_, rfl, k _ _ (.ref s.heap.objs.size) _ rfl m' k' (q _ _ n)⟩
  exact dx_ok (t := (#[], 0)) dr⟩

/-! ### built-in functions -/
def dLen : WL := fun ds M Q => match ds with
  | [.tup xs] => Q (.int xs.length) M
  | [.str z] => z.length ≤ sizeLine ∧ Q (.int z.length) M
  | [.ref a] => match M a with
    | some (.lst xs) => Q (.int xs.length) M
    | some (.dict kvs _) => Q (.int kvs.length) M
    | _ => False
  | [.fl xs] => Q (.int xs.length) M
  | [.fd ks _] => Q (.int ks.length) M
  | _ => False
def dLenD : WL := fun ds M Q => match ds with
  | [.ref a] => ∃ kvs t, M a = some (.dict kvs t) ∧ Q (.int kvs.length) M
  | [.fd ks _] => Q (.int ks.length) M
  | _ => False
theorem dLenD_inv {ds : List D} {M : Mem} {Q : DK} (h : dLenD ds M Q) : (∃ a kvs t, ds = [.ref a] ∧ M a = some (.dict kvs t) ∧ Q (.int kvs.length) M) ∨ ∃ ks es, ds = [.fd ks es] ∧ Q (.int ks.length) M := by
  unfold dLenD at h
  split at h
  · rename_i a; obtain ⟨kvs, t, e, q⟩ := h; exact .inl ⟨a, kvs, t, rfl, e, q⟩
  · rename_i ks es; exact .inr ⟨ks, es, rfl, h⟩
  · exact h.elim
theorem reps1 {P : Program} {w : World} {K : PySem.W.Frag} {H : Hp} {d : D} {xs : List V} (r : Reps P w K H [d] xs) : ∃ v, xs = [v] ∧ Rep P w K H d v := by
  obtain ⟨v, r', rfl, h1, h2⟩ := r
  rw [show r' = [] from h2]; exact ⟨v, rfl, h1⟩
theorem reps2 {P : Program} {wd : World} {K : PySem.W.Frag} {H : Hp} {d e : D} {xs : List V} (r : Reps P wd K H [d, e] xs) : ∃ v w, xs = [v, w] ∧ Rep P wd K H d v ∧ Rep P wd K H e w := by
  obtain ⟨v, r', rfl, h1, h2⟩ := r
  obtain ⟨w, rfl, h3⟩ := reps1 h2
  exact ⟨v, w, rfl, h1, h3⟩
theorem call_lenD1 : CallR X (.builtin "len") (rOfL X dLenD) := by
  intro pins s σ H xs us Q I r h
  obtain ⟨M, ds, Q', m, rs, q, k⟩ := h
  rcases dLenD_inv q with ⟨a, kvs, t, rfl, hM, q⟩ | ⟨ks, es, rfl, q⟩
  · obtain ⟨v, rfl, h1⟩ := reps1 rs
    cases (show v = .ref a from h1)
    obtain ⟨u, rfl, ru⟩ := vals1 r
    cases (show u = Value.ref a from ru)
    exact w_len I (.of (m a _ hM)) fun tk s' I' => ⟨.int kvs.length, H, I', ⟨_, rfl⟩, k _ H (.int kvs.length) M rfl m .refl q⟩
  · obtain ⟨v, rfl, h1⟩ := reps1 rs
    obtain ⟨hl, a, t, rfl, fd⟩ := h1.fdict
    obtain ⟨u, rfl, ru⟩ := vals1 r
    cases (show u = Value.ref a from ru)
    have e : (ks.zip es).length = ks.length := by rw [List.length_zip]; omega
    refine w_len I (.ofF fd) fun tk s' I' => ⟨.int ks.length, H, I', ⟨_, by rw [e]⟩, k _ H (.int ks.length) M rfl m .refl q⟩
def rLenR (X : Cx) : List V → Hp → VK → Prop := fun xs H Q => rOfL X dLenD xs H Q ∨ ∃ x n, xs = [x] ∧ LenV X.K x H n ∧ Q (.int n) H
theorem call_lenR : CallR X (.builtin "len") (rLenR X) := call_lenD1.or call_len
theorem lift_len : LiftL X (rLenR X) dLen := by
  intro H M xs ds Q Q' m rs q k
  unfold dLen at q
  split at q
  · rename_i ys
    obtain ⟨v, rfl, a, vs, rfl, s, r⟩ := reps1 rs
    exact .inr ⟨_, ys.length, rfl, .inr ⟨vs, s, r.length⟩, k _ H (.int ys.length) M rfl m .refl q⟩
  · rename_i z
    obtain ⟨v, rfl, r⟩ := reps1 rs
    cases (show v = .str z from r)
    exact .inr ⟨_, z.length, rfl, ⟨q.1, rfl⟩, k _ H (.int z.length) M rfl m .refl q.2⟩
  · rename_i a
    obtain ⟨v, rfl, r⟩ := reps1 rs
    cases (show v = .ref a from r)
    cases c : M a with
    | none => rw [c] at q; exact q.elim
    | some mo =>
      rw [c] at q
      cases mo with
      | lst ys =>
        obtain ⟨vs, hh, r⟩ := m a _ c
        exact .inr ⟨_, ys.length, rfl, .inl ⟨vs, .of hh, r.length⟩, k _ H (.int ys.length) M rfl m .refl q⟩
      | dict kvs t => exact .inl ⟨M, [.ref a], Q', m, rs, by show dLenD [.ref a] M Q'; exact ⟨kvs, t, c, q⟩, k⟩
      | ins _ _ => exact q.elim
  · rename_i ys
    obtain ⟨v, rfl, a, vs, rfl, f, r⟩ := reps1 rs
    exact .inr ⟨_, ys.length, rfl, .inl ⟨vs, f.sql, r.length⟩, k _ H (.int ys.length) M rfl m .refl q⟩
  · rename_i ks es
    exact .inl ⟨M, [.fd ks es], Q', m, rs, q, k⟩
  · exact q.elim
end
end Fw

set_option Elab.async false
set_option linter.all false
set_option maxRecDepth 100000
set_option maxHeartbeats 4000000
/-! FwCall2: more built-in functions over data -/
namespace Fw
open PySem PySem.Spec PyProof.Rows L2

section
variable {X : Cx}
/-! ### what a dict's raw entries are -/
theorem cell_entry {P : Program} {w : World} {K : PySem.W.Frag} {H : Hp} {kvs : List (D × D)} {t : Tk} (e : EntF P w K H kvs t.1 ∨ EntT P w K H kvs t.1) :
    t.1.size = kvs.length ∧ ∀ (i : Nat) (k v : D), kvs[i]? = some (k, v) → ∃ en : DictEntry, t.1[i]? = some en ∧ (∃ x, Rep P w K H k x ∧ RelV x en.key) ∧ (∃ y, Rep P w K H v y ∧ RelV y en.val) := by
  rcases e with ⟨vs, q, k1, k2, k3⟩ | ⟨xs, q, k1, k2⟩
  · have l1 : t.1.size = vs.length := by rw [← k2.length, Array.length_toList]
    have l2 : kvs.length = vs.length := Paired.length q
    refine ⟨by omega, fun i k v hi => ?_⟩
    obtain ⟨p, hp, h1, x, h2, h3⟩ := paired_get q hi
    have hlt : i < t.1.size := by
      have := (List.getElem?_eq_some_iff.mp hi).1
      omega
    have he : t.1.toList[i]? = some t.1[i] := by simp [hlt]
    obtain ⟨g1, g2⟩ := k2.get? (e := t.1[i]) he hp
    refine ⟨t.1[i], by simp [hlt], ⟨kV p.1, ?_, relV_key (show keyIs p.1 t.1[i].key = true from g1)⟩, x, h2, by rw [g2]; exact h3⟩
    cases k <;> simp [D.flat?] at h1
    · rw [← h1]; rfl
    · rw [← h1]; rfl
  · have l1 : t.1.size = xs.length := size_of_entries k1
    have l2 : kvs.length = xs.length := Paired.length q
    refine ⟨by omega, fun i k v hi => ?_⟩
    obtain ⟨p, hp, ⟨h1, h2, h3, h4⟩, x, h5, h6⟩ := paired_get q hi
    have qe := entry_at k1 i
    rw [hp] at qe
    exact ⟨_, qe, ⟨_, h3, rfl⟩, x, h5, h6⟩
theorem vals_of_nth : ∀ {n : Nat} {us : List Value} (f : Nat → V), us.length = n → (∀ j u, us[j]? = some u → RelV (f j) u) → Vals ((List.range n).map f) us := fun {n us} f l h => by
  subst l
  exact vals_of_get us f h
theorem reps_of_nth {P : Program} {w : World} {K : PySem.W.Frag} {H : Hp} : ∀ {ds : List D} {vs : List V}, ds.length = vs.length → (∀ (j : Nat) d, ds[j]? = some d → ∃ v, vs[j]? = some v ∧ Rep P w K H d v) → Reps P w K H ds vs
  | [], [], _, _ => rfl
  | [], v :: vs, l, _ => by simp at l
  | d :: ds, [], l, _ => by simp at l
  | d :: ds, v :: vs, l, h => by
    refine .cons ?_ (reps_of_nth (by simpa using l) fun j e q => ?_)
    · obtain ⟨v', e, r⟩ := h 0 d rfl
      simp at e; subst e; exact r
    · obtain ⟨v', e', r⟩ := h (j + 1) e (by simpa using q)
      exact ⟨v', by simpa using e', r⟩
/-- values that bear data, as abstract values -/
theorem rv_vals {P : Program} {w : World} {K : PySem.W.Frag} {H : Hp} : ∀ {ds : List D} {us : List Value}, ds.length = us.length → (∀ (j : Nat) d u, ds[j]? = some d → us[j]? = some u → ∃ v, Rep P w K H d v ∧ RelV v u) → ∃ vs, Reps P w K H ds vs ∧ Vals vs us
  | [], [], _, _ => ⟨[], rfl, .nil⟩
  | [], v :: vs, l, _ => by simp at l
  | d :: ds, [], l, _ => by simp at l
  | d :: ds, u :: us, l, h => by
    obtain ⟨v, r, rv⟩ := h 0 d u rfl rfl
    obtain ⟨vs, h1, h2⟩ := rv_vals (ds := ds) (us := us) (by simpa using l) fun j e u' q q' => h (j + 1) e u' (by simpa using q) (by simpa using q')
    exact ⟨v :: vs, .cons r h1, .cons rv h2⟩
theorem dict_raw {pins : List (Addr × Obj)} {σ : L2.St} {H : Hp} {s : Shared} {a : Addr} {kvs : List (D × D)} {t : Tk} (I : Inv X pins σ H s) (c : RDict X H a kvs t) : ∃ o, s.heap.get? a = some o ∧ o.ExactDict ∧ o.data = .dict t.1 t.2 := c.raw I
/-- list(d) -/
theorem w_list_dict {pins : List (Addr × Obj)} {σ : L2.St} {H : Hp} {s : Shared} {a : Addr} {kvs : List (D × D)} {t : Tk} {Q : Value → Shared → Prop} {E : Value → Shared → Prop} (hc : X.calm = true) (I : Inv X pins σ H s) (c : RDict X H a kvs t)
    (h : ∀ p vs s', H p = none → Inv X pins σ (upd H p (.lst vs)) s' → Reps X.prog X.w X.K H (kvs.map (·.1)) vs → Q (.ref p) s') : wpAny (model X.prog X.w) X.A (call (.type "list") [.ref a]) Q E s := by
  obtain ⟨o, ho, hx, hd⟩ := dict_raw I c
  obtain ⟨sz, en⟩ := cell_entry c.en
  have hz := c.sz
  refine PySem.W.kdl_call (kdl_raw (dict_neq c) hx hd) (I.ok.hd hc) ho (by omega) fun h' tk acc' c' kp e it => ?_
  obtain ⟨vs, r1, r2⟩ := rv_vals (K := X.K) (H := H) (ds := kvs.map (·.1)) (us := acc'.toList) (by have l1 := it.1; have l2 : acc'.toList.length = acc'.size := Array.length_toList; have l3 : (kvs.map (·.1)).length = kvs.length := List.length_map _; omega) fun j d u hj hu => by
    rw [List.getElem?_map] at hj
    obtain ⟨p, hp, rfl⟩ := Option.map_eq_some_iff.mp hj
    obtain ⟨e1, g1, ⟨x, g2, g3⟩, _⟩ := en j p.1 p.2 hp
    obtain ⟨e2, g4, g5⟩ := it.2 j u (by rw [← Array.getElem?_toList]; exact hu)
    rw [g1] at g4; cases g4
    exact ⟨x, g2, by rw [g5]; exact g3⟩
  have l := r1.length
  rw [List.length_map] at l
  refine h _ vs _ (I.hok.fresh (Nat.le_refl _)) (I.laid (t' := tk) (o := .lst vs) kp (Nat.le_refl _) ?_) r1
  exact ⟨by omega, acc'.toList, c', r2, by rw [Array.toArray_toList]; exact e⟩

/-- what a call gives, frozen -/
theorem call_frz {f : Value} {r : List V → Hp → VK → Prop} (h : CallR X f r) : CallR X f fun xs H Q => r xs H fun v H1 => Q v H1 ∨ FQ v H1 Q := by
  intro pins s σ H xs us Q I rv q
  refine wpAny_mono (h pins s σ H xs us _ I rv q) (fun u s' ⟨v, H', I', r, q⟩ => ?_) fun _ _ z => z
  rcases q with q | ⟨p, x, e1, e2, mu, q⟩
  · exact ⟨v, H', I', r, q⟩
  · obtain ⟨o, I2⟩ := I'.lock e2 mu
    exact ⟨v, _, I2, r, q o⟩
/-! ### int, abs, str -/
def dInt1 : WL := fun ds M Q => match ds with
  | [.int i] => Q (.int i) M
  | [.bl b] => Q (.int (if b = true then 1 else 0)) M
  | _ => False
theorem lift_int1 : LiftL X (fun xs H Q => (∃ i, xs = [.int i] ∧ Q (.int i) H) ∨ ∃ k, xs = [.bl k] ∧ Q (.int (if k then 1 else 0)) H) dInt1 := by
  intro H M xs ds Q Q' m rs q k
  unfold dInt1 at q
  split at q
  · rename_i i; obtain ⟨v, rfl, r⟩ := reps1 rs; cases (show v = _ from r); exact .inl ⟨i, rfl, k _ H (.int i) M rfl m .refl q⟩
  · rename_i b; obtain ⟨v, rfl, r⟩ := reps1 rs; cases (show v = _ from r); exact .inr ⟨b, rfl, k _ H (.int _) M rfl m .refl q⟩
  · exact q.elim
def dAbs : WL := fun ds M Q => match ds with
  | [.int i] => Q (.int (if i < 0 then -i else i)) M
  | _ => False
theorem lift_abs : LiftL X (fun xs H Q => ∃ i, xs = [.int i] ∧ Q (.int (if i < 0 then -i else i)) H) dAbs := by
  intro H M xs ds Q Q' m rs q k
  unfold dAbs at q
  split at q
  · rename_i i; obtain ⟨v, rfl, r⟩ := reps1 rs; cases (show v = _ from r); exact ⟨i, rfl, k _ H (.int _) M rfl m .refl q⟩
  · exact q.elim
def dStr1 : WL := fun ds M Q => match ds with
  | [.int i] => i.natAbs.log2 < 1920 ∧ Q (.str (toString i)) M
  | _ => False
theorem lift_str1 : LiftL X (fun xs H Q => ∃ i, xs = [.int i] ∧ i.natAbs.log2 < 1920 ∧ Q (.str (toString i)) H) dStr1 := by
  intro H M xs ds Q Q' m rs q k
  unfold dStr1 at q
  split at q
  · rename_i i; obtain ⟨v, rfl, r⟩ := reps1 rs; cases (show v = _ from r); exact ⟨i, rfl, q.1, k _ H (.str _) M rfl m .refl q.2⟩
  · exact q.elim
/-! ### tuple, list -/
def dTuple : WL := fun ds M Q => match ds with
  | [.tup xs] => Q (.tup xs) M
  | [.ref a] => match M a with
    | some (.lst xs) => Q (.tup xs) M
    | _ => False
  | [.fl xs] => Q (.tup xs) M
  | _ => False
theorem lift_tuple : LiftL X (fun xs H Q => ∃ p ys, xs = [.ref p] ∧ ((SqL X.K H p ys ∧ ∀ l, H l = none → Q (.ref l) (upd H l (.tup ys))) ∨ (SqT X.K H p ys ∧ Q (.ref p) H))) dTuple := by
  intro H M xs ds Q Q' m rs q k
  unfold dTuple at q
  split at q
  · rename_i ys
    obtain ⟨v, rfl, a, vs, rfl, s, r⟩ := reps1 rs
    exact ⟨a, vs, rfl, .inr ⟨s, k _ H (.tup ys) M ⟨a, vs, rfl, s, r⟩ m .refl q⟩⟩
  · rename_i a
    obtain ⟨v, rfl, r⟩ := reps1 rs
    cases (show v = .ref a from r)
    split at q
    · rename_i ys c
      obtain ⟨vs, hh, r⟩ := m a _ c
      refine ⟨a, vs, rfl, .inl ⟨.of hh, fun p np => ?_⟩⟩
      obtain ⟨m', k'⟩ := m.allocT (o := .tup vs) np
      exact k _ _ (.tup ys) M ⟨p, vs, rfl, .of upd_same, Reps.keep (tkeep_new np) _ _ r⟩ m' k' q
    · exact q.elim
  · rename_i ys
    obtain ⟨v, rfl, a, vs, rfl, f, r⟩ := reps1 rs
    refine ⟨a, vs, rfl, .inl ⟨f.sql, fun p np => ?_⟩⟩
    obtain ⟨m', k'⟩ := m.allocT (o := .tup vs) np
    exact k _ _ (.tup ys) M ⟨p, vs, rfl, .of upd_same, Reps.keep (tkeep_new np) _ _ r⟩ m' k' q
  · exact q.elim
/-- the keys of a dict -/
def keysD (d : D) (M : Mem) : Option (List D) := match d with
  | .fd ks es => some ((ks.zip es).map (·.1))
  | .ref a => match M a with
    | some (.dict kvs _) => some (kvs.map (·.1))
    | _ => none
  | _ => none
theorem keysD_rd {H : Hp} {M : Mem} {d : D} {x : V} {ds : List D} (m : MRel X.prog X.w X.K H M) (r : Rep X.prog X.w X.K H d x) (h : keysD d M = some ds) : ∃ a kvs t, x = .ref a ∧ RDict X H a kvs t ∧ ds = kvs.map (·.1) := by
  cases d with
  | fd ks es =>
    cases h
    obtain ⟨_, a, t, rfl, fd⟩ := r.fdict
    exact ⟨a, _, t, rfl, .ofF fd, rfl⟩
  | ref a =>
    unfold keysD at h
    simp only at h
    cases c : M a with
    | none => rw [c] at h; cases h
    | some mo =>
      rw [c] at h
      cases mo with
      | dict kvs t => cases h; exact ⟨a, kvs, t, r, .of (m a _ c), rfl⟩
      | lst _ => cases h
      | ins _ _ => cases h
  | _ => cases h
def dListD : WL := fun ds M Q => ∃ d xs, ds = [d] ∧ keysD d M = some xs ∧ ∀ p, M p = none → Q (.ref p) (mset M p (.lst xs))
theorem call_listD (hc : X.calm = true) : CallR X (.type "list") (rOfL X dListD) := by
  intro pins s σ H xs us Q I r h
  obtain ⟨M, ds, Q', m, rs, ⟨d, ks, rfl, hk, q⟩, k⟩ := h
  obtain ⟨v, rfl, h1⟩ := reps1 rs
  obtain ⟨a, kvs, t, rfl, rd, rfl⟩ := keysD_rd m h1 hk
  obtain ⟨u, rfl, ru⟩ := vals1 r
  cases (show u = Value.ref a from ru)
  refine w_list_dict hc I rd fun p vs s' np I' r1 => ?_
  obtain ⟨m', k', n⟩ := m.alloc (o := .lst vs) (mo := .lst (kvs.map (·.1))) np fun t => ⟨_, upd_same, Reps.keep t _ _ r1⟩
  exact ⟨.ref p, _, I', rfl, k _ _ (.ref p) _ rfl m' k' (q p n)⟩
/-- what is told one by one: a tuple, a list, the keys of a dict -/
def itemsD (d : D) (M : Mem) : Option (List D) := match d with
  | .tup xs => some xs
  | .fl xs => some xs
  | .fd ks es => some ((ks.zip es).map (·.1))
  | .ref a => match M a with
    | some (.lst xs) => some xs
    | some (.dict kvs _) => some (kvs.map (·.1))
    | _ => none
  | _ => none
def dListM : WL := fun ds M Q => ∃ d xs, ds = [d] ∧ itemsD d M = some xs ∧ ∀ p, M p = none → Q (.ref p) (mset M p (.lst xs))
def dList : WL := fun ds M Q => ∃ d xs, ds = [d] ∧ itemsD d M = some xs ∧ Q (.fl xs) M
def rListR (X : Cx) : List V → Hp → VK → Prop := fun xs H Q => rOfL X dListD xs H Q ∨ (∃ p ys, xs = [.ref p] ∧ (SqL X.K H p ys ∨ SqT X.K H p ys) ∧ ∀ l, H l = none → Q (.ref l) (upd H l (.lst ys)))
theorem call_listR (hc : X.calm = true) : CallR X (.type "list") (rListR X) := (call_listD hc).or call_list_of
theorem lift_listM : LiftL X (rListR X) dListM := by
  intro H M xs ds Q Q' m rs ⟨d, zs, ed, ei, q⟩ k
  subst ed
  have fin : ∀ {ys : List D} {vs : List V}, Reps X.prog X.w X.K H ys vs → (∀ p, M p = none → Q' (.ref p) (mset M p (.lst ys))) → ∀ p, H p = none → Q (.ref p) (upd H p (.lst vs)) := fun {ys vs} r q p np => by
    obtain ⟨m', k', n⟩ := m.alloc (o := .lst vs) (mo := .lst ys) np fun t => ⟨_, upd_same, Reps.keep t _ _ r⟩
    exact k _ _ (.ref p) _ rfl m' k' (q p n)
  obtain ⟨v, rfl, rv⟩ := reps1 rs
  cases d with
  | tup ys => cases ei; obtain ⟨a, vs, rfl, s, r⟩ := rv; exact .inr ⟨a, vs, rfl, .inr s, fin r q⟩
  | fl ys => cases ei; obtain ⟨a, vs, rfl, f, r⟩ := rv; exact .inr ⟨a, vs, rfl, .inl f.sql, fin r q⟩
  | fd ks es => exact .inl ⟨M, _, Q', m, rs, ⟨_, _, rfl, ei, q⟩, k⟩
  | ref a =>
    cases (show v = .ref a from rv)
    unfold itemsD at ei
    simp only at ei
    cases c : M a with
    | none => rw [c] at ei; cases ei
    | some mo =>
      rw [c] at ei
      cases mo with
      | lst ys => cases ei; obtain ⟨vs, hh, r⟩ := m a _ c; exact .inr ⟨a, vs, rfl, .inl (.of hh), fin r q⟩
      | dict kvs t => cases ei; exact .inl ⟨M, _, Q', m, rs, ⟨.ref a, _, rfl, by unfold keysD; simp only [c], q⟩, k⟩
      | ins _ _ => cases ei
  | _ => cases ei
/-- a frozen new list, where a list may be had -/
theorem lift_new {r : List V → Hp → VK → Prop} {gM : WL} (l : LiftL X r gM) : LiftL X (fun xs H Q => r xs H fun v H1 => Q v H1 ∨ FQ v H1 Q) (fun ds M Q => gM ds M fun d M1 => (∃ p M0 ys, d = .ref p ∧ M0 p = none ∧ M1 = mset M0 p (.lst ys) ∧ Q (.fl ys) M0)) := by
  intro H M xs ds Q Q' m rs q k
  refine l H M xs ds _ _ m rs q fun v H' d' M' r' m' k' ⟨p, M0, ys, ed, n0, em, q'⟩ => .inr ?_
  subst ed em
  obtain ⟨vs, e, rs'⟩ := m' p _ mset_same
  refine ⟨p, .lst vs, r', e, True.intro, fun o => ?_⟩
  obtain ⟨m2, k2⟩ := m'.lock (o := o) mset_same e True.intro
  rw [mdel_mset n0] at m2 k2
  exact k _ _ (.fl ys) M0 ⟨p, vs, r', ⟨o, upd_same⟩, Reps.keep (tkeep_lock e True.intro) _ _ rs'⟩ m2 (k'.trans k2) q'
theorem liftL_mono {r : List V → Hp → VK → Prop} {g g' : WL} (l : LiftL X r g) (h : ∀ ds M Q, g' ds M Q → g ds M Q) : LiftL X r g' := fun H M xs ds Q Q' m rs q k => l H M xs ds Q Q' m rs (h _ _ _ q) k
theorem lift_list : LiftL X (fun xs H Q => rListR X xs H fun v H1 => Q v H1 ∨ FQ v H1 Q) dList := liftL_mono (lift_new lift_listM) fun ds M Q ⟨d, xs, e1, e2, q⟩ => ⟨d, xs, e1, e2, fun p np => ⟨p, M, xs, rfl, np, rfl, q⟩⟩
/-! ### all, any, sum -/
def dAll (f : List Bool → Bool) : WL := fun ds M Q => match ds with
  | [.ref a] => match M a with
    | some (.lst xs) => ∃ bs, xs = List.map D.bl bs ∧ Q (.bl (f bs)) M
    | _ => False
  | [.fl xs] => ∃ bs, xs = List.map D.bl bs ∧ Q (.bl (f bs)) M
  | _ => False
theorem lift_all : LiftL X (rAll X.K) (dAll fun bs => bs.all id) := by
  intro H M xs ds Q Q' m rs q k
  unfold dAll at q
  split at q
  · rename_i a
    obtain ⟨v, rfl, r⟩ := reps1 rs
    cases (show v = .ref a from r)
    split at q
    · rename_i ys c
      obtain ⟨bs, rfl, q⟩ := q
      obtain ⟨vs, hh, r⟩ := m a _ c
      exact ⟨a, bs, rfl, by rw [← Reps.bls_eq r]; exact .of hh, k _ H (.bl _) M rfl m .refl q⟩
    · exact q.elim
  · rename_i ys
    obtain ⟨bs, rfl, q⟩ := q
    obtain ⟨v, rfl, a, vs, rfl, f, r⟩ := reps1 rs
    exact ⟨a, bs, rfl, by rw [← Reps.bls_eq r]; exact f.sql, k _ H (.bl _) M rfl m .refl q⟩
  · exact q.elim
theorem lift_any : LiftL X (rAny X.K) (dAll fun bs => bs.any id) := by
  intro H M xs ds Q Q' m rs q k
  unfold dAll at q
  split at q
  · rename_i a
    obtain ⟨v, rfl, r⟩ := reps1 rs
    cases (show v = .ref a from r)
    split at q
    · rename_i ys c
      obtain ⟨bs, rfl, q⟩ := q
      obtain ⟨vs, hh, r⟩ := m a _ c
      exact ⟨a, bs, rfl, by rw [← Reps.bls_eq r]; exact .of hh, k _ H (.bl _) M rfl m .refl q⟩
    · exact q.elim
  · rename_i ys
    obtain ⟨bs, rfl, q⟩ := q
    obtain ⟨v, rfl, a, vs, rfl, f, r⟩ := reps1 rs
    exact ⟨a, bs, rfl, by rw [← Reps.bls_eq r]; exact f.sql, k _ H (.bl _) M rfl m .refl q⟩
  · exact q.elim
def dSum : WL := fun ds M Q => match ds with
  | [.ref a] => match M a with
    | some (.lst xs) => ∃ ns, xs = List.map D.int ns ∧ Q (.int ns.sum) M
    | _ => False
  | [.fl xs] => ∃ ns, xs = List.map D.int ns ∧ Q (.int ns.sum) M
  | _ => False
theorem lift_sum : LiftL X (rSum X.K) dSum := by
  intro H M xs ds Q Q' m rs q k
  unfold dSum at q
  split at q
  · rename_i a
    obtain ⟨v, rfl, r⟩ := reps1 rs
    cases (show v = .ref a from r)
    split at q
    · rename_i ys c
      obtain ⟨ns, rfl, q⟩ := q
      obtain ⟨vs, hh, r⟩ := m a _ c
      exact ⟨a, ns, rfl, by rw [← Reps.ints_eq r]; exact .of hh, k _ H (.int _) M rfl m .refl q⟩
    · exact q.elim
  · rename_i ys
    obtain ⟨ns, rfl, q⟩ := q
    obtain ⟨v, rfl, a, vs, rfl, f, r⟩ := reps1 rs
    exact ⟨a, ns, rfl, by rw [← Reps.ints_eq r]; exact f.sql, k _ H (.int _) M rfl m .refl q⟩
  · exact q.elim
end
end Fw

set_option Elab.async false
set_option linter.all false
set_option maxRecDepth 100000
set_option maxHeartbeats 4000000
/-! FwSort: sorted over data -/
namespace Fw
open PySem PySem.Spec PyProof.Rows L2

/-- the data as the library tells it -/
def D.pyd (d : D) : PyData := d.py.getD .none
theorem pys_map : ∀ {ds : List D} {ps : List PyData}, D.pys ds = some ps → ds.map D.pyd = ps
  | [], ps, h => by simp [D.pys] at h; subst h; rfl
  | d :: ds, ps, h => by
    rw [D.pys] at h
    split at h
    · rename_i k ks e1 e2
      simp at h; subst h
      rw [List.map_cons, pys_map e2, D.pyd, e1]; rfl
    · simp at h
section
variable {X : Cx} {pins : List (Addr × Obj)} {σ : L2.St} {H : Hp} {s : Shared}
mutual
theorem reads0 (I : Inv X pins σ H s) : ∀ (d : D) (p : PyData) (v : V) (u : Value), d.py = some p → Rep X.prog X.w X.K H d v → RelV v u → Reads s.heap u p []
  | .non, p, v, u, e, r, rv => by simp [D.py] at e; subst e; cases (show v = _ from r); cases (show u = _ from rv); exact .none
  | .bl b, p, v, u, e, r, rv => by simp [D.py] at e; subst e; cases (show v = _ from r); cases (show u = _ from rv); exact .bool b
  | .int i, p, v, u, e, r, rv => by simp [D.py] at e; subst e; cases (show v = _ from r); obtain ⟨t, rfl⟩ := rv; exact .int i t
  | .str i, p, v, u, e, r, rv => by simp [D.py] at e; subst e; cases (show v = _ from r); obtain ⟨t, rfl⟩ := rv; exact .str i t
  | .ref _, p, v, u, e, r, rv => by simp [D.py] at e
  | .fl _, p, v, u, e, r, rv => by simp [D.py] at e
  | .fd _ _, p, v, u, e, r, rv => by simp [D.py] at e
  | .tup ds, p, v, u, e, r, rv => by
    simp only [D.py, Option.map_eq_some_iff] at e
    obtain ⟨ps, e, rfl⟩ := e
    obtain ⟨a, vs, rfl, sq, rs⟩ := r
    cases (show u = Value.ref a from rv)
    obtain ⟨its, rv, ⟨o, ho, hc, n, hd⟩, _⟩ := I.tuple sq
    exact .tuple ho hc hd (by simpa using readss0 I ds ps vs its e rs rv)
theorem readss0 (I : Inv X pins σ H s) : ∀ (ds : List D) (ps : List PyData) (vs : List V) (us : List Value), D.pys ds = some ps → Reps X.prog X.w X.K H ds vs → Vals vs us → ReadsAll s.heap us ps []
  | [], ps, vs, us, e, r, rv => by
    simp [D.pys] at e; subst e
    rw [show vs = [] from r] at rv; cases rv; exact .nil
  | d :: ds, ps, vs, us, e, r, rv => by
    obtain ⟨v, r', rfl, h1, h2⟩ := r
    rw [D.pys] at e
    split at e
    · rename_i k ks' e1 e2
      simp at e; subst e
      cases rv with
      | cons q1 q2 =>
        have := ReadsAll.cons (reads0 I d k v _ e1 h1 q1) (readss0 I ds ks' r' _ e2 h2 q2)
        exact this
    · simp at e
end
abbrev RD (X : Cx) (H : Hp) (u : Value) (d : D) : Prop := ∃ v, Rep X.prog X.w X.K H d v ∧ RelV v u
theorem each_of : ∀ {ds : List D} {vs : List V} {us : List Value}, Reps X.prog X.w X.K H ds vs → Vals vs us → PySem.W.EachIs (RD X H) us ds
  | [], _, _, r, rv => by rw [show _ = _ from r] at rv; cases rv; exact .nil
  | d :: ds, _, _, r, rv => by
    obtain ⟨v, r', rfl, h1, h2⟩ := r
    cases rv with
    | cons q1 q2 => exact .cons ⟨v, h1, q1⟩ (each_of h2 q2)
theorem of_each : ∀ {ds : List D} {us : List Value}, PySem.W.EachIs (RD X H) us ds → ∃ vs, Reps X.prog X.w X.K H ds vs ∧ Vals vs us
  | [], _, .nil => ⟨[], rfl, .nil⟩
  | d :: ds, _, .cons ⟨v, h1, q1⟩ t => by
    obtain ⟨vs, h2, q2⟩ := of_each t
    exact ⟨v :: vs, .cons h1 h2, .cons q1 q2⟩
theorem each_reads (I : Inv X pins σ H s) : ∀ {ds : List D} {ps : List PyData} {us : List Value}, D.pys ds = some ps → PySem.W.EachIs (RD X H) us ds → PySem.W.EachIs (fun u d => Reads s.heap u d.pyd []) us ds
  | [], _, _, _, .nil => .nil
  | d :: ds, ps, _, e, .cons ⟨v, h1, q1⟩ t => by
    rw [D.pys] at e
    split at e
    · rename_i k ks' e1 e2
      refine .cons ?_ (each_reads I e2 t)
      have := reads0 I d k v _ e1 h1 q1
      rw [D.pyd, e1]; exact this
    · simp at e
end

/-- what sorted can sort -/
def SortOk (ds : List D) : Prop := ∃ ps, D.pys ds = some ps ∧ PySem.W.AllAlike ps ∧ PySem.W.Sortable ps ∧ ∀ p ∈ ps, p.depth ≤ 32
def sortD (ds : List D) : List D := ds.mergeSort (PySem.W.dataLe false D.pyd)

section
variable {prog : Program} {w : World} {A : Around} {E : Value → Shared → Prop} {s : Shared}
/-- sorted of anything that is collected: then the new list's own sort -/
theorem sorted_gen {r : Value} {vs : List Value} {kw : List (Str × Value)} {Q : Value → Shared → Prop} (ha1 : argsOk "sorted" ⟨[r], kw⟩) (hL : vs.length ≤ sizeLine)
    (hcol : ∀ (R : List Value → Shared → Prop) (E' : Value → Shared → Prop), (∀ (h' : Heap) (tk : Nat), (∀ b o, s.heap.get? b = some o → h'.get? b = some o) → R vs { s with heap := h', toks := tk }) → wpAny (model prog w) A.in1 (collect r) R E' s)
    (hsort : ∀ (E' : Value → Shared → Prop) (h' : Heap) (tk : Nat), (∀ b o, s.heap.get? b = some o → h'.get? b = some o) → wpAny (model prog w) A.in1 (call (.builtin "list.sort") [.ref h'.objs.size] kw) (fun _ s' => Q (.ref h'.objs.size) s') E' { s with heap := h'.push { cls := .type "list", data := .seq vs.toArray }, toks := tk }) :
    wpAny (model prog w) A (call (.builtin "sorted") [r] kw) Q E s := by
  refine call_function_entry_kw kind_sorted plain_sorted entry_sorted ha1 ?_
  unfold Builtin.«sorted»
  refine wpAny_bind (m := checkCount "sorted" 1 1 _) (wpAny_pure ?_)
  refine wpAny_bind (hcol _ _ fun h' tk hk => ?_)
  refine wpAny_bind (wpAny_newList ?_ hL)
  refine wpAny_bind (wpAny_holding (wpAny_mono (hsort _ h' tk hk) (fun _ s' x => ?_) fun _ _ e => e))
  exact wpAny_pure ⟨_, rfl, x⟩
theorem collect_kept_list {l : Addr} {vs : List Value} {R : List Value → Shared → Prop} (hl : s.heap.IsList l vs.toArray) (hz : vs.length ≤ sizeLine)
    (h : ∀ (h' : Heap) (tk : Nat), (∀ b o, s.heap.get? b = some o → h'.get? b = some o) → R vs { s with heap := h', toks := tk }) : wpAny (model prog w) A (collect (.ref l)) R E s :=
  collect_list hl (h _ s.toks fun b o q => by
    have hlt : b < s.heap.objs.size := Heap.lt_size q
    rw [Heap.get?_update_ne _ _ _ _ (Nat.ne_of_lt hlt), Heap.get?_push_ne _ _ _ (Nat.ne_of_lt hlt)]; exact q) hz
theorem collect_kept_dict {d : Addr} {o : Obj} {es : Array DictEntry} {ep : Nat} {R : List Value → Shared → Prop} (hh : A.handled = none) (lo : (d == sysModules) = false) (ho : s.heap.get? d = some o) (hx : o.ExactDict) (hd : o.data = .dict es ep) (hz : es.size ≤ sizeLine)
    (h : ∀ (h' : Heap) (tk : Nat), (∀ b o, s.heap.get? b = some o → h'.get? b = some o) → R (es.toList.map (·.key)) { s with heap := h', toks := tk }) : wpAny (model prog w) A (collect (.ref d)) R E s :=
  PySem.W.kdu_collect (kdl_raw lo hx hd) hh ho hz fun h' tk acc hk hacc => by
    have e : acc.toList = es.toList.map (·.key) := by
      apply List.ext_getElem?
      intro j
      have l := hacc.1
      cases hj : acc.toList[j]? with
      | none =>
        have h1 := List.getElem?_eq_none_iff.mp hj
        rw [Array.length_toList] at h1
        rw [List.getElem?_eq_none (by rw [List.length_map, Array.length_toList]; omega)]
      | some v =>
        obtain ⟨en, h1, h2⟩ := hacc.2 j v (by rw [← Array.getElem?_toList]; exact hj)
        rw [List.getElem?_map, Array.getElem?_toList, h1, h2]; rfl
    rw [e]
    exact h h' tk hk
end
section
variable {X : Cx}
/-- a new thing at a place where nothing stands -/
theorem laid_at {pins : List (Addr × Obj)} {σ : L2.St} {H : Hp} {s : Shared} {h' : Heap} {a : Addr} {o : HO} {t' : Nat} (I : Inv X pins σ H s) (k : ∀ b u, s.heap.get? b = some u → h'.get? b = some u) (hg : s.heap.get? a = none) (hn : H a = none) (new : ObjOk X.prog X.w (upd H a o) h' a o) :
    Inv X pins σ (upd H a o) { s with heap := h', toks := t' } := by
  have ne : ∀ b u, s.heap.get? b = some u → b ≠ a := fun b u q z => by subst z; rw [hg] at q; cases q
  have ok : HOk X.prog X.w (upd H a o) h' := fun b u e => by
    by_cases hb : b = a
    · subst hb; rw [upd_same] at e; cases e; exact new
    · rw [upd_ne hb] at e
      exact (I.hok b u e).stay (fun c v _ q => k c v q) (fun c q => by rw [upd_ne (ne_of_none q hn)]; exact q) fun c xs q => by rw [upd_ne (ne_of_none q hn)]; exact q
  exact I.un (t' := t') ⟨fun b u q _ _ _ => k b u q, fun b u q _ _ _ => ⟨u.slots, k b u q⟩, fun b u q n _ => by rw [upd_ne (ne b u q)]; exact n, fun b u q _ => ⟨u, k b u q⟩,
    fun b xs q => by rw [upd_ne (ne_of_none q hn)]; exact q, fun b u xs q => by rw [upd_ne (ne_of_none q hn)]; exact q, fun b ps q => ⟨#[], by rw [upd_ne (ne_of_none q hn), q]; simp⟩⟩ ok
theorem ok_some {P : Program} {w : World} {H : Hp} {h : Heap} {a : Addr} {o : HO} (x : ObjOk P w H h a o) : ∃ u, h.get? a = some u := by
  cases o with
  | lst xs => obtain ⟨_, _, _, _, e⟩ := x; exact ⟨_, e⟩
  | tup xs => obtain ⟨_, _, _, o, e, _⟩ := x; exact ⟨_, e⟩
  | dK kvs => obtain ⟨_, _, _, _, o, _, _, e, _⟩ := x; exact ⟨_, e⟩
  | dT kvs => obtain ⟨_, _, _, _, o, _, _, e, _⟩ := x; exact ⟨_, e⟩
  | set S n => obtain ⟨o, _, _, _, e, _⟩ := x; exact ⟨_, e⟩
  | ins C dx fs => obtain ⟨_, _, _, e, _⟩ := x; exact ⟨_, e⟩
  | own y => exact x
  | xd fs => obtain ⟨_, ⟨_, _, _, e, _⟩, _⟩ := x; exact ⟨_, e⟩
  | rng lo hi => obtain ⟨_, _, _, e⟩ := x; exact ⟨_, e⟩
  | frz ob u => obtain ⟨e, _⟩ := x; exact ⟨_, e⟩
  | tbl ps => exact ⟨_, x⟩
  | met f y => exact ⟨_, x⟩
  | ext φ => exact x.2.1
theorem none_there {H : Hp} {s : Shared} {h' : Heap} {a : Addr} {P : Program} {w : World} (ok : HOk P w H s.heap) (k : ∀ b u, s.heap.get? b = some u → h'.get? b = some u) (hz : h'.objs.size ≤ a) : s.heap.get? a = none ∧ H a = none := by
  have e := Heap.get?_none_of_le hz
  have g : s.heap.get? a = none := by
    cases q : s.heap.get? a with
    | none => rfl
    | some u => rw [k a u q] at e; cases e
  refine ⟨g, ?_⟩
  cases q : H a with
  | none => rfl
  | some o =>
    obtain ⟨u, hu⟩ := ok_some (ok a o q)
    rw [g] at hu; cases hu
/-- what is sorted -/
def dSortedM : WL := fun ds M Q => ∃ d xs, ds = [d] ∧ itemsD d M = some xs ∧ (∀ ys, d ≠ .tup ys) ∧ SortOk xs ∧ ∀ p, M p = none → Q (.ref p) (mset M p (.lst (sortD xs)))
def dSorted : WL := fun ds M Q => ∃ d xs, ds = [d] ∧ itemsD d M = some xs ∧ (∀ ys, d ≠ .tup ys) ∧ SortOk xs ∧ Q (.fl (sortD xs)) M
/-- the keys of a dict, as values -/
theorem keys_each {H : Hp} {a : Addr} {kvs : List (D × D)} {t : Tk} (c : RDict X H a kvs t) : PySem.W.EachIs (RD X H) (t.1.toList.map (·.key)) (kvs.map (·.1)) ∧ t.1.size ≤ sizeLine := by
  obtain ⟨sz, en⟩ := cell_entry c.en
  have l3 : (kvs.map (·.1)).length = kvs.length := List.length_map _
  have l4 : (t.1.toList.map (·.key)).length = t.1.size := by rw [List.length_map, Array.length_toList]
  obtain ⟨vs, r1, r2⟩ := rv_vals (K := X.K) (H := H) (ds := kvs.map (·.1)) (us := t.1.toList.map (·.key)) (by omega) fun j d u hj hu => by
    rw [List.getElem?_map] at hj hu
    obtain ⟨p, hp, rfl⟩ := Option.map_eq_some_iff.mp hj
    obtain ⟨e1, g1, ⟨x, g2, g3⟩, _⟩ := en j p.1 p.2 hp
    rw [Array.getElem?_toList, g1] at hu
    cases hu
    exact ⟨x, g2, g3⟩
  exact ⟨each_of r1 r2, by rw [sz]; exact c.sz⟩
/-- what is sorted: the values and the data that they bear -/
theorem sorted_run {pins : List (Addr × Obj)} {σ : L2.St} {H : Hp} {s : Shared} {M : Mem} {xs : List D} {us : List Value} {r : Value} {Q : VK} {Q' : DK} (hu : X.A.units + 64 < cLine) (I : Inv X pins σ H s) (m : MRel X.prog X.w X.K H M) (ea : PySem.W.EachIs (RD X H) us xs) (ok : SortOk xs) (hz : us.length ≤ sizeLine)
    (ha1 : argsOk "sorted" ⟨[r], []⟩)
    (hcol : ∀ (R : List Value → Shared → Prop) (E' : Value → Shared → Prop), (∀ (h' : Heap) (tk : Nat), (∀ b o, s.heap.get? b = some o → h'.get? b = some o) → R us { s with heap := h', toks := tk }) → wpAny (model X.prog X.w) X.A.in1 (collect r) R E' s)
    (q : ∀ p, M p = none → Q' (.ref p) (mset M p (.lst (sortD xs)))) (k : ∀ v H' d' M', Rep X.prog X.w X.K H' d' v → MRel X.prog X.w X.K H' M' → Keep H M H' M' → Q' d' M' → Q v H') : wpAny (model X.prog X.w) X.A (call (.builtin "sorted") [r]) (EP X pins σ Q) X.xe s := by
  obtain ⟨ps, e1, al, so, dp⟩ := ok
  have len := ea.length
  refine sorted_gen ha1 hz hcol fun E' h' tk hk => ?_
  have ho : (h'.push { cls := .type "list", data := .seq us.toArray }).get? h'.objs.size = some (seqObj "list" us.toArray 0) := Heap.get?_push_size _ rfl
  have kp : ∀ b o, s.heap.get? b = some o → (h'.push { cls := .type "list", data := .seq us.toArray }).get? b = some o := fun b o q => Heap.get?_push_of_some _ (hk b o q)
  have hne : ∀ b o, s.heap.get? b = some o → b ≠ h'.objs.size := fun b o q => Nat.ne_of_lt (Heap.lt_size (hk b o q))
  have er := each_reads I e1 ea
  have em : xs.map D.pyd = ps := pys_map e1
  refine PySem.W.list_sort_data (enc := D.pyd) (R := RD X H) ho ea (er.mono fun u d q => ⟨[], PyProof.Rows.Reads.keeps kp q, by simp⟩) (by rw [em]; exact al) (by rw [em]; exact so) (by rw [← len]; exact hz) (fun d hd => ?_) fun out hl eo => ?_
  · have hp : d.pyd ∈ ps := by rw [← em]; exact List.mem_map.mpr ⟨d, hd, rfl⟩
    have := dp _ hp
    show X.A.units + 1 + 1 + d.pyd.depth < cLine
    omega
  · obtain ⟨vs, r1, r2⟩ := of_each eo
    obtain ⟨ng, np⟩ := none_there I.hok hk (Nat.le_refl _)
    obtain ⟨m', k', n⟩ := m.alloc (o := .lst vs) (mo := .lst (sortD xs)) np fun t => ⟨_, upd_same, Reps.keep t _ _ r1⟩
    obtain ⟨ep, he'⟩ := PyProof.Rows.sortedHeap_at (vs := us) (out := out.toArray) ho
    refine ⟨.ref h'.objs.size, _, laid_at (s := s) I (t' := tk) (a := h'.objs.size) (o := .lst vs) (fun b u hu => ?_) ng np ?_, rfl, k _ _ (.ref h'.objs.size) _ rfl m' k' (q _ n)⟩
    · rw [PyProof.Rows.sortedHeap_old (hne b u hu) (Heap.lt_size (kp b u hu))]; exact kp b u hu
    · exact ⟨by rw [← r2.length] at hl; omega, out, ep, r2, he'⟩
/-- what may be told one by one, as the heap has it -/
theorem items_rd {H : Hp} {M : Mem} {d : D} {x : V} {ds : List D} (m : MRel X.prog X.w X.K H M) (r : Rep X.prog X.w X.K H d x) (h : itemsD d M = some ds) : ∃ a, x = .ref a ∧ ((∃ vs, SqT X.K H a vs ∧ Reps X.prog X.w X.K H ds vs ∧ d = .tup ds) ∨ (∃ vs, SqL X.K H a vs ∧ Reps X.prog X.w X.K H ds vs) ∨ ∃ kvs t, RDict X H a kvs t ∧ ds = kvs.map (·.1)) := by
  cases d with
  | tup ys => cases h; obtain ⟨a, vs, rfl, s, r⟩ := r; exact ⟨a, rfl, .inl ⟨vs, s, r, rfl⟩⟩
  | fl ys => cases h; obtain ⟨a, vs, rfl, f, r⟩ := r; exact ⟨a, rfl, .inr (.inl ⟨vs, f.sql, r⟩)⟩
  | fd ks es => cases h; obtain ⟨_, a, t, rfl, fd⟩ := r.fdict; exact ⟨a, rfl, .inr (.inr ⟨_, t, .ofF fd, rfl⟩)⟩
  | ref a =>
    cases (show x = .ref a from r)
    unfold itemsD at h
    simp only at h
    cases c : M a with
    | none => rw [c] at h; cases h
    | some mo =>
      rw [c] at h
      cases mo with
      | lst ys => cases h; obtain ⟨vs, hh, r⟩ := m a _ c; exact ⟨a, rfl, .inr (.inl ⟨vs, .of hh, r⟩)⟩
      | dict kvs t => cases h; exact ⟨a, rfl, .inr (.inr ⟨kvs, t, .of (m a _ c), rfl⟩)⟩
      | ins _ _ => cases h
  | _ => cases h
theorem call_sortedA (hc : X.calm = true) (hu : X.A.units + 64 < cLine) : CallR X (.builtin "sorted") (rOfL X dSortedM) := by
  intro pins s σ H xs us Q I r h
  obtain ⟨M, ds, Q', m, rs, ⟨d, ys, rfl, hi, nt, ok, q⟩, k⟩ := h
  obtain ⟨v, rfl, h1⟩ := reps1 rs
  obtain ⟨a, rfl, hr⟩ := items_rd m h1 hi
  obtain ⟨u, rfl, ru⟩ := vals1 r
  cases (show u = Value.ref a from ru)
  rcases hr with ⟨vs, _, _, e⟩ | ⟨vs, hl, r⟩ | ⟨kvs, t, ce, rfl⟩
  · exact (nt _ e).elim
  · obtain ⟨its, rv, pl, hz⟩ := I.list hl
    have l := rv.length
    exact sorted_run hu I m (each_of r rv) ok (by omega) (args_sorted1 _) (fun R E' h => collect_kept_list pl.isList (by omega) h) q k
  · obtain ⟨o, ho, hx, hd⟩ := dict_raw I ce
    obtain ⟨ea, hz⟩ := keys_each ce
    exact sorted_run hu I m ea ok (by rw [List.length_map, Array.length_toList]; exact hz) (args_sorted1 _) (fun R E' h => collect_kept_dict (I.ok.hd hc) (dict_neq ce) ho hx hd hz h) q k
theorem lift_sorted : LiftL X (fun xs H Q => rOfL X dSortedM xs H fun v H1 => Q v H1 ∨ FQ v H1 Q) dSorted := liftL_mono (lift_new lift_ofL) fun ds M Q ⟨d, xs, e1, e2, e3, e4, q⟩ => ⟨d, xs, e1, e2, e3, e4, fun p np => ⟨p, M, _, rfl, np, rfl, q⟩⟩
end
end Fw

set_option Elab.async false
set_option linter.all false
set_option maxRecDepth 100000
set_option maxHeartbeats 4000000
/-! FwIter: what loops walk, over data -/
namespace Fw
open PySem PySem.Spec PyProof.Rows L2

/-- what is walked: its items, and what must stay as it is meanwhile -/
structure Src where
  items : List D
  stab : Mem → Prop
abbrev WI := Env → Mem → (Src → Mem → Prop) → Prop
structure ItOk (X : Cx) (J : It) (src : Src) (H0 : Hp) (M0 : Mem) : Prop where
  go : ∀ i H M, MRel X.prog X.w X.K H M → Keep H0 M0 H M → src.stab M → i < src.items.length → J.go i H
  yld : ∀ i H M x H', MRel X.prog X.w X.K H M → Keep H0 M0 H M → src.stab M → i < src.items.length → J.yld i H x H' → ∃ d, src.items[i]? = some d ∧ Rep X.prog X.w X.K H' d x ∧ MRel X.prog X.w X.K H' M ∧ Keep H M H' M
  stop : ∀ H M, MRel X.prog X.w X.K H M → Keep H0 M0 H M → src.stab M → J.stop src.items.length H
def lI (X : Cx) (w : WI) : TI := fun σ H R => ∃ ρ M Q', Rl X σ H ρ M ∧ w ρ M Q' ∧ ∀ J H' src M', MRel X.prog X.w X.K H' M' → Keep H M H' M' → ItOk X J src H' M' → Q' src M' → R J H'
abbrev DI (X : Cx) (tg iter : Expr) (w : WI) : Prop := PI X tg iter (lI X w)

/-! ### dicts, raw -/
section
variable {P : Program} {w : World} {K : PySem.W.Frag} {tg : Expr}
def RawD (K : PySem.W.Frag) (H : Hp) (d : Addr) (t : Tk) : Prop := H d = some (DX d t) ∨ FzD K H d t
theorem RawD.at' {X : Cx} {pins : List (Addr × Obj)} {σ : L2.St} {H : Hp} {s : Shared} {d : Addr} {t : Tk} (I : Inv X pins σ H s) (h : RawD X.K H d t) : ∃ o, s.heap.get? d = some o ∧ o.ExactDict ∧ o.data = .dict t.1 t.2 := by
  rcases h with h | ⟨o, e⟩ | ⟨o, e, hx, hd⟩
  · exact (I.hok d _ h).1
  · exact (I.hok d _ e).2.1
  · exact ⟨o, I.kIn d o e, hx, hd⟩
def ItK (K : PySem.W.Frag) (d : Addr) (t : Tk) : It := ⟨fun i H => i < t.1.size ∧ RawD K H d t, fun i H x H' => H' = H ∧ ∃ en : DictEntry, t.1[i]? = some en ∧ RelV x en.key, fun i H => t.1.size ≤ i ∧ RawD K H d t⟩
def ItV (K : PySem.W.Frag) (d : Addr) (t : Tk) : It := ⟨fun i H => i < t.1.size ∧ RawD K H d t, fun i H x H' => H' = H ∧ ∃ en : DictEntry, t.1[i]? = some en ∧ RelV x en.val, fun i H => t.1.size ≤ i ∧ RawD K H d t⟩
def ItI (K : PySem.W.Frag) (d : Addr) (t : Tk) : It := ⟨fun i H => i < t.1.size ∧ RawD K H d t, fun i H x H' => ∃ (T : Addr) (y z : V) (en : DictEntry), x = .ref T ∧ H T = none ∧ H' = upd H T (.tup [y, z]) ∧ t.1[i]? = some en ∧ RelV y en.key ∧ RelV z en.val, fun i H => t.1.size ≤ i ∧ RawD K H d t⟩
/-- every stored value is a value of the layer -/
def EnV (t : Tk) : Prop := ∀ (i : Nat) (en : DictEntry), t.1[i]? = some en → (∃ y, RelV y en.key) ∧ ∃ z, RelV z en.val
theorem turn_k (d it : Addr) (t : Tk) (ev : EnV t) : Turn P w K tg (ItK K d t) [it] it (fun i h => h.IsKeyIter it d i t.1.size t.2) where
  mem := by simp
  obj := fun i h st b hb => by
    have e : b = it := by simpa using hb
    subst e
    obtain ⟨oi, e, c, dd⟩ := st
    exact ⟨oi, e, fun v z => by rw [dd] at z; cases z⟩
  keep := fun i h h' st k => st.at fun oi e => k it (by simp) oi e
  item := by
    intro X hP hw hK hc i pins s σ H E I hf st hg
    subst hP hw hK
    obtain ⟨hi, hd⟩ := hg
    obtain ⟨f0, f1, f2, f3, f4, f5⟩ := hf it (by simp)
    have raw := (RawD.at' I hd)
    obtain ⟨⟨y, ry⟩, _⟩ := ev i t.1[i] (by simp [hi])
    refine wpAny_pyNext_keys_item_raw st raw hi fun h' st' sb => ?_
    have I1 : Inv X pins σ H { s with heap := h' } := I.turned (t' := s.toks) (fun b ob hb e => (sb.2 b hb).trans e) f0 f1 f3 f4 f5
    obtain ⟨oi, e, c, dd⟩ := id st'
    exact ⟨_, rfl, go_of (s := { s with heap := h' }) e c dd (by decide) ⟨y, H, I1, ry, ⟨rfl, _, by simp [hi], ry⟩, st', fun b hb => (hf b hb).1⟩⟩
  done := by
    intro X hP hw hK hc i pins s σ H E I hf st hg
    subst hP hw hK
    obtain ⟨hi, hd⟩ := hg
    obtain ⟨f0, f1, f2, f3, f4, f5⟩ := hf it (by simp)
    exact wpAny_pyNext_keys_end_raw (I.ok.hd hc) st (RawD.at' I hd) hi fun h' eb => ⟨rfl, I.turned (t' := s.toks) (fun b ob hb e => eb b ob hb e) f0 f1 f3 f4 f5⟩
  self := fun A i s Q E st h => wpAny_pyIter_keyiter st h
theorem turn_v (d it : Addr) (t : Tk) (ev : EnV t) : Turn P w K tg (ItV K d t) [it] it (fun i h => h.IsValIter it d i t.1.size t.2) where
  mem := by simp
  obj := fun i h st b hb => by
    have e : b = it := by simpa using hb
    subst e
    obtain ⟨oi, e, c, dd⟩ := st
    exact ⟨oi, e, fun v z => by rw [dd] at z; cases z⟩
  keep := fun i h h' st k => st.at fun oi e => k it (by simp) oi e
  item := by
    intro X hP hw hK hc i pins s σ H E I hf st hg
    subst hP hw hK
    obtain ⟨hi, hd⟩ := hg
    obtain ⟨f0, f1, f2, f3, f4, f5⟩ := hf it (by simp)
    obtain ⟨_, z, rz⟩ := ev i t.1[i] (by simp [hi])
    refine wpAny_pyNext_values_item_raw st (RawD.at' I hd) hi fun h' st' sb => ?_
    have I1 : Inv X pins σ H { s with heap := h' } := I.turned (t' := s.toks) (fun b ob hb e => (sb.2 b hb).trans e) f0 f1 f3 f4 f5
    obtain ⟨oi, e, c, dd⟩ := id st'
    exact ⟨_, rfl, go_of (s := { s with heap := h' }) e c dd (by decide) ⟨z, H, I1, rz, ⟨rfl, _, by simp [hi], rz⟩, st', fun b hb => (hf b hb).1⟩⟩
  done := by
    intro X hP hw hK hc i pins s σ H E I hf st hg
    subst hP hw hK
    obtain ⟨hi, hd⟩ := hg
    obtain ⟨f0, f1, f2, f3, f4, f5⟩ := hf it (by simp)
    exact wpAny_pyNext_values_end_raw (I.ok.hd hc) st (RawD.at' I hd) hi fun h' eb => ⟨rfl, I.turned (t' := s.toks) (fun b ob hb e => eb b ob hb e) f0 f1 f3 f4 f5⟩
  self := fun A i s Q E st h => wpAny_pyIter_valiter st h
theorem turn_i {elts : List Expr} {kk : Nat} {tpos : Pos} (d it : Addr) (t : Tk) (ev : EnV t) : Turn P w K (.Tuple elts kk tpos) (ItI K d t) [it] it (fun i h => ∃ ok ov, IsItemIter h it d i t.1.size t.2 ok ov) where
  mem := by simp
  obj := fun i h st b hb => by
    have e : b = it := by simpa using hb
    subst e
    obtain ⟨ok, ov, e⟩ := st
    exact ⟨_, e, fun v z => nomatch z⟩
  keep := fun i h h' st k => let ⟨ok, ov, e⟩ := st; ⟨ok, ov, k it (by simp) _ e⟩
  item := by
    intro X hP hw hK hc i pins s σ H E I hf st hg
    subst hP hw hK
    obtain ⟨hi, hd⟩ := hg
    obtain ⟨ok, ov, he⟩ := st
    have hlt : it < s.heap.objs.size := Heap.lt_size he
    obtain ⟨⟨y, ry⟩, z, rz⟩ := ev i t.1[i] (by simp [hi])
    refine wpAny_pyNext_items_item_raw he (RawD.at' I hd) hi fun h' ho hT hz hk => ?_
    refine ⟨_, rfl, wpAny_letOwnedTupleGo_items (s := { s with heap := h' }) ho fun h'' he' sb => ?_⟩
    have hT2 : h''.get? s.heap.objs.size = some { cls := .type "tuple", data := .seq #[t.1[i].key, t.1[i].val] } := (sb.2 _ (Nat.ne_of_gt hlt)).trans hT
    have new : ObjOk X.prog X.w (upd H s.heap.objs.size (.tup [y, z])) h'' s.heap.objs.size (.tup [y, z]) :=
      ⟨by show 2 ≤ sizeLine; decide, [t.1[i].key, t.1[i].val], .cons ry (.cons rz .nil), ⟨_, hT2, rfl, _, rfl⟩⟩
    have I1 : Inv X pins σ (upd H s.heap.objs.size (.tup [y, z])) { s with heap := h'' } :=
      I.turnedNew (t' := s.toks) (ch := [it]) (fun b ob hb e => (sb.2 b (by simpa using hb)).trans (hk b ob (by simpa using hb) e)) hf (Nat.le_refl _) new
    refine ⟨.ref s.heap.objs.size, _, I1, rfl, ⟨_, y, z, _, rfl, I.hok.fresh (Nat.le_refl _), rfl, by simp [hi], ry, rz⟩, ⟨_, _, he'⟩, fun b hb => ?_⟩
    have e : b = it := by simpa using hb
    rw [e, upd_ne (Nat.ne_of_lt hlt)]
    exact (hf it (by simp)).1
  done := by
    intro X hP hw hK hc i pins s σ H E I hf st hg
    subst hP hw hK
    obtain ⟨hi, hd⟩ := hg
    obtain ⟨f0, f1, f2, f3, f4, f5⟩ := hf it (by simp)
    obtain ⟨ok, ov, he⟩ := st
    exact wpAny_pyNext_items_end_raw (I.ok.hd hc) he (RawD.at' I hd) hi fun h' eb => ⟨rfl, I.turned (t' := s.toks) (fun b ob hb e => eb b ob hb e) f0 f1 f3 f4 f5⟩
  self := fun A i s Q E st h => let ⟨_, _, e⟩ := st; PySem.W.kcp_self e h
end

section
variable {X : Cx}
theorem cell_env {P : Program} {w : World} {K : PySem.W.Frag} {H : Hp} {kvs : List (D × D)} {t : Tk} (c : EntF P w K H kvs t.1 ∨ EntT P w K H kvs t.1) : EnV t := fun i en hi => by
  obtain ⟨sz, f⟩ := cell_entry c
  have hlt : i < kvs.length := by
    have := (Array.getElem?_eq_some_iff.mp hi).1
    omega
  obtain ⟨e', h1, ⟨x, _, hx⟩, y, _, hy⟩ := f i kvs[i].1 kvs[i].2 (by simp [hlt])
  rw [hi] at h1; cases h1
  exact ⟨⟨x, hx⟩, y, hy⟩
def stabD (a : Addr) (kvs : List (D × D)) (t : Tk) : Mem → Prop := fun M => M a = some (.dict kvs t)
theorem ok_keys {a : Addr} {kvs : List (D × D)} {t : Tk} {H0 : Hp} {M0 : Mem} (m0 : MRel X.prog X.w X.K H0 M0) (h0 : M0 a = some (.dict kvs t)) : ItOk X (ItK X.K a t) ⟨kvs.map (·.1), stabD a kvs t⟩ H0 M0 := by
  obtain ⟨sz, _⟩ := cell_entry (m0 a _ h0).2.2.2
  refine ⟨fun i H M m k st hi => ⟨by have : (kvs.map (·.1)).length = kvs.length := List.length_map _; have hi' : i < (kvs.map (·.1)).length := hi; omega, Or.inl (m a _ st).1⟩, fun i H M x H' m k st hi ⟨e, en, h1, h2⟩ => ?_, fun H M m k st => ⟨by have : (kvs.map (·.1)).length = kvs.length := List.length_map _; show t.1.size ≤ (kvs.map (·.1)).length; omega, Or.inl (m a _ st).1⟩⟩
  subst e
  have hi' : i < kvs.length := by have : (kvs.map (·.1)).length = kvs.length := List.length_map _; have hi' : i < (kvs.map (·.1)).length := hi; omega
  obtain ⟨e', g1, ⟨y, g2, g3⟩, _⟩ := (cell_entry (m a _ st).2.2.2).2 i kvs[i].1 kvs[i].2 (by simp [hi'])
  rw [h1] at g1; cases g1
  exact ⟨kvs[i].1, by show (kvs.map (·.1))[i]? = _; simp [hi'], by rw [h2.inj g3]; exact g2, m, .refl⟩
theorem ok_vals {a : Addr} {kvs : List (D × D)} {t : Tk} {H0 : Hp} {M0 : Mem} (m0 : MRel X.prog X.w X.K H0 M0) (h0 : M0 a = some (.dict kvs t)) : ItOk X (ItV X.K a t) ⟨kvs.map (·.2), stabD a kvs t⟩ H0 M0 := by
  obtain ⟨sz, _⟩ := cell_entry (m0 a _ h0).2.2.2
  refine ⟨fun i H M m k st hi => ⟨by have : (kvs.map (·.2)).length = kvs.length := List.length_map _; have hi' : i < (kvs.map (·.2)).length := hi; omega, Or.inl (m a _ st).1⟩, fun i H M x H' m k st hi ⟨e, en, h1, h2⟩ => ?_, fun H M m k st => ⟨by have : (kvs.map (·.2)).length = kvs.length := List.length_map _; show t.1.size ≤ (kvs.map (·.2)).length; omega, Or.inl (m a _ st).1⟩⟩
  subst e
  have hi' : i < kvs.length := by have : (kvs.map (·.2)).length = kvs.length := List.length_map _; have hi' : i < (kvs.map (·.2)).length := hi; omega
  obtain ⟨e', g1, _, y, g2, g3⟩ := (cell_entry (m a _ st).2.2.2).2 i kvs[i].1 kvs[i].2 (by simp [hi'])
  rw [h1] at g1; cases g1
  exact ⟨kvs[i].2, by show (kvs.map (·.2))[i]? = _; simp [hi'], by rw [h2.inj g3]; exact g2, m, .refl⟩
theorem ok_items {a : Addr} {kvs : List (D × D)} {t : Tk} {H0 : Hp} {M0 : Mem} (m0 : MRel X.prog X.w X.K H0 M0) (h0 : M0 a = some (.dict kvs t)) : ItOk X (ItI X.K a t) ⟨kvs.map (fun p => .tup [p.1, p.2]), stabD a kvs t⟩ H0 M0 := by
  obtain ⟨sz, _⟩ := cell_entry (m0 a _ h0).2.2.2
  have hl : (kvs.map (fun p => D.tup [p.1, p.2])).length = kvs.length := List.length_map _
  refine ⟨fun i H M m k st hi => ⟨by have hi' : i < (kvs.map (fun p => D.tup [p.1, p.2])).length := hi; omega, Or.inl (m a _ st).1⟩, fun i H M x H' m k st hi ⟨T, y, z, en, e1, e2, e3, h1, h2, h3⟩ => ?_, fun H M m k st => ⟨by show t.1.size ≤ (kvs.map (fun p => D.tup [p.1, p.2])).length; omega, Or.inl (m a _ st).1⟩⟩
  subst e1 e3
  have hi' : i < kvs.length := by have hi' : i < (kvs.map (fun p => D.tup [p.1, p.2])).length := hi; omega
  obtain ⟨e', g1, ⟨y', g2, g3⟩, z', g4, g5⟩ := (cell_entry (m a _ st).2.2.2).2 i kvs[i].1 kvs[i].2 (by simp [hi'])
  rw [h1] at g1; cases g1
  obtain ⟨m', k'⟩ := m.allocT (o := .tup [y, z]) e2
  refine ⟨.tup [kvs[i].1, kvs[i].2], by show (kvs.map (fun p => D.tup [p.1, p.2]))[i]? = _; simp [hi'], ⟨T, [y, z], rfl, .of upd_same, ?_⟩, m', k'⟩
  rw [h2.inj g3, h3.inj g5]
  exact .cons (Rep.keep (tkeep_new e2) _ _ g2) (.cons (Rep.keep (tkeep_new e2) _ _ g4) .nil)
theorem ok_list {a : Addr} {ds : List D} {H0 : Hp} {M0 : Mem} : ItOk X (Itl X.K a) ⟨ds, fun M => M a = some (.lst ds)⟩ H0 M0 := by
  refine ⟨fun i H M m k st hi => ?_, fun i H M x H' m k st hi ⟨e, y⟩ => ?_, fun H M m k st => ?_⟩
  · obtain ⟨vs, hh, r⟩ := m a _ st
    obtain ⟨v, e, _⟩ := r.get (i := i) (d := ds[i]) (by simp)
    exact ⟨vs, v, .of hh, e⟩
  · subst e
    obtain ⟨vs, hh, r⟩ := m a _ st
    obtain ⟨v, e, rr⟩ := r.get (i := i) (d := ds[i]) (by simp)
    have := y vs (.of hh)
    rw [e] at this; cases this
    exact ⟨ds[i], by simp, rr, m, .refl⟩
  · obtain ⟨vs, hh, r⟩ := m a _ st
    exact ⟨vs, .of hh, by rw [← r.length]; exact Nat.le_refl _⟩
theorem ok_flist {a : Addr} {ds : List D} {vs : List V} {H0 : Hp} {M0 : Mem} (m0 : MRel X.prog X.w X.K H0 M0) (f : FzL H0 a vs) (r : Reps X.prog X.w X.K H0 ds vs) : ItOk X (Itl X.K a) ⟨ds, fun _ => True⟩ H0 M0 := by
  refine ⟨fun i H M m k st hi => ?_, fun i H M x H' m k st hi ⟨e, y⟩ => ?_, fun H M m k st => ?_⟩
  · obtain ⟨v, e, _⟩ := r.get (i := i) (d := ds[i]) (by simp)
    exact ⟨vs, v, ((k.tup m0).l f).sql, e⟩
  · subst e
    obtain ⟨v, e, rr⟩ := r.get (i := i) (d := ds[i]) (by simp)
    have := y vs ((k.tup m0).l f).sql
    rw [e] at this; cases this
    exact ⟨ds[i], by simp, Rep.keep (k.tup m0) _ _ rr, m, .refl⟩
  · exact ⟨vs, ((k.tup m0).l f).sql, by rw [← r.length]; exact Nat.le_refl _⟩
theorem FDict.keep {H H' : Hp} {a : Addr} {kvs : List (D × D)} {t : Tk} (k : TKeep X.K H H') (f : FDict X.prog X.w X.K H a kvs t) : FDict X.prog X.w X.K H' a kvs t := by
  refine ⟨k.d f.fz, f.ns, f.sz, ?_⟩
  rcases f.en with ⟨vs, q, r⟩ | ⟨xs, q, r⟩
  · exact .inl ⟨vs, Paired.mapP q fun p q z => ⟨z.1, let ⟨v, z1, z2⟩ := z.2; ⟨v, Rep.keep k _ _ z1, z2⟩⟩, r⟩
  · exact .inr ⟨xs, Paired.mapP q fun p q z => ⟨⟨z.1.1, z.1.2.1, Rep.keep k _ _ z.1.2.2.1, z.1.2.2.2⟩, let ⟨v, z1, z2⟩ := z.2; ⟨v, Rep.keep k _ _ z1, z2⟩⟩, r⟩
theorem ok_fkeys {a : Addr} {kvs : List (D × D)} {t : Tk} {H0 : Hp} {M0 : Mem} (m0 : MRel X.prog X.w X.K H0 M0) (f : FDict X.prog X.w X.K H0 a kvs t) : ItOk X (ItK X.K a t) ⟨kvs.map (·.1), fun _ => True⟩ H0 M0 := by
  obtain ⟨sz, _⟩ := cell_entry f.en
  have hl : (kvs.map (·.1)).length = kvs.length := List.length_map _
  refine ⟨fun i H M m k st hi => ⟨by have hi' : i < (kvs.map (·.1)).length := hi; omega, .inr ((k.tup m0).d f.fz)⟩, fun i H M x H' m k st hi ⟨e, en, h1, h2⟩ => ?_, fun H M m k st => ⟨by show t.1.size ≤ (kvs.map (·.1)).length; omega, .inr ((k.tup m0).d f.fz)⟩⟩
  subst e
  have hi' : i < kvs.length := by have hi' : i < (kvs.map (·.1)).length := hi; omega
  obtain ⟨e', g1, ⟨y, g2, g3⟩, _⟩ := (cell_entry (FDict.keep (k.tup m0) f).en).2 i kvs[i].1 kvs[i].2 (by simp [hi'])
  rw [h1] at g1; cases g1
  exact ⟨kvs[i].1, by show (kvs.map (·.1))[i]? = _; simp [hi'], by rw [h2.inj g3]; exact g2, m, .refl⟩
theorem ok_fvals {a : Addr} {kvs : List (D × D)} {t : Tk} {H0 : Hp} {M0 : Mem} (m0 : MRel X.prog X.w X.K H0 M0) (f : FDict X.prog X.w X.K H0 a kvs t) : ItOk X (ItV X.K a t) ⟨kvs.map (·.2), fun _ => True⟩ H0 M0 := by
  obtain ⟨sz, _⟩ := cell_entry f.en
  have hl : (kvs.map (·.2)).length = kvs.length := List.length_map _
  refine ⟨fun i H M m k st hi => ⟨by have hi' : i < (kvs.map (·.2)).length := hi; omega, .inr ((k.tup m0).d f.fz)⟩, fun i H M x H' m k st hi ⟨e, en, h1, h2⟩ => ?_, fun H M m k st => ⟨by show t.1.size ≤ (kvs.map (·.2)).length; omega, .inr ((k.tup m0).d f.fz)⟩⟩
  subst e
  have hi' : i < kvs.length := by have hi' : i < (kvs.map (·.2)).length := hi; omega
  obtain ⟨e', g1, _, y, g2, g3⟩ := (cell_entry (FDict.keep (k.tup m0) f).en).2 i kvs[i].1 kvs[i].2 (by simp [hi'])
  rw [h1] at g1; cases g1
  exact ⟨kvs[i].2, by show (kvs.map (·.2))[i]? = _; simp [hi'], by rw [h2.inj g3]; exact g2, m, .refl⟩
theorem ok_fitems {a : Addr} {kvs : List (D × D)} {t : Tk} {H0 : Hp} {M0 : Mem} (m0 : MRel X.prog X.w X.K H0 M0) (f : FDict X.prog X.w X.K H0 a kvs t) : ItOk X (ItI X.K a t) ⟨kvs.map (fun p => .tup [p.1, p.2]), fun _ => True⟩ H0 M0 := by
  obtain ⟨sz, _⟩ := cell_entry f.en
  have hl : (kvs.map (fun p => D.tup [p.1, p.2])).length = kvs.length := List.length_map _
  refine ⟨fun i H M m k st hi => ⟨by have hi' : i < (kvs.map (fun p => D.tup [p.1, p.2])).length := hi; omega, .inr ((k.tup m0).d f.fz)⟩, fun i H M x H' m k st hi ⟨T, y, z, en, e1, e2, e3, h1, h2, h3⟩ => ?_, fun H M m k st => ⟨by show t.1.size ≤ (kvs.map (fun p => D.tup [p.1, p.2])).length; omega, .inr ((k.tup m0).d f.fz)⟩⟩
  subst e1 e3
  have hi' : i < kvs.length := by have hi' : i < (kvs.map (fun p => D.tup [p.1, p.2])).length := hi; omega
  obtain ⟨e', g1, ⟨y', g2, g3⟩, z', g4, g5⟩ := (cell_entry (FDict.keep (k.tup m0) f).en).2 i kvs[i].1 kvs[i].2 (by simp [hi'])
  rw [h1] at g1; cases g1
  obtain ⟨m', k'⟩ := m.allocT (o := .tup [y, z]) e2
  refine ⟨.tup [kvs[i].1, kvs[i].2], by show (kvs.map (fun p => D.tup [p.1, p.2]))[i]? = _; simp [hi'], ⟨T, [y, z], rfl, .of upd_same, ?_⟩, m', k'⟩
  rw [h2.inj g3, h3.inj g5]
  exact .cons (Rep.keep (tkeep_new e2) _ _ g2) (.cons (Rep.keep (tkeep_new e2) _ _ g4) .nil)
theorem ok_tup {a : Addr} {ds : List D} {vs : List V} {H0 : Hp} {M0 : Mem} (m0 : MRel X.prog X.w X.K H0 M0) (s : SqT X.K H0 a vs) (r : Reps X.prog X.w X.K H0 ds vs) : ItOk X (Itt X.K a) ⟨ds, fun _ => True⟩ H0 M0 := by
  refine ⟨fun i H M m k st hi => ?_, fun i H M x H' m k st hi ⟨e, y⟩ => ?_, fun H M m k st => ?_⟩
  · obtain ⟨v, e, _⟩ := r.get (i := i) (d := ds[i]) (by simp)
    exact ⟨vs, v, (k.tup m0).t _ _ s, e⟩
  · subst e
    obtain ⟨v, e, rr⟩ := r.get (i := i) (d := ds[i]) (by simp)
    have := y vs ((k.tup m0).t _ _ s)
    rw [e] at this; cases this
    exact ⟨ds[i], by simp, Rep.keep (k.tup m0) _ _ rr, m, .refl⟩
  · exact ⟨vs, (k.tup m0).t _ _ s, by rw [← r.length]; exact Nat.le_refl _⟩
def signs (z : Str) : List D := z.cps.toList.map fun c => .str ⟨#[c]⟩
theorem ok_str {z : Str} {H0 : Hp} {M0 : Mem} : ItOk X (Its z) ⟨signs z, fun _ => True⟩ H0 M0 := by
  have hl : (signs z).length = z.cps.size := by unfold signs; rw [List.length_map, Array.length_toList]
  refine ⟨fun i H M m k st hi => ?_, fun i H M x H' m k st hi ⟨e, c, h1, h2⟩ => ?_, fun H M m k st => ?_⟩
  · show i < z.cps.size
    have hi' : i < (signs z).length := hi
    omega
  · subst e h2
    exact ⟨.str ⟨#[c]⟩, by show (signs z)[i]? = _; unfold signs; rw [List.getElem?_map, Array.getElem?_toList, h1]; rfl, rfl, m, .refl⟩
  · show z.cps.size ≤ (signs z).length
    omega
def ranged (lo : Int) (n : Nat) : List D := (List.range n).map fun i : Nat => .int (lo + (i : Int))
theorem ok_range {lo : Int} {n : Nat} {H0 : Hp} {M0 : Mem} : ItOk X (Itr lo n) ⟨ranged lo n, fun _ => True⟩ H0 M0 := by
  have hl : (ranged lo n).length = n := by unfold ranged; rw [List.length_map, List.length_range]
  refine ⟨fun i H M m k st hi => ?_, fun i H M x H' m k st hi ⟨e, h1⟩ => ?_, fun H M m k st => ?_⟩
  · show i < n
    have hi' : i < (ranged lo n).length := hi
    omega
  · subst e h1
    have hi' : i < n := by have hi' : i < (ranged lo n).length := hi; omega
    exact ⟨.int (lo + i), by show (ranged lo n)[i]? = _; unfold ranged; rw [List.getElem?_map, List.getElem?_range hi']; rfl, rfl, m, .refl⟩
  · show n ≤ (ranged lo n).length
    omega

/-- what a value that is walked gives -/
def withSrc (d : D) (M : Mem) (k : Src → Prop) : Prop := match d with
  | .tup ds => k ⟨ds, fun _ => True⟩
  | .str z => k ⟨signs z, fun _ => True⟩
  | .ref a => match M a with
    | some (.lst ds) => k ⟨ds, fun M => M a = some (.lst ds)⟩
    | some (.dict kvs t) => k ⟨kvs.map (·.1), stabD a kvs t⟩
    | _ => False
  | .fl ds => k ⟨ds, fun _ => True⟩
  | .fd ks es => k ⟨(ks.zip es).map (·.1), fun _ => True⟩
  | _ => False
def wIt (w : WE) : WI := fun ρ M Q => w ρ M fun d M1 => withSrc d M1 fun src => Q src M1
theorem di_expr {tg l : Expr} {w : WE} (h : DEx X l w) : DI X tg l (wIt w) := by
  refine ⟨fun pins s σ H R I ⟨ρ, M, Q', Rr, q, k⟩ => ?_⟩
  refine thn (h.run pins s σ H (fun x H1 => ∃ d M1, Rep X.prog X.w X.K H1 d x ∧ MRel X.prog X.w X.K H1 M1 ∧ Keep H M H1 M1 ∧ withSrc d M1 fun src => Q' src M1) I ⟨ρ, M, _, Rr, q, fun v H' d M' r m kk q => ⟨d, M', r, m, kk, q⟩⟩) fun v s1 ⟨x, H1, I1, r1, d, M1, rx, m1, k1, q1⟩ => ?_
  unfold withSrc at q1
  cases d with
  | tup ds =>
    obtain ⟨a, vs, rfl, sq, rs⟩ := rx
    cases (show v = Value.ref a from r1)
    obtain ⟨its, rv, p, hz⟩ := I1.tuple sq
    exact wpAny_pyIter_tuple (show s1.heap.IsTuple a its.toArray from p) (pi_one (tk := s1.toks) I1 _ (turn_tuple a _) ⟨_, Heap.get?_push_size _ rfl, rfl, rfl⟩ (k _ _ _ _ m1 k1 (ok_tup m1 sq rs) q1))
  | str z =>
    cases (show x = .str z from rx)
    obtain ⟨t, rfl⟩ := r1
    cases ha : z.cps.all (· < 128)
    · exact wpAny_pyIter_wide ha (pi_one (tk := s1.toks) I1 _ (turn_str _ z t "str_iterator" (.inr rfl)) ⟨_, Heap.get?_push_size _ rfl, rfl, rfl⟩ (k _ _ _ _ m1 k1 ok_str q1))
    · exact wpAny_pyIter_ascii ha (pi_one (tk := s1.toks) I1 _ (turn_str _ z t "str_ascii_iterator" (.inl rfl)) ⟨_, Heap.get?_push_size _ rfl, rfl, rfl⟩ (k _ _ _ _ m1 k1 ok_str q1))
  | ref a =>
    cases (show x = .ref a from rx)
    cases (show v = Value.ref a from r1)
    simp only at q1
    cases c : M1 a with
    | none => rw [c] at q1; exact q1.elim
    | some mo =>
      rw [c] at q1
      cases mo with
      | lst ds =>
        obtain ⟨vs, hh, rs⟩ := m1 a _ c
        obtain ⟨its, rv, p, hz⟩ := I1.list (.of hh)
        exact wpAny_pyIter_list p.isList (pi_one (tk := s1.toks) I1 _ (turn_list a _) ⟨_, Heap.get?_push_size _ rfl, rfl, rfl⟩ (k _ _ _ _ m1 k1 ok_list q1))
      | dict kvs t =>
        have ce := m1 a _ c
        exact wpAny_pyIter_dict_raw ce.2.1 (I1.hok a _ ce.1).1 (pi_one (tk := s1.toks) I1 _ (turn_k a _ t (cell_env ce.2.2.2)) ⟨_, Heap.get?_push_size _ rfl, rfl, rfl⟩ (k _ _ _ _ m1 k1 (ok_keys m1 c) q1))
      | ins _ _ => exact q1.elim
  | fl ds =>
    obtain ⟨a, vs, rfl, f, rs⟩ := rx
    cases (show v = Value.ref a from r1)
    obtain ⟨its, rv, p, hz⟩ := I1.list f.sql
    exact wpAny_pyIter_list p.isList (pi_one (tk := s1.toks) I1 _ (turn_list a _) ⟨_, Heap.get?_push_size _ rfl, rfl, rfl⟩ (k _ _ _ _ m1 k1 (ok_flist m1 f rs) q1))
  | fd ks es =>
    obtain ⟨_, a, t, rfl, fd⟩ := rx.fdict
    cases (show v = Value.ref a from r1)
    have ce := RDict.ofF fd
    exact wpAny_pyIter_dict_raw ce.ns (ce.raw I1) (pi_one (tk := s1.toks) I1 _ (turn_k a _ t (cell_env fd.en)) ⟨_, Heap.get?_push_size _ rfl, rfl, rfl⟩ (k _ _ _ _ m1 k1 (ok_fkeys m1 fd) q1))
  | non => exact q1.elim
  | bl b => exact q1.elim
  | int b => exact q1.elim
/-- the entries of a dict, and what must stay as it is while they are walked -/
def withEnt (d : D) (M : Mem) (f : List (D × D) → List D) (k : Src → Prop) : Prop := match d with
  | .ref a => match M a with
    | some (.dict kvs t) => k ⟨f kvs, stabD a kvs t⟩
    | _ => False
  | .fd ks es => k ⟨f (ks.zip es), fun _ => True⟩
  | _ => False
/-- d.items(), d.values() -/
def wItems (w : WE) : WI := fun ρ M Q => w ρ M fun d M1 => withEnt d M1 (fun kvs => kvs.map fun p => .tup [p.1, p.2]) fun src => Q src M1
def wVals (w : WE) : WI := fun ρ M Q => w ρ M fun d M1 => withEnt d M1 (fun kvs => kvs.map (·.2)) fun src => Q src M1
theorem ent_rd {d : D} {M : Mem} {f : List (D × D) → List D} {k : Src → Prop} {H : Hp} {x : V} {J : Addr → Tk → It} (m : MRel X.prog X.w X.K H M) (r : Rep X.prog X.w X.K H d x) (h : withEnt d M f k)
    (o1 : ∀ {a kvs t}, M a = some (.dict kvs t) → ItOk X (J a t) ⟨f kvs, stabD a kvs t⟩ H M) (o2 : ∀ {a kvs t}, FDict X.prog X.w X.K H a kvs t → ItOk X (J a t) ⟨f kvs, fun _ => True⟩ H M) :
    ∃ a kvs t src, x = .ref a ∧ RDict X H a kvs t ∧ ItOk X (J a t) src H M ∧ k src := by
  cases d with
  | ref a =>
    unfold withEnt at h
    simp only at h
    cases c : M a with
    | none => rw [c] at h; exact h.elim
    | some mo =>
      rw [c] at h
      cases mo with
      | dict kvs t => exact ⟨a, kvs, t, _, r, .of (m a _ c), o1 c, h⟩
      | lst _ => exact h.elim
      | ins _ _ => exact h.elim
  | fd ks es =>
    obtain ⟨_, a, t, rfl, fd⟩ := r.fdict
    exact ⟨a, _, t, _, rfl, .ofF fd, o2 fd, h⟩
  | _ => exact h.elim
theorem di_items {elts : List Expr} {kk : Nat} {tpos apos cpos : Pos} {e : Expr} {w : WE} (h : DEx X e w) (hbase : attributeBase e "items" X.env (eval e X.env) = eval e X.env) (hline : (apos.endLine == cpos.line) = true) :
    DI X (.Tuple elts kk tpos) (.Call (.Attribute e "items" apos) [] [] cpos) (wItems w) := by
  refine ⟨fun pins s σ H R I ⟨ρ, M, Q', Rr, q, k⟩ => ?_⟩
  refine wpAny_Call_method (T := "dict") (id := "dict.items") hbase rfl hline F.plainAttrs_dict F.slot_dict_items F.type_dict_items (thn (h.run pins s σ H (fun x H1 => ∃ a kvs t src M1, x = .ref a ∧ MRel X.prog X.w X.K H1 M1 ∧ Keep H M H1 M1 ∧ RDict X H1 a kvs t ∧ ItOk X (ItI X.K a t) src H1 M1 ∧ Q' src M1) I ⟨ρ, M, _, Rr, q, fun v H' d M' r m kk q => ?_⟩) fun u s1 ⟨x, H1, I1, rx, a, kvs, t, src, M1, ex, m1, k1, ce, iok, q1⟩ => ?_)
  · obtain ⟨a, kvs, t, src, e, rd, iok, q⟩ := ent_rd (J := ItI X.K) m r q (fun c => ok_items m c) (fun f => ok_fitems m f)
    exact ⟨a, kvs, t, src, M', e, m, kk, rd, iok, q⟩
  subst ex
  obtain rfl : u = Value.ref a := rx
  have raw : s1.heap.DictRaw a t.1 t.2 := ce.raw I1
  refine ⟨dict_type I1 ce, dict_nodict I1 ce, ?_⟩
  have I2 : Inv X pins σ H1 { s1 with heap := s1.heap.push { cls := .type "dict_items", data := .fields #[.ref a] } } := I1.kept (t' := s1.toks) fun b ob q => Heap.get?_push_of_some _ q
  have fin : wpAny (model X.prog X.w) X.A (pyIter (.ref s1.heap.objs.size)) (PIE X pins σ (.Tuple elts kk tpos) R) X.xe { s1 with heap := s1.heap.push { cls := .type "dict_items", data := .fields #[.ref a] } } := by
    refine wpAny_pyIter_items_raw (d := a) ⟨_, Heap.get?_push_size _ rfl, rfl, rfl⟩ (raw.at fun o e => Heap.get?_push_of_some _ e) (pi_one (tk := s1.toks) I2 _ (turn_i a _ t (cell_env ce.en)) ⟨.none, .none, Heap.get?_push_size _ rfl⟩ (k _ _ _ _ m1 k1 iok q1))
  show wpAny _ _ (callWith cpos (.builtin "dict.items") [.ref a] [] []) _ X.xe s1
  exact method_meetsIn F.slot_dict_items F.entry_dict_items rfl (PySem.evalArgs_none ⟨rfl, dict_type I1 ce, F.args_dict_items_1 _, _, meets_dict_items_raw a (dict_neq ce), ⟨_, _, raw⟩, fin⟩)
theorem di_vals {tg : Expr} {apos cpos : Pos} {e : Expr} {w : WE} (h : DEx X e w) (hbase : attributeBase e "values" X.env (eval e X.env) = eval e X.env) (hline : (apos.endLine == cpos.line) = true) :
    DI X tg (.Call (.Attribute e "values" apos) [] [] cpos) (wVals w) := by
  refine ⟨fun pins s σ H R I ⟨ρ, M, Q', Rr, q, k⟩ => ?_⟩
  refine wpAny_Call_method (T := "dict") (id := "dict.values") hbase rfl hline F.plainAttrs_dict F.slot_dict_values F.type_dict_values (thn (h.run pins s σ H (fun x H1 => ∃ a kvs t src M1, x = .ref a ∧ MRel X.prog X.w X.K H1 M1 ∧ Keep H M H1 M1 ∧ RDict X H1 a kvs t ∧ ItOk X (ItV X.K a t) src H1 M1 ∧ Q' src M1) I ⟨ρ, M, _, Rr, q, fun v H' d M' r m kk q => ?_⟩) fun u s1 ⟨x, H1, I1, rx, a, kvs, t, src, M1, ex, m1, k1, ce, iok, q1⟩ => ?_)
  · obtain ⟨a, kvs, t, src, e, rd, iok, q⟩ := ent_rd (J := ItV X.K) m r q (fun c => ok_vals m c) (fun f => ok_fvals m f)
    exact ⟨a, kvs, t, src, M', e, m, kk, rd, iok, q⟩
  subst ex
  obtain rfl : u = Value.ref a := rx
  have raw : s1.heap.DictRaw a t.1 t.2 := ce.raw I1
  refine ⟨dict_type I1 ce, dict_nodict I1 ce, ?_⟩
  have I2 : Inv X pins σ H1 { s1 with heap := s1.heap.push { cls := .type "dict_values", data := .fields #[.ref a] } } := I1.kept (t' := s1.toks) fun b ob q => Heap.get?_push_of_some _ q
  have fin : wpAny (model X.prog X.w) X.A (pyIter (.ref s1.heap.objs.size)) (PIE X pins σ tg R) X.xe { s1 with heap := s1.heap.push { cls := .type "dict_values", data := .fields #[.ref a] } } := by
    refine wpAny_pyIter_values_raw (d := a) ⟨_, Heap.get?_push_size _ rfl, rfl, rfl⟩ (raw.at fun o e => Heap.get?_push_of_some _ e) (pi_one (tk := s1.toks) I2 _ (turn_v a _ t (cell_env ce.en)) ⟨_, Heap.get?_push_size _ rfl, rfl, rfl⟩ (k _ _ _ _ m1 k1 iok q1))
  show wpAny _ _ (callWith cpos (.builtin "dict.values") [.ref a] [] []) _ X.xe s1
  exact method_meetsIn F.slot_dict_values F.entry_dict_values rfl (PySem.evalArgs_none ⟨rfl, dict_type I1 ce, F.args_dict_values_1 _, _, meets_dict_values_raw a (dict_neq ce), ⟨_, _, raw⟩, fin⟩)
/-- range(n), range(a, b) -/
def RgOk2 (i j : Int) : Prop := -(2 ^ 62) ≤ i ∧ i < 2 ^ 62 ∧ -(2 ^ 62) ≤ j ∧ j < 2 ^ 62
def wRange1 (w : WE) : WI := fun ρ M Q => w ρ M fun d M1 => match d with
  | .int j => RgOk2 0 j ∧ Q ⟨ranged 0 j.toNat, fun _ => True⟩ M1
  | _ => False
def wRange2 (wa wb : WE) : WI := fun ρ M Q => wa ρ M fun d M1 => wb ρ M1 fun e M2 => match d with
  | .int i => match e with
    | .int j => RgOk2 i j ∧ Q ⟨ranged i (j - i).toNat, fun _ => True⟩ M2
    | _ => False
  | _ => False
theorem pi_imp {tg it : Expr} {t t' : TI} (h : PI X tg it t) (i : ∀ σ H R, t' σ H R → t σ H R) : PI X tg it t' := ⟨fun pins s σ H R I q => h.run pins s σ H R I (i _ _ _ q)⟩
theorem di_range1 {tg a : Expr} {p pos : Pos} {w : WE} (hg : Gl X "range") (hm : X.mg "range" = none) (ha : DEx X a w) (hs : starEach [a] X.env = [(false, eval a X.env)]) : DI X tg (.Call (.Name "range" p) [a] [] pos) (wRange1 w) :=
  pi_imp (pi_range1 hg hm (pa_cons ha pa_nil hs) hs) fun σ H R ⟨ρ, M, Q', Rr, q, k⟩ => ⟨ρ, M, _, Rr, q, fun x H1 d M1 r1 m1 k1 q1 => by
    cases d with
    | int j =>
      cases (show x = .int j from r1)
      obtain ⟨⟨a1, a2, a3, a4⟩, q1⟩ := q1
      exact ⟨j, rfl, a3, a4, k _ H1 _ M1 m1 k1 ok_range q1⟩
    | _ => exact q1.elim⟩
theorem di_range2 {tg a b : Expr} {p pos : Pos} {wa wb : WE} (hg : Gl X "range") (hm : X.mg "range" = none) (ha : DEx X a wa) (hb : DEx X b wb) (hs : starEach [a, b] X.env = [(false, eval a X.env), (false, eval b X.env)]) (hs2 : starEach [b] X.env = [(false, eval b X.env)]) :
    DI X tg (.Call (.Name "range" p) [a, b] [] pos) (wRange2 wa wb) :=
  pi_imp (pi_range2 hg hm (pa_cons ha (pa_cons hb pa_nil hs2) (by rw [hs, hs2])) hs hs2) fun σ H R ⟨ρ, M, Q', Rr, q, k⟩ => ⟨ρ, M, _, Rr, q, fun x H1 d M1 r1 m1 k1 q1 => ⟨ρ, M1, _, Rr.next m1 k1, q1, fun y H2 e M2 r2 m2 k2 q2 => by
    cases d with
    | int i =>
      cases e with
      | int j =>
        cases (show x = .int i from r1); cases (show y = .int j from r2)
        obtain ⟨hr, q2⟩ := q2
        exact ⟨i, j, rfl, hr, k _ H2 _ M2 m2 (k1.trans k2) ok_range q2⟩
      | _ => exact q2.elim
    | _ => exact q2.elim⟩⟩
end
end Fw

set_option Elab.async false
set_option linter.all false
set_option maxRecDepth 100000
set_option maxHeartbeats 4000000
/-! FwStmt: statements and comprehensions over data -/
namespace Fw
open PySem PySem.Spec PyProof.Rows L2

/-- fewer names, less memory -/
def SubE (ρ0 ρ : Env) : Prop := ρ0.length = ρ.length ∧ ∀ (i : Nat) d, ρ0[i]? = some (some d) → ρ[i]? = some (some d)
def SubM (M0 M : Mem) : Prop := ∀ a o, M0 a = some o → M a = some o
theorem SubE.refl {ρ : Env} : SubE ρ ρ := ⟨rfl, fun _ _ h => h⟩
theorem SubM.refl {M : Mem} : SubM M M := fun _ _ h => h
section
variable {X : Cx} {σ : L2.St} {H H' : Hp} {ρ ρ0 : Env} {M M0 M' : Mem}
theorem MRel.sub {P : Program} {w : World} {K : PySem.W.Frag} (m : MRel P w K H M) (s : SubM M0 M) : MRel P w K H M0 := fun a o e => m a o (s a o e)
theorem SubM.none (s : SubM M0 M) {a : Addr} (h : M a = none) : M0 a = none := by
  cases c : M0 a with
  | none => rfl
  | some o => rw [s a o c] at h; cases h
theorem Rl.sub (R : Rl X σ H ρ M) (s : SubE ρ0 ρ) (t : SubM M0 M) : Rl X σ H ρ0 M0 := ⟨s.1.trans R.len, fun i d e => R.slot i d (s.2 i d e), R.mem.sub t⟩
theorem Keep.sub (k : Keep H M0 H' M') (s : SubM M0 M) : Keep H M H' M' := fun a o e n => k a o e (s.none n)
theorem Keep.subR (k : Keep H M H' M') (s : SubM M0 M') : Keep H M H' M0 := fun a o e n => let ⟨x, y⟩ := k a o e n; ⟨x, s.none y⟩
theorem EndsLe.sub {D' : DEnds} {D : Ends} (e : EndsLe X H M D' D) (s : SubM M0 M) : EndsLe X H M0 D' D :=
  ⟨fun _ _ _ _ r k q => e.nx _ _ _ _ r (k.sub s) q, fun _ _ _ _ r m k q => e.rt _ _ _ _ r m (k.sub s) q, fun _ _ _ _ r k q => e.bk _ _ _ _ r (k.sub s) q, fun _ _ _ _ r k q => e.ct _ _ _ _ r (k.sub s) q⟩
end

section
variable {X : Cx}
def wNext : WS := fun D ρ M => D.nx ρ M
def wSeq (a b : WS) : WS := fun D ρ M => a { D with nx := b D } ρ M
theorem dss_nil : DSs X [] wNext := pss_imp pss_nil fun D σ H ⟨ρ, M, D', R, q, le⟩ => le.nx _ _ _ _ R .refl q
theorem dss_cons {st : Stmt} {rest : List Stmt} {a b : WS} (h1 : DSt X st a) (h2 : DSs X rest b) : DSs X (st :: rest) (wSeq a b) := pss_imp (pss_cons h1 h2) fun D σ H ⟨ρ, M, D', R, q, le⟩ =>
  ⟨ρ, M, { D' with nx := b D' }, R, q, ⟨fun σ' H' ρ' M' r k q => ⟨ρ', M', D', r, q, le.after k⟩, le.rt, le.bk, le.ct⟩⟩
theorem dss_one {st : Stmt} {a : WS} (h1 : DSt X st a) : DSs X [st] a := pss_one h1
def wBreak : WS := fun D ρ M => D.bk ρ M
def wCont : WS := fun D ρ M => D.ct ρ M
theorem ds_pass {pos : Pos} : DSt X (.Pass pos) wNext := ps_imp ps_pass fun D σ H ⟨ρ, M, D', R, q, le⟩ => le.nx _ _ _ _ R .refl q
theorem ds_break {pos : Pos} : DSt X (.Break pos) wBreak := ps_imp ps_break fun D σ H ⟨ρ, M, D', R, q, le⟩ => le.bk _ _ _ _ R .refl q
theorem ds_continue {pos : Pos} : DSt X (.Continue pos) wCont := ps_imp ps_continue fun D σ H ⟨ρ, M, D', R, q, le⟩ => le.ct _ _ _ _ R .refl q
theorem ds_doc {x : Str} {j : Nat} {pos pos' : Pos} : DSt X (.Expr (.Constant (.str x) j pos) pos') wNext := ps_imp ps_doc fun D σ H ⟨ρ, M, D', R, q, le⟩ => le.nx _ _ _ _ R .refl q
def wNever : WS := fun _ _ _ => False
theorem ds_never {st : Stmt} : DSt X st wNever := ps_imp ps_never fun D σ H ⟨ρ, M, D', R, q, le⟩ => q
def wDrop (w : WE) : WS := fun D ρ M => w ρ M fun _ M1 => D.nx ρ M1
theorem ds_expr {e : Expr} {pos : Pos} {w : WE} (h : DEx X e w) (hs : swapsWith e none pos.line X.env = pure false) : DSt X (.Expr e pos) (wDrop w) := ps_imp (ps_expr h hs) fun D σ H ⟨ρ, M, D', R, q, le⟩ =>
  ⟨ρ, M, _, R, q, fun v H' d M' r m k q => le.nx _ _ _ _ (R.next m k) k q⟩
def wRet (w : WE) : WS := fun D ρ M => w ρ M D.rt
theorem ds_ret {e : Expr} {pos : Pos} {w : WE} (h : DEx X e w) : DSt X (.Return (some e) pos) (wRet w) := ps_imp (ps_ret h) fun D σ H ⟨ρ, M, D', R, q, le⟩ =>
  ⟨ρ, M, _, R, q, fun v H' d M' r m k q => le.rt v H' d M' r m k q⟩
def wRetN : WS := fun D _ M => D.rt .non M
theorem ds_retN {pos : Pos} : DSt X (.Return none pos) wRetN := ps_imp ps_retN fun D σ H ⟨ρ, M, D', R, q, le⟩ => le.rt .non H .non M rfl R.mem .refl q
def wIf (c : WT) (a b : WS) : WS := fun D ρ M => c ρ M fun k M1 => if k = true then a D ρ M1 else b D ρ M1
theorem ds_if {c : Expr} {p q : List Stmt} {pos : Pos} {wc : WT} {a b : WS} (hc : DTs X c wc) (ha : DSs X p a) (hb : DSs X q b) : DSt X (.If c p q pos) (wIf wc a b) := ps_imp (ps_if hc ha hb) fun D σ H ⟨ρ, M, D', R, q, le⟩ =>
  ⟨ρ, M, _, R, q, fun k H1 M1 m1 k1 q1 => by
    cases k with
    | true => rw [if_pos rfl] at q1 ⊢; exact ⟨ρ, M1, D', R.next m1 k1, q1, le.after k1⟩
    | false => rw [if_neg Bool.false_ne_true] at q1 ⊢; exact ⟨ρ, M1, D', R.next m1 k1, q1, le.after k1⟩⟩

/-! ### targets -/
inductive Tg where
  | nm (i : Nat)
  | tp (is : List Nat)
/-- the names, one after another -/
def setL : List Nat → List D → Env → Env
  | i :: is, d :: ds, ρ => setL is ds (ρ.set i (some d))
  | _, _, ρ => ρ
def wTg : Tg → D → Env → (Env → Prop) → Prop
  | .nm i, d, ρ, Q => Q (ρ.set i (some d))
  | .tp is, d, ρ, Q => ∃ ds, d = .tup ds ∧ ds.length = is.length ∧ Q (setL is ds ρ)
def setLV : List Nat → List V → L2.St → L2.St
  | i :: is, d :: ds, ρ => setLV is ds (ρ.set i (some d))
  | _, _, ρ => ρ
def gT (K : PySem.W.Frag) : Tg → TG
  | .nm i => gName i
  | .tp is => gTup K is.length fun vs σ H Q => vs.length = is.length ∧ Q (setLV is vs σ) H
theorem Rl.setL {H : Hp} {M : Mem} : ∀ {is : List Nat} {ds : List D} {vs : List V} {ρ : Env} {σ : L2.St}, Rl X σ H ρ M → Reps X.prog X.w X.K H ds vs → Rl X (setLV is vs σ) H (Fw.setL is ds ρ) M
  | [], _, _, _, _, R, _ => R
  | i :: is, [], _, _, _, R, r => by rw [show _ = _ from r]; exact R
  | i :: is, d :: ds, _, ρ, σ, R, r => by
    obtain ⟨v, r', rfl, h1, h2⟩ := r
    have h3 := Rl.setL (is := is) (R.set i h1) h2
    exact h3
/-- the lifting of a target -/
theorem lift_tg {t : Tg} {σ : L2.St} {H : Hp} {ρ : Env} {M : Mem} {v : V} {d : D} {Q' : Env → Prop} {Q : L2.St → Hp → Prop} (R : Rl X σ H ρ M) (r : Rep X.prog X.w X.K H d v) (h : wTg t d ρ Q') (k : ∀ σ' ρ', Rl X σ' H ρ' M → Q' ρ' → Q σ' H) : gT X.K t v σ H Q := by
  cases t with
  | nm i => exact k _ _ (R.set i r) h
  | tp is =>
    obtain ⟨ds, rfl, l, q⟩ := h
    obtain ⟨a, vs, rfl, s, rs⟩ := r
    have l' := rs.length
    exact ⟨a, vs, rfl, s, by omega, by omega, k _ _ (R.setL rs) q⟩
theorem pg_tp {K : PySem.W.Frag} {es : List Expr} {is : List Nat} (h : ∀ (j i : Nat), is[j]? = some i → ∃ e, es[j]? = some e ∧ PG X e (gName i)) (hl : es.length = is.length)
    (hs : ∀ e es', (e :: es') <:+ es → (assignEach (e :: es') X.env).map (·.2) = assign e X.env :: (assignEach es' X.env).map (·.2)) :
    PGs X es (fun vs σ H Q => vs.length = is.length ∧ Q (setLV is vs σ) H) := by
  induction is generalizing es with
  | nil =>
    cases es with
    | nil => exact ⟨fun pins s σ H vs us Q I r h => pgs_nil.run pins s σ H vs us Q I r ⟨List.eq_nil_of_length_eq_zero h.1, by
        have e : vs = [] := List.eq_nil_of_length_eq_zero h.1
        subst e; exact h.2⟩⟩
    | cons e es => simp at hl
  | cons i is ih =>
    cases es with
    | nil => simp at hl
    | cons e es =>
      obtain ⟨e', he, hg⟩ := h 0 i rfl
      simp at he; subst he
      have hr := ih (es := es) (fun j i' hj => h (j + 1) i' (by simpa using hj)) (by simpa using hl) fun e'' es' hsuf => hs e'' es' (hsuf.trans (List.suffix_cons _ _))
      refine ⟨fun pins s σ H vs us Q I r hw => (pgs_cons hg hr (hs e es (List.suffix_refl _))).run pins s σ H vs us Q I r ?_⟩
      obtain ⟨hl', q⟩ := hw
      cases vs with
      | nil => simp at hl'
      | cons v vs => exact ⟨v, vs, rfl, by simpa using hl', q⟩

/-! ### assignments -/
def wSet (i : Nat) (w : WE) : WS := fun D ρ M => w ρ M fun d M1 => D.nx (ρ.set i (some d)) M1
theorem ds_set {i : Nat} {x : Str} {e : Expr} {pos pos' : Pos} {w : WE} (hN : X.N.Nodup) (hi : X.N[i]? = some x) (hx : Loc X.env.scope x) (he : DEx X e w) (hs : swapsWith e (some (.Name x pos')) pos.line X.env = pure false) (hf : X.fn x = true ∨ X.env.scope.names.lookup x = some .local) :
    DSt X (.Assign [.Name x pos'] e pos) (wSet i w) := ps_imp (ps_set hN hi hx he hs hf) fun D σ H ⟨ρ, M, D', R, q, le⟩ =>
  ⟨ρ, M, _, R, q, fun v H' d M' r m k q => le.nx _ _ _ _ ((R.next m k).set i r) k q⟩
def wAsg (t : Tg) (w : WE) : WS := fun D ρ M => w ρ M fun d M1 => wTg t d ρ fun ρ' => D.nx ρ' M1
theorem ds_asg {tg e : Expr} {pos : Pos} {w : WE} {t : Tg} (he : DEx X e w) (hg : PG X tg (gT X.K t)) (hs : swapsWithSole [tg] e pos.line X.env = pure false) (hw : swappedStores [tg] e X.env = pure none)
    (h1 : (assignEach [tg] X.env).map (·.2) = [assign tg X.env]) : DSt X (.Assign [tg] e pos) (wAsg t w) := ps_imp (ps_asg he hg hs hw h1) fun D σ H ⟨ρ, M, D', R, q, le⟩ =>
  ⟨ρ, M, _, R, q, fun v H' d M' r m k q => lift_tg (R.next m k) r q fun σ' ρ' R' q' => le.nx _ _ _ _ R' k q'⟩
def wPar (i j : Nat) (wa : WA) : WS := fun D ρ M => wa ρ M fun ds M1 => ∃ d e, ds = [d, e] ∧ D.nx ((ρ.set i (some d)).set j (some e)) M1
theorem ds_par {i j : Nat} {x y : Str} {a b : Expr} {wa : WA} {px py pt pos : Pos} {kt k2 : Nat} {pt2 : Pos} (hc : X.calm = true) (hN : X.N.Nodup) (hi : X.N[i]? = some x) (hj : X.N[j]? = some y) (hij : i ≠ j)
    (hx : X.env.scope.names.lookup x = some .local) (hy : X.env.scope.names.lookup y = some .local) (ha : DAr X [a, b] wa)
    (hw : swappedStores [.Tuple [.Name x px, .Name y py] kt pt] (.Tuple [a, b] k2 pt2) X.env = pure (some [x, y]))
    (hs : swapsWithSole [.Tuple [.Name x px, .Name y py] kt pt] (.Tuple [a, b] k2 pt2) pos.line X.env = pure false) :
    DSt X (.Assign [.Tuple [.Name x px, .Name y py] kt pt] (.Tuple [a, b] k2 pt2) pos) (wPar i j wa) := ps_imp (ps_par hc hN hi hj hij hx hy ha hw hs) fun D σ H ⟨ρ, M, D', R, q, le⟩ =>
  ⟨ρ, M, _, R, q, fun vs H' ds M' r m k ⟨d, e, ed, q⟩ => by
    subst ed
    obtain ⟨v, w, rfl, h1, h2⟩ := reps2 r
    exact ⟨v, w, rfl, le.nx _ _ _ _ (((R.next m k).set i h1).set j h2) k q⟩⟩
/-- o[i] = e -/
def wPut (we wo wi : WE) : WS := fun D ρ M => we ρ M fun v M1 => wo ρ M1 fun o M2 => wi ρ M2 fun i M3 => dSetA o i v M3 fun M4 => D.nx ρ M4
theorem ds_put {o i e : Expr} {tpos pos : Pos} {we wo wi : WE} (hu : X.A.units + 64 < cLine) (he : DEx X e we) (ho : DEx X o wo) (hi : DEx X i wi)
    (ha : ∀ v, assign (.Subscript o i tpos) X.env v = (do
      let ov ← holding [v] (eval o X.env)
      let iv ← holding [v, ov] (eval i X.env)
      standAt tpos
      holding [v, ov, iv] (setItem ov iv v)
      release [v, ov, iv] []))
    (hs : swapsWithSole [.Subscript o i tpos] e pos.line X.env = pure false) (hw : swappedStores [.Subscript o i tpos] e X.env = pure none)
    (h1 : (assignEach [.Subscript o i tpos] X.env).map (·.2) = [assign (.Subscript o i tpos) X.env]) : DSt X (.Assign [.Subscript o i tpos] e pos) (wPut we wo wi) :=
  ps_imp (ps_asg he (pg_sub ho hi (set_all hu) ha) hs hw h1) fun D σ H ⟨ρ, M, D', R, q, le⟩ =>
    ⟨ρ, M, _, R, q, fun v H1 d1 M1 r1 m1 k1 q1 => ⟨ρ, M1, _, R.next m1 k1, q1, fun ov H2 d2 M2 r2 m2 k2 q2 => ⟨ρ, M2, _, (R.next m1 k1).next m2 k2, q2, fun iv H3 d3 M3 r3 m3 k3 q3 =>
      ⟨M3, d2, d3, d1, _, m3, Rep.keep (k3.tup m2) _ _ r2, r3, Rep.keep ((k2.trans k3).tup m1) _ _ r1, q3, fun H4 M4 m4 k4 q4 => le.nx _ _ _ _ ((((R.next m1 k1).next m2 k2).next m3 k3).next m4 k4) (k1.trans (k2.trans (k3.trans k4))) q4⟩⟩⟩⟩
/-- name op= e -/
def rIAdd : R2 := fun x y H Q => rI0 (fun i j => .int (i + j)) x y H Q ∨ (∃ i j, x = .str i ∧ y = .str j ∧ i.length + j.length ≤ sizeLine ∧ Q (.str (i ++ j)) H)
theorem iop_addR : OpR X (inplaceOp .Add) rIAdd := iop_add.or iop_add_str
def dIAdd : W2 := fun x y M Q => match x with
  | .int i => match y with
    | .int j => Q (.int (i + j)) M
    | _ => False
  | .str i => match y with
    | .str j => i.length + j.length ≤ sizeLine ∧ Q (.str (i ++ j)) M
    | _ => False
  | _ => False
theorem lift_iadd : Lift2 X rIAdd dIAdd := by
  intro H M x y d e Q Q' m rx ry h k
  cases d with
  | int i =>
    cases e with
    | int j => cases (show x = .int i from rx); cases (show y = .int j from ry); exact .inl ⟨i, j, rfl, rfl, k _ H (.int (i + j)) M rfl m .refl h⟩
    | _ => exact h.elim
  | str i =>
    cases e with
    | str j => cases (show x = .str i from rx); cases (show y = .str j from ry); exact .inr ⟨i, j, rfl, rfl, h.1, k _ H (.str (i ++ j)) M rfl m .refl h.2⟩
    | _ => exact h.elim
  | _ => exact h.elim
def wAug (i : Nat) (g : W2) (w : WE) : WS := fun D ρ M => ∃ d, ρ[i]? = some (some d) ∧ w ρ M fun e M1 => g d e M1 fun z M2 => D.nx (ρ.set i (some z)) M2
theorem ds_aug {i : Nat} {x : Str} {e : Expr} {op : Operator} {pos pos' : Pos} {r : R2} {g : W2} {w : WE} (hN : X.N.Nodup) (hi : X.N[i]? = some x) (hx : Loc X.env.scope x) (he : DEx X e w) (ho : OpR X (inplaceOp op) r) (l : Lift2 X r g) (hf : X.fn x = true ∨ X.env.scope.names.lookup x = some .local) :
    DSt X (.AugAssign (.Name x pos') op e pos) (wAug i g w) := ps_imp (ps_aug (ti := fun x y H Q => r x y H Q) hN hi hx he (fun pins s σ H x y v u Q I rx ry h => ho pins s σ H x y v u Q I rx ry h) hf) fun D σ H ⟨ρ, M, D', R, ⟨d, e1, q⟩, le⟩ => by
  obtain ⟨v, e2, r2⟩ := R.slot i d e1
  exact ⟨v, e2, ρ, M, _, R, q, fun y H1 e M1 r1 m1 k1 q1 => l H1 M1 v y d e _ _ m1 (Rep.keep (k1.tup R.mem) _ _ r2) r1 q1 fun z H2 dz M2 rz m2 k2 q2 => le.nx _ _ _ _ (((R.next m1 k1).next m2 k2).set i rz) (k1.trans k2) q2⟩

/-! ### loops -/
def loopD (stab : Mem → Prop) (t : Tg) (wb : WS) : List D → DEnds → Env → Mem → Prop
  | [], D, ρ, M => ∃ ρ0 M0, SubE ρ0 ρ ∧ SubM M0 M ∧ stab M0 ∧ D.nx ρ0 M0
  | x :: xs, D, ρ, M => ∃ ρ0 M0, SubE ρ0 ρ ∧ SubM M0 M ∧ stab M0 ∧ wTg t x ρ0 fun ρ1 => wb { nx := loopD stab t wb xs D, ct := loopD stab t wb xs D, bk := D.nx, rt := D.rt } ρ1 M0
def wFor (wi : WI) (t : Tg) (wb : WS) : WS := fun D ρ M => wi ρ M fun src M1 => loopD src.stab t wb src.items D ρ M1
theorem drop_cons {α : Type} {xs : List α} {i : Nat} (h : i < xs.length) : xs.drop i = xs[i] :: xs.drop (i + 1) := List.drop_eq_getElem_cons h
theorem ds_for {tg iter : Expr} {body : List Stmt} {pos : Pos} {wi : WI} {t : Tg} {wb : WS} (hp : PassesOwn (model X.prog X.w) X.A X.env X.xe) (hc : X.calm = true) (hi : DI X tg iter wi) (hg : PG X tg (gT X.K t)) (hb : DSs X body wb)
    (hs : ∀ x, foldedSetIterable iter X.env x = pure x) : DSt X (.For tg iter body [] pos) (wFor wi t wb) := ps_imp (ps_for hp hc hi hg hb hs) fun D σ H ⟨ρ, M, D', R, q, le⟩ =>
  ⟨ρ, M, _, R, q, fun J H1 src M1 m1 k1 ok q1 => by
    refine ⟨fun i m σ H => m = src.items.length - i ∧ i ≤ src.items.length ∧ ∃ ρ M, Rl X σ H ρ M ∧ Keep H1 M1 H M ∧ loopD src.stab t wb (src.items.drop i) D' ρ M, ⟨_, rfl, Nat.zero_le _, ρ, M1, R.next m1 k1, .refl, by rw [List.drop_zero]; exact q1⟩, ?_⟩
    rintro i m σ H ⟨rfl, hi, ρ, M, R2, k2, q2⟩
    by_cases hlt : i < src.items.length
    · rw [drop_cons hlt] at q2
      obtain ⟨ρ0, M0, s1, s2, st, q2⟩ := q2
      have R3 := R2.sub s1 s2
      have k3 : Keep H1 M1 H M0 := k2.subR s2
      refine .inr ⟨ok.go i H M0 R3.mem k3 st hlt, fun σ' H' => ∃ ρ' M', Rl X σ' H' ρ' M' ∧ Keep H1 M1 H' M' ∧ loopD src.stab t wb (src.items.drop (i + 1)) D' ρ' M', fun σ' H' p => ⟨_, by omega, rfl, hlt, p⟩, fun x H' y => ?_⟩
      obtain ⟨d, hd, rd, m', k'⟩ := ok.yld i H M0 x H' R3.mem k3 st hlt y
      rw [List.getElem?_eq_getElem hlt] at hd
      cases hd
      refine lift_tg (R3.next m' k') rd q2 fun σ2 ρ2 R4 q4 => ?_
      have k4 : Keep H1 M1 H' M0 := k3.trans k'
      exact ⟨ρ2, M0, _, R4, q4, ⟨fun σ' H'' ρ' M' r k q => ⟨ρ', M', r, k4.trans k, q⟩, fun v H'' d M' r m k q => le.rt _ _ _ _ r m (k1.trans (k4.trans k)) q, fun σ' H'' ρ' M' r k q => le.nx _ _ _ _ r (k1.trans (k4.trans k)) q, fun σ' H'' ρ' M' r k q => ⟨ρ', M', r, k4.trans k, q⟩⟩⟩
    · have e : i = src.items.length := by omega
      subst e
      rw [List.drop_length] at q2
      obtain ⟨ρ0, M0, s1, s2, st, q2⟩ := q2
      have R3 := R2.sub s1 s2
      have k3 : Keep H1 M1 H M0 := k2.subR s2
      exact .inl ⟨ok.stop H M0 R3.mem k3 st, le.nx _ _ _ _ R3 (k1.trans k3) q2⟩⟩
/-- while, by an invariant and a measure -/
def WkS (W : Nat → Env → Mem → Prop) (m : Nat) (ρ : Env) (M : Mem) : Prop := ∃ m' ρ0 M0, m' < m ∧ SubE ρ0 ρ ∧ SubM M0 M ∧ W m' ρ0 M0
def wWhile (wc : WT) (wb : WS) : WS := fun D ρ M => ∃ W : Nat → Env → Mem → Prop, (∃ m, WkS W m ρ M) ∧ ∀ m ρ M, W m ρ M → wc ρ M fun b M1 => if b = true then wb { nx := WkS W m, ct := WkS W m, bk := D.nx, rt := D.rt } ρ M1 else D.nx ρ M1
theorem ds_while {c : Expr} {body : List Stmt} {pos : Pos} {wc : WT} {wb : WS} (hp : PassesOwn (model X.prog X.w) X.A X.env X.xe) (hc : DTs X c wc) (hb : DSs X body wb) : DSt X (.While c body [] pos) (wWhile wc wb) := ps_imp (ps_while hp hc hb) fun D σ H ⟨ρ, M, D', R, ⟨W, ⟨m, w0⟩, turn⟩, le⟩ => by
  refine ⟨fun m σ' H' => ∃ ρ' M', Rl X σ' H' ρ' M' ∧ Keep H M H' M' ∧ W m ρ' M', ?_, ?_⟩
  · obtain ⟨m', ρ0, M0, _, s1, s2, q⟩ := w0
    exact ⟨m', ρ0, M0, R.sub s1 s2, Keep.refl.subR s2, q⟩
  · rintro m σ' H' ⟨ρ', M', R', k', q'⟩
    refine ⟨ρ', M', _, R', turn m ρ' M' q', fun b H1 M1 m1 k1 q1 => ?_⟩
    cases b with
    | true =>
      rw [if_pos rfl] at q1 ⊢
      have again : ∀ σ2 H2 ρ2 M2, Rl X σ2 H2 ρ2 M2 → Keep H1 M1 H2 M2 → WkS W m ρ2 M2 → ∃ m', m' < m ∧ ∃ ρ M3, Rl X σ2 H2 ρ M3 ∧ Keep H M H2 M3 ∧ W m' ρ M3 := fun σ2 H2 ρ2 M2 r k ⟨m', ρ0, M0, hm, s1, s2, q⟩ =>
        ⟨m', hm, ρ0, M0, r.sub s1 s2, (k'.trans (k1.trans k)).subR s2, q⟩
      exact ⟨fun σ2 H2 => ∃ m', m' < m ∧ ∃ ρ M3, Rl X σ2 H2 ρ M3 ∧ Keep H M H2 M3 ∧ W m' ρ M3, fun σ2 H2 h => h, ρ', M1, _, R'.next m1 k1, q1, ⟨again, fun v H2 d M2 r m k q => le.rt _ _ _ _ r m (k'.trans (k1.trans k)) q, fun σ2 H2 ρ2 M2 r k q => le.nx _ _ _ _ r (k'.trans (k1.trans k)) q, again⟩⟩
    | false =>
      rw [if_neg Bool.false_ne_true] at q1 ⊢
      exact le.nx _ _ _ _ (R'.next m1 k1) (k'.trans k1) q1
end
end Fw

set_option Elab.async false
set_option linter.all false
set_option maxRecDepth 100000
set_option maxHeartbeats 4000000
/-! FwComp: comprehensions over data -/
namespace Fw
open PySem PySem.Spec PyProof.Rows L2

/-! ### targets, step by step -/
section
variable {X : Cx}
def lvT (is : List Nat) : TGs := fun vs σ H Q => vs.length = is.length ∧ Q (setLV is vs σ) H
theorem pgs0 : PGs X [] (lvT []) := ⟨fun pins s σ H vs us Q I r h => pgs_nil.run pins s σ H vs us Q I r ⟨List.eq_nil_of_length_eq_zero h.1, by
  have e : vs = [] := List.eq_nil_of_length_eq_zero h.1
  subst e; exact h.2⟩⟩
theorem pgs1 {e : Expr} {es : List Expr} {i : Nat} {is : List Nat} (hg : PG X e (gName i)) (hr : PGs X es (lvT is)) (hs : (assignEach (e :: es) X.env).map (·.2) = assign e X.env :: (assignEach es X.env).map (·.2) := by rfl) : PGs X (e :: es) (lvT (i :: is)) := by
  refine ⟨fun pins s σ H vs us Q I r hw => (pgs_cons hg hr hs).run pins s σ H vs us Q I r ?_⟩
  obtain ⟨hl', q⟩ := hw
  cases vs with
  | nil => simp at hl'
  | cons v vs => exact ⟨v, vs, rfl, by simpa using hl', q⟩
theorem pgt {es : List Expr} {k : Nat} {is : List Nat} {pos : Pos} (hc : X.calm = true) (h : PGs X es (lvT is)) (hn : (assignEach es X.env).length = is.length := by rfl) (hst : (assignEach es X.env).findIdx? (·.1) = none := by rfl) :
    PG X (.Tuple es k pos) (gT X.K (.tp is)) := pg_tup hc h hn hst
theorem pgn {i : Nat} {x : Str} {pos : Pos} (hN : X.N.Nodup) (hi : X.N[i]? = some x) (hx : Loc X.env.scope x) (hf : X.fn x = true ∨ X.env.scope.names.lookup x = some .local) : PG X (.Name x pos) (gT X.K (.nm i)) := pg_name hN hi hx hf
end

/-! ### the block's own slots -/
def wipeE (ρ : Env) : List Nat → Env
  | [] => ρ
  | v :: vs => (wipeE ρ vs).set v none
section
variable {X : Cx} {σ : L2.St} {H : Hp} {ρ : Env} {M : Mem}
theorem Rl.unset (R : Rl X σ H ρ M) (i : Nat) : Rl X (σ.set i none) H (ρ.set i none) M := by
  refine ⟨by rw [List.length_set, List.length_set]; exact R.len, fun j e q => ?_, R.mem⟩
  by_cases h : i = j
  · subst h
    by_cases hi : i < ρ.length
    · rw [List.getElem?_set_self hi] at q; cases q
    · rw [List.getElem?_eq_none (by rw [List.length_set]; omega)] at q; cases q
  · rw [List.getElem?_set_ne h] at q ⊢
    exact R.slot j e q
theorem Rl.wipe (R : Rl X σ H ρ M) : ∀ vs, Rl X (L2.wipe σ vs) H (wipeE ρ vs) M
  | [] => R
  | v :: vs => (Rl.wipe R vs).unset v
end
theorem wipe_get (σ : L2.St) (j : Nat) : ∀ vs : List Nat, (L2.wipe σ vs)[j]? = if j ∈ vs then (σ[j]?).map (fun _ => none) else σ[j]?
  | [] => by simp [L2.wipe]
  | v :: vs => by
    show ((L2.wipe σ vs).set v none)[j]? = _
    have ih := wipe_get σ j vs
    by_cases h : v = j
    · subst h
      rw [if_pos List.mem_cons_self, List.getElem?_set, if_pos rfl, L2.wipe_length]
      by_cases hl : v < σ.length
      · rw [if_pos hl, List.getElem?_eq_getElem hl]; rfl
      · rw [if_neg hl, List.getElem?_eq_none (by omega)]; rfl
    · rw [List.getElem?_set_ne h, ih]
      by_cases hm : j ∈ vs
      · rw [if_pos hm, if_pos (List.mem_cons_of_mem _ hm)]
      · rw [if_neg hm, if_neg (by simp [hm]; exact fun e => h e.symm)]
theorem wipe_set (σ : L2.St) {i : Nat} {x : Option V} {vs : List Nat} (h : i ∈ vs) : L2.wipe (σ.set i x) vs = L2.wipe σ vs := by
  apply List.ext_getElem?
  intro j
  rw [wipe_get, wipe_get]
  by_cases hj : i = j
  · subst hj
    rw [if_pos h, if_pos h, List.getElem?_set, if_pos rfl]
    by_cases hl : i < σ.length
    · rw [if_pos hl, List.getElem?_eq_getElem hl]; rfl
    · rw [if_neg hl, List.getElem?_eq_none (by omega)]
  · rw [List.getElem?_set_ne hj]
theorem wipe_setLV : ∀ {is : List Nat} {ws : List V} {σ : L2.St} {vs : List Nat}, (∀ i ∈ is, i ∈ vs) → L2.wipe (setLV is ws σ) vs = L2.wipe σ vs
  | [], _, _, _, _ => rfl
  | i :: is, [], _, _, _ => rfl
  | i :: is, w :: ws, σ, vs, h => (wipe_setLV (is := is) fun j hj => h j (List.mem_cons_of_mem _ hj)).trans (wipe_set σ (h i List.mem_cons_self))
theorem wipe_wipe (σ : L2.St) (vs : List Nat) : L2.wipe (L2.wipe σ vs) vs = L2.wipe σ vs := by
  apply List.ext_getElem?
  intro j
  rw [wipe_get, wipe_get]
  by_cases h : j ∈ vs
  · rw [if_pos h, if_pos h]; cases σ[j]? <;> rfl
  · rw [if_neg h, if_neg h]
def Tg.ids : Tg → List Nat
  | .nm i => [i]
  | .tp is => is
section
variable {X : Cx}
theorem lift_tgW {t : Tg} {σ : L2.St} {H : Hp} {ρ : Env} {M : Mem} {v : V} {d : D} {Q' : Env → Prop} {Q : L2.St → Hp → Prop} (vs : List Nat) (R : Rl X (L2.wipe σ vs) H ρ M) (r : Rep X.prog X.w X.K H d v) (hv : ∀ i ∈ t.ids, i ∈ vs) (h : wTg t d ρ Q') (k : ∀ σ' ρ', L2.wipe σ' vs = L2.wipe σ vs → Rl X σ' H ρ' M → Q' ρ' → Q σ' H) : gT X.K t v (L2.wipe σ vs) H Q := by
  cases t with
  | nm i => exact k _ _ ((wipe_set _ (hv i (List.mem_singleton.mpr rfl))).trans (wipe_wipe _ _)) (R.set i r) h
  | tp is =>
    obtain ⟨ds, rfl, l, q⟩ := h
    obtain ⟨a, ws, rfl, s, rs⟩ := r
    have l' := rs.length
    exact ⟨a, ws, rfl, s, by omega, by omega, k _ _ ((wipe_setLV hv).trans (wipe_wipe _ _)) (R.setL rs) q⟩

def compD (stab : Mem → Prop) (t : Tg) (ρ : Env) (wt : WT) (we : WE) : List D → List D → Mem → (List D → Mem → Prop) → Prop
  | [], acc, M, Q => ∃ M0, SubM M0 M ∧ stab M0 ∧ Q acc M0
  | x :: xs, acc, M, Q => ∃ M0, SubM M0 M ∧ stab M0 ∧ wTg t x ρ fun ρ1 => wt ρ1 M0 fun b M1 => if b = true then we ρ1 M1 fun d M2 => acc.length < sizeLine ∧ compD stab t ρ wt we xs (acc ++ [d]) M2 Q else compD stab t ρ wt we xs acc M1 Q
def wYes : WT := fun _ M Q => Q true M
def wLc (wi : WI) (t : Tg) (vs : List Nat) (wt : WT) (we : WE) : WE := fun ρ M Q => wi ρ M fun src M1 => compD src.stab t (wipeE ρ vs) wt we src.items [] M1 fun acc M2 => ∀ p, M2 p = none → Q (.ref p) (mset M2 p (.lst acc))
theorem tkeep_lst {K : PySem.W.Frag} {H : Hp} {a : Addr} {vs : List V} {o : HO} (e : H a = some (.lst vs)) : TKeep K H (upd H a o) := by
  refine ⟨fun b ws s => ?_, fun b u x s => by rw [upd_ne (fun z => by subst z; rw [e] at s; cases s)]; exact s⟩
  rcases s with (s | ⟨u, s⟩) | s
  · exact .inl (.inl (by rw [upd_ne (fun z => by subst z; rw [e] at s; cases s)]; exact s))
  · exact .inl (.inr ⟨u, by rw [upd_ne (fun z => by subst z; rw [e] at s; cases s)]; exact s⟩)
  · exact .inr s
theorem lift_lcG {wi : WI} {t : Tg} {vs : List Nat} {wt : WT} {we : WE} (hv : ∀ i ∈ t.ids, i ∈ vs) {σ : L2.St} {H : Hp} {Q : VK} {ρ : Env} {M : Mem} {Fin : List D → Mem → Prop} (R : Rl X σ H ρ M) (q : wi ρ M fun src M1 => compD src.stab t (wipeE ρ vs) wt we src.items [] M1 Fin)
    (k : ∀ Dl H2 M2 acc ws, H2 Dl = some (.lst ws) → Reps X.prog X.w X.K H2 acc ws → M2 Dl = none → (∀ o, H Dl = some o → M Dl = none → False) → MRel X.prog X.w X.K H2 M2 → Keep H M H2 M2 → Fin acc M2 → Q (.ref Dl) H2) : tLc (lI X wi) (gT X.K t) (lT X wt) (lE X we) vs σ H Q := by
  refine ⟨ρ, M, _, R, q, fun J H1 src M1 m1 k1 ok q1 Dl hD => ?_⟩
  have nD : M1 Dl = none := m1.free hD
  refine ⟨fun i m H => m = src.items.length - i ∧ i ≤ src.items.length ∧ ∃ M2 acc ws, H Dl = some (.lst ws) ∧ Reps X.prog X.w X.K H acc ws ∧ M2 Dl = none ∧ MRel X.prog X.w X.K H M2 ∧ Keep H1 M1 H M2 ∧ compD src.stab t (wipeE ρ vs) wt we (src.items.drop i) acc M2 Fin, ?_, ?_⟩
  · obtain ⟨m2, k2⟩ := m1.allocT (o := .lst []) hD
    exact ⟨_, rfl, Nat.zero_le _, M1, [], [], upd_same, rfl, nD, m2, k2, q1⟩
  · rintro i m H2 ⟨rfl, hi, M2, acc, ws, eD, ra, n2, m2, k2, q2⟩
    by_cases hlt : i < src.items.length
    · rw [drop_cons hlt] at q2
      obtain ⟨M0, s2, st, q2⟩ := q2
      have m3 := m2.sub s2
      have k3 : Keep H1 M1 H2 M0 := k2.subR s2
      have n3 := s2.none n2
      refine .inr ⟨ok.go i H2 M0 m3 k3 st hlt, fun H' => ∃ M' acc ws, H' Dl = some (.lst ws) ∧ Reps X.prog X.w X.K H' acc ws ∧ M' Dl = none ∧ MRel X.prog X.w X.K H' M' ∧ Keep H1 M1 H' M' ∧ compD src.stab t (wipeE ρ vs) wt we (src.items.drop (i + 1)) acc M' Fin,
        fun H' p => ⟨_, by omega, rfl, hlt, p⟩, fun x H' y => ?_⟩
      obtain ⟨d, hd, rd, m', k'⟩ := ok.yld i H2 M0 x H' m3 k3 st hlt y
      rw [List.getElem?_eq_getElem hlt] at hd
      cases hd
      have R4 : Rl X σ H' ρ M0 := ((R.next m1 k1).next m3 k3).next m' k'
      refine lift_tgW vs (R4.wipe vs) rd hv q2 fun σ2 ρ2 ew R5 q5 => ⟨ew, ρ2, M0, _, R5, q5, fun b H3 M3 mb kb q6 => ?_⟩
      have k4 : Keep H2 M0 H3 M3 := k'.trans kb
      cases b with
      | false =>
        show if (false : Bool) = true then _ else _
        rw [if_neg Bool.false_ne_true] at q6 ⊢
        obtain ⟨e4, n4⟩ := k4 Dl _ eD n3
        exact ⟨M3, acc, ws, e4, Reps.keep (k4.tup m3) _ _ ra, n4, mb, k3.trans k4, q6⟩
      | true =>
        show if (true : Bool) = true then _ else _
        rw [if_pos rfl] at q6 ⊢
        refine ⟨ρ2, M3, _, R5.next mb kb, q6, fun y H4 dy M4 ry m5 k5 ⟨hl, q7⟩ => ?_⟩
        have k6 : Keep H2 M0 H4 M4 := k4.trans k5
        obtain ⟨e4, n4⟩ := k6 Dl _ eD n3
        have ra4 := Reps.keep (k6.tup m3) _ _ ra
        have tk : TKeep X.K H4 (upd H4 Dl (.lst (ws ++ [y]))) := tkeep_lst e4
        refine ⟨ws, e4, by rw [← ra.length]; exact hl, M4, acc ++ [dy], ws ++ [y], upd_same, Reps.keep tk _ _ (ra4.snoc ry), n4, fun a o e => ?_, fun a o e n => ?_, q7⟩
        · have ne : a ≠ Dl := fun z => by subst z; rw [n4] at e; cases e
          exact (m5 a o e).keep tk (upd_ne ne)
        · have ne : a ≠ Dl := fun z => by subst z; rw [hD] at e; cases e
          rw [upd_ne ne]
          exact (k3.trans k6) a o e n
    · have e : i = src.items.length := by omega
      subst e
      rw [List.drop_length] at q2
      obtain ⟨M0, s2, st, q2⟩ := q2
      have m3 := m2.sub s2
      have k3 : Keep H1 M1 H2 M0 := k2.subR s2
      have n3 := s2.none n2
      have hDM : ∀ o, H Dl = some o → M Dl = none → False := fun o c c2 => by
        obtain ⟨e0, _⟩ := k1 Dl o c c2
        rw [hD] at e0; cases e0
      exact .inl ⟨ok.stop H2 M0 m3 k3 st, k Dl H2 M0 acc ws eD ra n3 hDM m3 (k1.trans k3) q2⟩
theorem lift_lc {wi : WI} {t : Tg} {vs : List Nat} {wt : WT} {we : WE} (hv : ∀ i ∈ t.ids, i ∈ vs) : ∀ σ H Q, lE X (wLc wi t vs wt we) σ H Q → tLc (lI X wi) (gT X.K t) (lT X wt) (lE X we) vs σ H Q := fun σ H Q ⟨ρ, M, Q', R, q, k⟩ => lift_lcG hv R q fun Dl H2 M2 acc ws eD ra nD n0 m k' q => k (.ref Dl) H2 (.ref Dl) _ rfl (fun a o e => by
    by_cases z : a = Dl
    · subst z; rw [mset_same] at e; cases e; exact ⟨ws, eD, ra⟩
    · rw [mset_ne z] at e; exact m a o e) (fun a o e n => by
    have ne : a ≠ Dl := fun z => by subst z; exact n0 o e n
    rw [mset_ne ne]
    exact k' a o e n) (q Dl nD)
/-- .. a list that is not changed -/
def wLcF (wi : WI) (t : Tg) (vs : List Nat) (wt : WT) (we : WE) : WE := fun ρ M Q => wi ρ M fun src M1 => compD src.stab t (wipeE ρ vs) wt we src.items [] M1 fun acc M2 => Q (.fl acc) M2
theorem lcF_fin {H2 : Hp} {M2 : Mem} {Dl : Addr} {acc : List D} {ws : List V} {H : Hp} {M : Mem} {o : Obj} {Q : VK} {Q' : DK} (eD : H2 Dl = some (.lst ws)) (ra : Reps X.prog X.w X.K H2 acc ws) (nD : M2 Dl = none) (n0 : ∀ o, H Dl = some o → M Dl = none → False) (m : MRel X.prog X.w X.K H2 M2) (k' : Keep H M H2 M2) (q : Q' (.fl acc) M2)
    (k : ∀ v H' d' M', Rep X.prog X.w X.K H' d' v → MRel X.prog X.w X.K H' M' → Keep H M H' M' → Q' d' M' → Q v H') : Q (.ref Dl) (upd H2 Dl (.frz o (.lst ws))) := by
  have tk : TKeep X.K H2 (upd H2 Dl (.frz o (.lst ws))) := tkeep_lst eD
  refine k (.ref Dl) _ (.fl acc) M2 ⟨Dl, ws, rfl, ⟨o, upd_same⟩, Reps.keep tk _ _ ra⟩ (fun a mo e => ?_) (fun a ob e n => ?_) q
  · have ne : a ≠ Dl := fun z => by subst z; rw [nD] at e; cases e
    exact (m a mo e).keep tk (upd_ne ne)
  · have ne : a ≠ Dl := fun z => by subst z; exact n0 ob e n
    rw [upd_ne ne]
    exact k' a ob e n
theorem lift_lcF {wi : WI} {t : Tg} {vs : List Nat} {wt : WT} {we : WE} (hv : ∀ i ∈ t.ids, i ∈ vs) : ∀ σ H Q, lE X (wLcF wi t vs wt we) σ H Q → tLc (lI X wi) (gT X.K t) (lT X wt) (lE X we) vs σ H fun v H1 => Q v H1 ∨ FQ v H1 Q := fun σ H Q ⟨ρ, M, Q', R, q, k⟩ =>
  lift_lcG hv R q fun Dl H2 M2 acc ws eD ra nD n0 m k' q => .inr ⟨Dl, _, rfl, eD, True.intro, fun o => lcF_fin eD ra nD n0 m k' q k⟩
abbrev InB (X : Cx) (scope : Scope) (P : Cx → Prop) : Prop := ∀ (s : Shared) (H : Hp) (C : Addr) (cl : List (Str × Addr)) (fp : List Addr), P (X.blk s H scope (compEnvC scope cl C X.env) fp)
theorem dts_nil : PTs X [] (lT X wYes) := ⟨fun pins s σ H Q I ⟨ρ, M, Q', R, q, k⟩ => pts_nil.run pins s σ H Q I (k true H M R.mem .refl q)⟩
theorem dts_one {c : Expr} {w : WT} (h : DTs X c w) : PTs X [c] (lT X w) := pts_one h
theorem de_lc {elt tg iter : Expr} {ifs : List Expr} {scope : Scope} {own : List (Str × Nat)} {pos : Pos} {wi : WI} {t : Tg} {wt : WT} {we : WE} (hc : X.calm = true) (hN : X.N.Nodup) (ok : BlkOk X.N X.env.scope scope own) (hv : ∀ i ∈ t.ids, i ∈ own.map (·.2))
    (hi : DI X tg iter wi) (hg : InB X scope fun Y => PG Y tg (gT X.K t)) (ht : InB X scope fun Y => PTs Y ifs (lT X wt)) (he : InB X scope fun Y => PE Y elt (lE X we)) (hs : ∀ x, foldedSetIterable iter X.env x = pure x := by intro _; rfl) :
    DEx X (.ListComp elt [⟨tg, iter, ifs, 0⟩] scope pos) (wLc wi t (own.map (·.2)) wt we) := pe_imp (pe_lc hc hN hi ok hg ht he hs) (lift_lc hv)
theorem ds_setLc {i : Nat} {y : Str} {py : Pos} {elt tg iter : Expr} {ifs : List Expr} {scope : Scope} {own : List (Str × Nat)} {pos spos : Pos} {wi : WI} {t : Tg} {wt : WT} {we : WE} (hc : X.calm = true) (hN : X.N.Nodup) (hy : X.N[i]? = some y) (hyl : X.env.scope.names.lookup y = some .local)
    (hsw : swapsWith (.ListComp elt [⟨tg, iter, ifs, 0⟩] scope pos) (some (.Name y py)) spos.line X.env = pure true) (ok : BlkOk X.N X.env.scope scope own) (hv : ∀ i ∈ t.ids, i ∈ own.map (·.2))
    (hi : DI X tg iter wi) (hg : InB X scope fun Y => PG Y tg (gT X.K t)) (ht : InB X scope fun Y => PTs Y ifs (lT X wt)) (he : InB X scope fun Y => PE Y elt (lE X we)) (hs : ∀ x, foldedSetIterable iter X.env x = pure x := by intro _; rfl) :
    DSt X (.Assign [.Name y py] (.ListComp elt [⟨tg, iter, ifs, 0⟩] scope pos) spos) (wSet i (wLc wi t (own.map (·.2)) wt we)) :=
  ps_imp (ps_setLc hc hN hy hyl hsw hi ok hg ht he hs) fun D σ H ⟨ρ, M, D', R, q, le⟩ => lift_lc hv σ H _ ⟨ρ, M, _, R, q, fun v H1 d M1 r1 m1 k1 q1 => le.nx _ _ _ _ ((R.next m1 k1).set i r1) k1 q1⟩
theorem de_lcF {elt tg iter : Expr} {ifs : List Expr} {scope : Scope} {own : List (Str × Nat)} {pos : Pos} {wi : WI} {t : Tg} {wt : WT} {we : WE} (hc : X.calm = true) (hN : X.N.Nodup) (ok : BlkOk X.N X.env.scope scope own) (hv : ∀ i ∈ t.ids, i ∈ own.map (·.2))
    (hi : DI X tg iter wi) (hg : InB X scope fun Y => PG Y tg (gT X.K t)) (ht : InB X scope fun Y => PTs Y ifs (lT X wt)) (he : InB X scope fun Y => PE Y elt (lE X we)) (hs : ∀ x, foldedSetIterable iter X.env x = pure x := by intro _; rfl) :
    DEx X (.ListComp elt [⟨tg, iter, ifs, 0⟩] scope pos) (wLcF wi t (own.map (·.2)) wt we) := pe_imp (pe_frz (pe_lc hc hN hi ok hg ht he hs)) (lift_lcF hv)
theorem ds_setLcF {i : Nat} {y : Str} {py : Pos} {elt tg iter : Expr} {ifs : List Expr} {scope : Scope} {own : List (Str × Nat)} {pos spos : Pos} {wi : WI} {t : Tg} {wt : WT} {we : WE} (hc : X.calm = true) (hN : X.N.Nodup) (hy : X.N[i]? = some y) (hyl : X.env.scope.names.lookup y = some .local)
    (hsw : swapsWith (.ListComp elt [⟨tg, iter, ifs, 0⟩] scope pos) (some (.Name y py)) spos.line X.env = pure true) (ok : BlkOk X.N X.env.scope scope own) (hv : ∀ i ∈ t.ids, i ∈ own.map (·.2))
    (hi : DI X tg iter wi) (hg : InB X scope fun Y => PG Y tg (gT X.K t)) (ht : InB X scope fun Y => PTs Y ifs (lT X wt)) (he : InB X scope fun Y => PE Y elt (lE X we)) (hs : ∀ x, foldedSetIterable iter X.env x = pure x := by intro _; rfl) :
    DSt X (.Assign [.Name y py] (.ListComp elt [⟨tg, iter, ifs, 0⟩] scope pos) spos) (wSet i (wLcF wi t (own.map (·.2)) wt we)) :=
  ps_imp (ps_frz (ps_setLc hc hN hy hyl hsw hi ok hg ht he hs)) fun D σ H ⟨ρ, M, D', R, q, le⟩ => lift_lcG hv R q fun Dl H2 M2 acc ws eD ra nD n0 m k' q => .inr ⟨Dl, _, eD, True.intro, fun o => by
    have tk : TKeep X.K H2 (upd H2 Dl (.frz o (.lst ws))) := tkeep_lst eD
    have m3 : MRel X.prog X.w X.K (upd H2 Dl (.frz o (.lst ws))) M2 := fun a mo e => by
      have ne : a ≠ Dl := fun z => by subst z; rw [nD] at e; cases e
      exact (m a mo e).keep tk (upd_ne ne)
    have k3 : Keep H M (upd H2 Dl (.frz o (.lst ws))) M2 := fun a ob e n => by
      have ne : a ≠ Dl := fun z => by subst z; exact n0 ob e n
      rw [upd_ne ne]
      exact k' a ob e n
    exact le.nx _ _ _ _ ((R.next m3 k3).set i (d := .fl acc) ⟨Dl, ws, rfl, ⟨o, upd_same⟩, Reps.keep tk _ _ ra⟩) k3 q⟩
end
end Fw

set_option Elab.async false
set_option linter.all false
set_option maxRecDepth 100000
set_option maxHeartbeats 4000000
/-! FwFn: isinstance, methods, fields, calls of defs, the body of a def -/
namespace Fw
open PySem PySem.Spec PyProof.Rows L2
section
variable {X : Cx}

/-! ### isinstance(e, T) -/
def tyD (d : D) (M : Mem) : Option String := match d with
  | .non => some "NoneType"
  | .bl _ => some "bool"
  | .int _ => some "int"
  | .str _ => some "str"
  | .tup _ => some "tuple"
  | .ref a => match M a with
    | some (.lst _) => some "list"
    | some (.dict _ _) => some "dict"
    | _ => none
  | .fl _ => some "list"
  | .fd _ _ => some "dict"
inductive Ty where
  | bool | int | str | tuple | list | dict
def Ty.nm : Ty → String
  | .bool => "bool" | .int => "int" | .str => "str" | .tuple => "tuple" | .list => "list" | .dict => "dict"
def tyLe (t : String) (T : Ty) : Bool := t == T.nm || (t == "bool" && T.nm == "int")
def isiD (T : Ty) (d : D) (M : Mem) : Option Bool := (tyD d M).map fun t => tyLe t T
theorem kit_ty {K : PySem.W.Frag} {t : String} (T : Ty) (h : t ∈ ["NoneType", "bool", "int", "str", "tuple", "list", "dict"]) : PySem.W.kitOne K (.type t) (.type T.nm) = some (tyLe t T) := by
  simp only [List.mem_cons, List.not_mem_nil, or_false] at h
  rcases h with rfl | rfl | rfl | rfl | rfl | rfl | rfl <;> cases T <;> rfl
def wIsi (T : Ty) (w : WE) : WE := fun ρ M Q => w ρ M fun d M1 => ∃ b, isiD T d M1 = some b ∧ Q (.bl b) M1
def rIsiA (X : Cx) (T : Ty) : List V → Hp → VK → Prop := fun xs H Q => ∃ x d M b, xs = [x, .ty T.nm] ∧ Rep X.prog X.w X.K H d x ∧ MRel X.prog X.w X.K H M ∧ isiD T d M = some b ∧ Q (.bl b) H
theorem call_isiA (T : Ty) : CallR X (.builtin "isinstance") (rIsiA X T) := by
  intro pins s σ H xs us Q I r h
  obtain ⟨x, d, M, b, rfl, rd, m, e, q⟩ := h
  obtain ⟨u, c, rfl, r1, r2⟩ := vals2 r
  cases (show c = Value.type T.nm from r2)
  have fin : ∀ tk, EP X pins σ Q (.bool b) { s with toks := tk } := fun tk => ⟨.bl b, H, I.tok tk, rfl, q⟩
  unfold isiD tyD at e
  cases d with
  | non => cases e; cases (show x = .non from rd); cases (show u = Value.none from r1); exact PySem.W.kia_one PySem.W.kitx_none I.kIn True.intro (kit_ty T (by simp)) (fun z => nomatch z) fin
  | bl y => cases e; cases (show x = .bl y from rd); cases (show u = Value.bool y from r1); exact PySem.W.kia_one PySem.W.kitx_bool I.kIn True.intro (kit_ty T (by simp)) (fun z => nomatch z) fin
  | int i => cases e; cases (show x = .int i from rd); obtain ⟨t, z⟩ := (show ∃ t, u = Value.int i t from r1); cases z; exact PySem.W.kia_one PySem.W.kitx_int I.kIn True.intro (kit_ty T (by simp)) (fun z => nomatch z) fin
  | str y => cases e; cases (show x = .str y from rd); obtain ⟨t, z⟩ := (show ∃ t, u = Value.str y t from r1); cases z; exact PySem.W.kia_one PySem.W.kitx_str I.kIn True.intro (kit_ty T (by simp)) (fun z => nomatch z) fin
  | tup ds =>
    cases e
    obtain ⟨a, vs, rfl, sq, _⟩ := rd
    cases (show u = Value.ref a from r1)
    obtain ⟨its, _, ⟨o, h1, h2, _⟩, _⟩ := I.tuple sq
    exact PySem.W.kia_one PySem.W.kitx_tuple I.kIn ⟨o, h1, h2⟩ (kit_ty T (by simp)) (fun z => nomatch z) fin
  | ref a =>
    cases (show x = .ref a from rd)
    cases (show u = Value.ref a from r1)
    simp only at e
    cases c : M a with
    | none => rw [c] at e; cases e
    | some mo =>
      rw [c] at e
      cases mo with
      | lst ds =>
        cases e
        obtain ⟨vs, eH, _⟩ := m a _ c
        obtain ⟨_, _, n, _, h1⟩ := (show ObjOk X.prog X.w H s.heap a (.lst vs) from I.hok a _ eH)
        exact PySem.W.kia_one PySem.W.kitx_list I.kIn ⟨_, h1, rfl⟩ (kit_ty T (by simp)) (fun z => nomatch z) fin
      | dict kvs t =>
        cases e
        obtain ⟨o, h1, h2, _⟩ := dict_raw I (.of (m a _ c))
        exact PySem.W.kia_one PySem.W.kitx_dict I.kIn ⟨o, h1, h2.1⟩ (kit_ty T (by simp)) (fun z => nomatch z) fin
      | ins C fs => cases e
  | fl ds =>
    cases e
    obtain ⟨a, vs, rfl, f, _⟩ := rd
    cases (show u = Value.ref a from r1)
    obtain ⟨_, _, n, _, h1⟩ := f.rd.ok I.hok
    exact PySem.W.kia_one PySem.W.kitx_list I.kIn ⟨_, h1, rfl⟩ (kit_ty T (by simp)) (fun z => nomatch z) fin
  | fd ks es =>
    cases e
    obtain ⟨_, a, t, rfl, fd⟩ := rd.fdict
    cases (show u = Value.ref a from r1)
    obtain ⟨o, h1, h2, _⟩ := dict_raw I (.ofF fd)
    exact PySem.W.kia_one PySem.W.kitx_dict I.kIn ⟨o, h1, h2.1⟩ (kit_ty T (by simp)) (fun z => nomatch z) fin
theorem boot_ty (T : Ty) {x : Str} (h : x = Str.ofString T.nm) : bootBuiltins x = some (.type T.nm) := by
  subst h; cases T <;> decide +kernel
theorem de_isi {e : Expr} {x : Str} {p p2 pos : Pos} {w : WE} (T : Ty) (hx : x = Str.ofString T.nm) (hg : Gl X "isinstance") (hm : X.mg "isinstance" = none) (hgT : Gl X x) (hmT : X.mg x = none) (h : DEx X e w)
    (hn : x ≠ "__name__" := by decide) (hdb : (x == ("__debug__" : Str)) = false := by decide)
    (h1 : starEach [e, .Name x p2] X.env = (false, eval e X.env) :: starEach [.Name x p2] X.env := by rfl) : DEx X (.Call (.Name "isinstance" p) [e, .Name x p2] [] pos) (wIsi T w) :=
  pe_imp (pe_callB (call_isiA T) hg hm boot_isinstance (pa_cons h (pa_cons (te := tC (.ty T.nm)) ⟨fun pins s σ H Q I q => ld_blt I hgT hmT (boot_ty T hx) ⟨.ty T.nm, H, I, rfl, q⟩ hn hdb⟩ pa_nil rfl) h1) (by decide) (by decide) h1 rfl)
    fun σ H Q ⟨ρ, M, Q', R, q, k⟩ => ⟨ρ, M, _, R, q, fun v H1 d M1 r1 m1 k1 ⟨b, e1, q1⟩ => ⟨v, d, M1, b, rfl, r1, m1, e1, k _ _ (.bl b) M1 rfl m1 k1 q1⟩⟩

/-! ### methods of lists and texts -/
def wApp (wo we : WE) : WE := fun ρ M Q => wo ρ M fun o M1 => ∃ a ds0, o = .ref a ∧ M1 a = some (.lst ds0) ∧ we ρ M1 fun e M2 => ∃ ds, M2 a = some (.lst ds) ∧ ds.length < sizeLine ∧ Q .non (mset M2 a (.lst (ds ++ [e])))
theorem de_append {o e : Expr} {apos cpos : Pos} {wo we : WE} (ho : DEx X o wo) (he : DEx X e we) (hbase : attributeBase o "append" X.env (eval o X.env) = eval o X.env := by rfl)
    (hfew : ((backTo cpos (starEach [e] X.env)).all (fun x => !x.1) && (backToKw cpos (keywordEach [] X.env)).all (fun x => x.1.isSome)
      && decide (([e] : List Expr).length + ([] : List Keyword).length + (if ([] : List Keyword).isEmpty then 0 else 1) < 30)) = true := by rfl)
    (hline : (apos.endLine == cpos.line) = true := by rfl) (hs : starEach [e] X.env = (false, eval e X.env) :: starEach [] X.env := by rfl) : DEx X (.Call (.Attribute o "append" apos) [e] [] cpos) (wApp wo we) :=
  pe_imp (pe_bm F.plainAttrs_list F.slot_list_append F.type_list_append mt_append ho (pa_cons he pa_nil hs) hbase hfew hline hs rfl) fun σ H Q ⟨ρ, M, Q', R, q, k⟩ => ⟨ρ, M, _, R, q, fun x H1 d M1 r1 m1 k1 ⟨a, ds0, e0, c0, q1⟩ => by
    subst e0
    cases (show x = .ref a from r1)
    obtain ⟨vs0, h0, _⟩ := m1 a _ c0
    refine ⟨.inl ⟨rfl, vs0, .of h0⟩, ρ, M1, _, R.next m1 k1, q1, fun y H2 dy M2 r2 m2 k2 ⟨ds, c, hz, q2⟩ => ?_⟩
    obtain ⟨vs, hh, rs⟩ := m2 a _ c
    obtain ⟨m3, k3⟩ := m2.write (o := .lst (vs ++ [y])) (mo' := .lst (ds ++ [dy])) c fun t => ⟨_, upd_same, (Reps.keep t _ _ rs).snoc (Rep.keep t _ _ r2)⟩
    exact ⟨a, vs, y, rfl, rfl, hh, by rw [← rs.length]; exact hz, k _ _ .non _ rfl m3 (k1.trans (k2.trans k3)) q2⟩⟩
def wPtn (wo we : WE) : WE := fun ρ M Q => wo ρ M fun o M1 => ∃ a, o = .str a ∧ we ρ M1 fun e M2 => ∃ b, e = .str b ∧ (b.length == 0) = false ∧ a.length ≤ sizeLine ∧ Q (.tup [.str (Txt.partition a b).1, .str (Txt.partition a b).2.1, .str (Txt.partition a b).2.2]) M2
theorem de_partition {o e : Expr} {apos cpos : Pos} {wo we : WE} (ho : DEx X o wo) (he : DEx X e we) (hbase : attributeBase o "partition" X.env (eval o X.env) = eval o X.env := by rfl)
    (hfew : ((backTo cpos (starEach [e] X.env)).all (fun x => !x.1) && (backToKw cpos (keywordEach [] X.env)).all (fun x => x.1.isSome)
      && decide (([e] : List Expr).length + ([] : List Keyword).length + (if ([] : List Keyword).isEmpty then 0 else 1) < 30)) = true := by rfl)
    (hline : (apos.endLine == cpos.line) = true := by rfl) (hs : starEach [e] X.env = (false, eval e X.env) :: starEach [] X.env := by rfl) : DEx X (.Call (.Attribute o "partition" apos) [e] [] cpos) (wPtn wo we) :=
  pe_imp (pe_bm F.plainAttrs_str F.slot_str_partition F.type_str_partition mt_partition ho (pa_cons he pa_nil hs) hbase hfew hline hs rfl) fun σ H Q ⟨ρ, M, Q', R, q, k⟩ => ⟨ρ, M, _, R, q, fun x H1 d M1 r1 m1 k1 ⟨a, e0, q1⟩ => by
    subst e0
    cases (show x = .str a from r1)
    refine ⟨rfl, ρ, M1, _, R.next m1 k1, q1, fun y H2 dy M2 r2 m2 k2 ⟨b, e1, hb, hz, q2⟩ => ?_⟩
    subst e1
    cases (show y = .str b from r2)
    refine ⟨a, b, rfl, rfl, hb, hz, fun p np => ?_⟩
    obtain ⟨m3, k3⟩ := m2.allocT (o := .tup [.str (Txt.partition a b).1, .str (Txt.partition a b).2.1, .str (Txt.partition a b).2.2]) np
    exact k _ _ (.tup [.str (Txt.partition a b).1, .str (Txt.partition a b).2.1, .str (Txt.partition a b).2.2]) _ ⟨p, _, rfl, .of upd_same, .cons rfl (.cons rfl (.cons rfl .nil))⟩ m3 (k1.trans (k2.trans k3)) q2⟩
/-! ### d.get(k) -/
/-- a dict, read: its entries -/
def entD (d : D) (M : Mem) : Option (List (D × D)) := match d with
  | .ref a => match M a with
    | some (.dict kvs _) => some kvs
    | _ => none
  | .fd ks es => some (ks.zip es)
  | _ => none
theorem entD_rd {H : Hp} {M : Mem} {d : D} {x : V} {kvs : List (D × D)} (m : MRel X.prog X.w X.K H M) (r : Rep X.prog X.w X.K H d x) (h : entD d M = some kvs) : ∃ a t, x = .ref a ∧ RDict X H a kvs t := by
  cases d with
  | fd ks es => cases h; obtain ⟨_, a, t, rfl, fd⟩ := r.fdict; exact ⟨a, t, rfl, .ofF fd⟩
  | ref a =>
    unfold entD at h
    simp only at h
    cases c : M a with
    | none => rw [c] at h; cases h
    | some mo =>
      rw [c] at h
      cases mo with
      | dict kvs t => cases h; exact ⟨a, t, r, .of (m a _ c)⟩
      | lst _ => cases h
      | ins _ _ => cases h
  | _ => cases h
def wGet1 (wo we : WE) : WE := fun ρ M Q => wo ρ M fun o M1 => ∃ kvs0, entD o M1 = some kvs0 ∧ we ρ M1 fun e M2 => ∃ kvs, entD o M2 = some kvs ∧ keyOk kvs e ∧ Q ((valD kvs e).getD .non) M2
theorem de_get1 {o e : Expr} {apos cpos : Pos} {wo we : WE} (hu : X.A.units + 64 < cLine) (ho : DEx X o wo) (he : DEx X e we) (m : M1 X o "get" apos e cpos) : DEx X (.Call (.Attribute o "get" apos) [e] [] cpos) (wGet1 wo we) := by
  refine ⟨fun pins s σ H Q I ⟨ρ, M, Q', R, q, k⟩ => ?_⟩
  refine wpAny_Call_method m.base m.few m.line PySem.F.plainAttrs_dict PySem.F.slot_dict_get PySem.F.type_dict_get (thn (ho.run pins s σ H _ I ⟨ρ, M, _, R, q, fun v H1 d M1 r1 m1 k1 q1 => (show ∃ d M1, Rep X.prog X.w X.K H1 d v ∧ MRel X.prog X.w X.K H1 M1 ∧ Keep H M H1 M1 ∧ _ from ⟨d, M1, r1, m1, k1, q1⟩)⟩) fun u s1 ⟨x, H1, I1, rx, d, M1, r1, m1, k1, kvs0, e0, q1⟩ => ?_)
  obtain ⟨a, t0, rfl, rd0⟩ := entD_rd m1 r1 e0
  cases (show u = Value.ref a from rx)
  obtain ⟨o', h1, h2, h3⟩ := dict_raw I1 rd0
  refine ⟨⟨o', h1, h2.1⟩, fun b eb => by cases eb; exact ⟨o', h1, h2.2.1⟩, ?_⟩
  rw [m.trees]
  refine Calls.callWith_builtin rfl (Calls.evalArgs_plain (Calls.spliced_cons (thn (he.run pins s1 σ H1 _ I1 ⟨ρ, M1, _, R.next m1 k1, q1, fun v H2 d M2 r2 m2 k2 q2 => (show ∃ d M2, Rep X.prog X.w X.K H2 d v ∧ MRel X.prog X.w X.K H2 M2 ∧ Keep H1 M1 H2 M2 ∧ _ from ⟨d, M2, r2, m2, k2, q2⟩)⟩) fun iv s2 ⟨y, H2, I2, ry, dy, M2, r2, m2, k2, kvs, c, ok, q2⟩ => Calls.spliced_nil ?_)))
  obtain ⟨a', t, e3, rd2⟩ := entD_rd m2 (Rep.keep (k2.tup m1) _ _ r1) c
  cases e3
  exact w_get1 hu I2 rd2 ok r2 ry fun x w' s' I' rx' rw' => ⟨x, H2, I', rw', k x H2 _ M2 rx' m2 (k1.trans k2) q2⟩

/-! ### {k: v} -/
def wDisp1 (wk wv : WE) : WE := fun ρ M Q => wk ρ M fun k M1 => wv ρ M1 fun v M2 => fkey k = true ∧ ∀ p t, M2 p = none → Q (.ref p) (mset M2 p (.dict [(k, v)] t))
theorem rep_flat {P : Program} {w : World} {K : PySem.W.Frag} {H : Hp} {d : D} {v : V} (h : fkey d = true) (r : Rep P w K H d v) : ∃ k, d.flat? = some k ∧ v = kV k := by
  cases d with
  | int i => exact ⟨.inl i, rfl, r⟩
  | str i => exact ⟨.inr i, rfl, r⟩
  | _ => cases h
theorem de_disp1 {e f : Expr} {pos : Pos} {we wf : WE} (he : DEx X e we) (hf : DEx X f wf) : DEx X (.Dict [some e] [f] pos) (wDisp1 we wf) := by
  refine ⟨fun pins s σ H Q I ⟨ρ, M, Q', R, q, k⟩ => ?_⟩
  refine thn ((pe_disp (pps_cons he hf pps_nil) rfl rfl (fun z => nomatch z) (by show (1 : Nat) ≤ 15; decide)).run pins s σ H (fun v H' => ∃ p H2 dk dv M2 kk y, v = .ref p ∧ H' = upd H2 p (.dK [(kk, y)]) ∧ H2 p = some (.dK []) ∧ H p = none ∧ dk.flat? = some kk ∧ Rep X.prog X.w X.K H2 dv y ∧ MRel X.prog X.w X.K H2 M2 ∧ M2 p = none ∧ Keep H M (fun a => if a = p then none else H2 a) M2 ∧ ∀ t, Q' (.ref p) (mset M2 p (.dict [(dk, dv)] t))) I fun p np => ?_) ?_
  · obtain ⟨m0, k0⟩ := R.mem.allocT (o := .dK []) np
    refine ⟨ρ, M, _, R.next m0 k0, q, fun x H1 dx M1 r1 m1 k1 q1 => ⟨ρ, M1, _, (R.next m0 k0).next m1 k1, q1, fun y H2 dy M2 r2 m2 k2 ⟨fk, q2⟩ => ?_⟩⟩
    have np0 : M p = none := R.mem.free np
    obtain ⟨e2, n2⟩ := (k1.trans k2) p _ upd_same np0
    obtain ⟨kk, hk, rfl⟩ := rep_flat fk r1
    refine ⟨e2, [(kk, y)], rfl, by show (1 : Nat) ≤ 15; decide, p, H2, dx, dy, M2, kk, y, rfl, rfl, e2, np, hk, r2, m2, n2, fun a o ea na => ?_, fun t => q2 p t n2⟩
    have ne : a ≠ p := ne_of_none ea np
    show (if a = p then none else H2 a) = some o ∧ _
    rw [if_neg ne]
    exact (k0.trans (k1.trans k2)) a o ea na
  · rintro u s' ⟨v, H', I', rv, p, H2, dk, dv, M2, kk, y, rfl, rfl, e2, np, hk, r2, m2, n2, k2, q2⟩
    obtain ⟨hz, hsm, vs, rel, dd⟩ := dk_of I'.hok upd_same
    obtain ⟨o, es, ep, ho, hx, hd, h1, h2, h3⟩ := dd
    have tk : TKeep X.K H2 (upd H2 p (DX p (es, ep))) := by
      refine ⟨fun b ws sq => ?_, fun b u x sq => by rw [upd_ne (fun z => by subst z; rw [e2] at sq; cases sq)]; exact sq⟩
      rcases sq with (sq | ⟨z, sq⟩) | sq
      · exact .inl (.inl (by rw [upd_ne (fun z => by subst z; rw [e2] at sq; cases sq)]; exact sq))
      · exact .inl (.inr ⟨z, by rw [upd_ne (fun z => by subst z; rw [e2] at sq; cases sq)]; exact sq⟩)
      · exact .inr sq
    have I2 := d_write (t' := s'.toks) (h' := s'.heap) (ob := DX p (es, ep)) I' (by rw [upd_same]; exact True.intro) ⟨rfl, fun _ _ => rfl⟩ ⟨o, ho⟩ (dx_ok (t := (es, ep)) ⟨o, ho, hx, hd⟩)
    rw [upd_upd] at I2
    have dm : ∀ b mo, mset M2 p (.dict [(dk, dv)] (es, ep)) b = some mo → Cell X.prog X.w X.K (upd H2 p (DX p (es, ep))) b mo := fun b mo eb => by
      by_cases z : b = p
      · subst z
        rw [mset_same] at eb
        cases eb
        refine ⟨upd_same, hsm, by show (1 : Nat) ≤ sizeLine; decide, .inl ⟨vs, ?_, h1, h2, h3⟩⟩
        cases rel with
        | cons hd tl =>
          cases tl
          exact .cons ⟨hk.trans (congrArg some hd.1), y, Rep.keep tk _ _ r2, hd.2⟩ .nil
      · rw [mset_ne z] at eb
        exact (m2 b mo eb).keep tk (upd_ne z)
    exact ⟨.ref p, _, I2, rv, k _ _ (.ref p) _ rfl dm (fun a o' ea na => by
      have ne : a ≠ p := ne_of_none ea np
      obtain ⟨h4, h5⟩ := k2 a o' ea na
      have h4 : (if a = p then none else H2 a) = some o' := h4
      rw [if_neg ne] at h4
      rw [upd_ne ne, mset_ne ne]
      exact ⟨h4, h5⟩) (q2 (es, ep))⟩
end
end Fw

set_option Elab.async false
set_option linter.all false
set_option maxRecDepth 100000
set_option maxHeartbeats 4000000
/-! FwDef: fields, calls of defs and methods, the body of a def -/
namespace Fw
open PySem PySem.Spec PyProof.Rows L2

/-! ### fields -/
theorem RepF.look {P : Program} {w : World} {K : PySem.W.Frag} {H : Hp} {fs : List (Str × D)} {gs : List (Str × V)} (h : RepF P w K H fs gs) (f : Str) : (fs.lookup f = none ∧ gs.lookup f = none) ∨ ∃ d v, fs.lookup f = some d ∧ gs.lookup f = some v ∧ Rep P w K H d v := by
  induction h with
  | nil => exact .inl ⟨rfl, rfl⟩
  | @cons p q l1 l2 hd tl ih =>
    obtain ⟨pn, pd⟩ := p
    obtain ⟨qn, qv⟩ := q
    obtain ⟨e, r⟩ := hd
    simp only at e r
    subst e
    rw [List.lookup_cons, List.lookup_cons]
    cases c : f == pn with
    | true => exact .inr ⟨pd, qv, rfl, rfl, r⟩
    | false => exact ih
def putFD (f : Str) (v : D) : List (Str × D) → List (Str × D)
  | [] => [(f, v)]
  | (g, x) :: r => if g = f then (g, v) :: r else (g, x) :: putFD f v r
theorem RepF.put {P : Program} {w : World} {K : PySem.W.Frag} {H : Hp} {fs : List (Str × D)} {gs : List (Str × V)} (h : RepF P w K H fs gs) (f : Str) {d : D} {v : V} (r : Rep P w K H d v) : RepF P w K H (putFD f d fs) (putF f v gs) := by
  induction h with
  | nil => exact .cons ⟨rfl, r⟩ .nil
  | @cons p q l1 l2 hd tl ih =>
    obtain ⟨pn, pd⟩ := p
    obtain ⟨qn, qv⟩ := q
    obtain ⟨e, r'⟩ := hd
    simp only at e r'
    subst e
    unfold putFD putF
    by_cases c : pn = f
    · rw [if_pos c, if_pos c]; exact .cons ⟨rfl, r⟩ tl
    · rw [if_neg c, if_neg c]; exact .cons ⟨rfl, r'⟩ ih
theorem RepF.length {P : Program} {w : World} {K : PySem.W.Frag} {H : Hp} {fs : List (Str × D)} {gs : List (Str × V)} (h : RepF P w K H fs gs) : fs.length = gs.length := Paired.length h
section
variable {X : Cx}
def wFld (C : Addr) (f : Str) (w : WE) : WE := fun ρ M Q => w ρ M fun o M1 => ∃ a fs d, o = .ref a ∧ M1 a = some (.ins C fs) ∧ fs.lookup f = some d ∧ Q d M1
theorem de_fld {e : Expr} {f : Str} {pos : Pos} {w : WE} {C : Addr} (c : Cls X.K C) (n : NoAttr X.K C f) (h : DEx X e w) (hb : attributeBase e f X.env (eval e X.env) = eval e X.env := by rfl) : DEx X (.Attribute e f pos) (wFld C f w) :=
  pe_imp (pe_fld h hb) fun σ H Q ⟨ρ, M, Q', R, q, k⟩ => ⟨ρ, M, _, R, q, fun x H1 d M1 r1 m1 k1 ⟨a, fs, d', e0, c0, l, q1⟩ => by
    subst e0
    cases (show x = .ref a from r1)
    obtain ⟨dx, gs, hh, rf⟩ := m1 a _ c0
    rcases rf.look f with ⟨z, _⟩ | ⟨d2, v, z, z2, rv⟩
    · rw [z] at l; cases l
    · rw [z] at l
      cases l
      exact ⟨a, C, dx, gs, v, rfl, hh, c, n, z2, k v H1 d' M1 rv m1 k1 q1⟩⟩
def wSetFld (C : Addr) (f : Str) (wo wv : WE) : WS := fun D ρ M => wv ρ M fun d M1 => wo ρ M1 fun o M2 => ∃ a fs, o = .ref a ∧ M2 a = some (.ins C fs) ∧ fs.length < 1000 ∧ D.nx ρ (mset M2 a (.ins C (putFD f d fs)))
theorem ds_fld {o value : Expr} {f : Str} {pos pos' : Pos} {C : Addr} {wo wv : WE} (c : Cls X.K C) (n : NoAttr X.K C f) (ho : DEx X o wo) (hv : DEx X value wv) (hs : swapsWith value (some (.Attribute o f pos')) pos.line X.env = pure false) :
    DSt X (.Assign [.Attribute o f pos'] value pos) (wSetFld C f wo wv) := ps_imp (ps_fld ho hv hs) fun D σ H ⟨ρ, M, D', R, q, le⟩ =>
  ⟨ρ, M, _, R, q, fun y H1 dy M1 r1 m1 k1 q1 => ⟨ρ, M1, _, R.next m1 k1, q1, fun x H2 d M2 r2 m2 k2 ⟨a, fs, e0, c0, hz, q2⟩ => by
    subst e0
    cases (show x = .ref a from r2)
    obtain ⟨dx, gs, hh, rf⟩ := m2 a _ c0
    have ry := Rep.keep (k2.tup m1) _ _ r1
    obtain ⟨m3, k3⟩ := m2.write (o := .ins C dx (putF f y gs)) (mo' := .ins C (putFD f dy fs)) c0 fun t => ⟨dx, _, upd_same, (rf.keep t).put f (Rep.keep t _ _ ry)⟩
    exact ⟨a, C, dx, gs, rfl, hh, c, n, by rw [← rf.length]; exact hz, le.nx _ _ _ _ (((R.next m1 k1).next m2 k2).next m3 k3) (k1.trans (k2.trans k3)) q2⟩⟩⟩

/-! ### calls of defs -/
abbrev DSp := List D → Mem → DK → Prop
def lSp (P : Program) (w : World) (K : PySem.W.Frag) (sp : DSp) : Sp := fun vs H Q _ => ∃ ds M Q', Reps P w K H ds vs ∧ MRel P w K H M ∧ sp ds M Q' ∧ ∀ v H' d M', Rep P w K H' d v → MRel P w K H' M' → Keep H M H' M' → Q' d M' → Q v H'
abbrev CalD (P : Program) (w : World) (K : PySem.W.Frag) (mg : Str → Option Value) (base : Heap) (k : Nat) (x : Str) (sp : DSp) : Prop := C8.Cal P w K mg base k x (lSp P w K sp) []
abbrev MetD (P : Program) (w : World) (K : PySem.W.Frag) (mg : Str → Option Value) (base : Heap) (k : Nat) (C : Addr) (m : Str) (sp : DSp) : Prop := C8.Met P w K mg base k C m (lSp P w K sp) []
abbrev MakD (P : Program) (w : World) (K : PySem.W.Frag) (mg : Str → Option Value) (base : Heap) (k : Nat) (x : Str) (C : Addr) (sp : DSp) : Prop := C8.Mak P w K mg base k x C (lSp P w K sp) []
theorem lift_call {sp : DSp} {wa : WA} : ∀ σ H Q, lE X (wCall sp wa) σ H Q → tCall (lSp X.prog X.w X.K sp) [] C8.E0 (lA X wa) σ H Q := fun σ H Q ⟨ρ, M, Q', R, q, k⟩ =>
  ⟨ρ, M, _, R, q, fun vs H1 ds M1 r1 m1 k1 q1 => ⟨ds, M1, Q', by rw [List.append_nil]; exact r1, m1, q1, fun v H2 d M2 r2 m2 k2 q2 => k v H2 d M2 r2 m2 (k1.trans k2) q2⟩⟩
theorem de_call {k j : Nat} {x : Str} {sp : DSp} {p pos : Pos} {e : Expr} {es : List Expr} {wa : WA} (c : CalD X.prog X.w X.K X.mg X.base k x sp) (hr : Room j X.A) (hk : k ≤ j) (hg : Gl X x) (ha : DAr X (e :: es) wa)
    (hdb : (x == ("__debug__" : Str)) = false := by decide) (he : starEach (e :: es) X.env = (false, eval e X.env) :: starEach es X.env := by rfl) (hpl : (backTo pos (starEach es X.env)).any (·.1) = false := by rfl) :
    DEx X (.Call (.Name x p) (e :: es) [] pos) (wCall sp wa) := pe_imp (C8.pe_c c hr hk hg ha hdb he hpl) lift_call
def wMeth (C : Addr) (m : Str) (sp : DSp) (wo : WE) (wa : WA) : WE := fun ρ M Q => wo ρ M fun o M1 => ∃ a fs, o = .ref a ∧ M1 a = some (.ins C fs) ∧ fs.lookup m = none ∧ wa ρ M1 fun ds M2 => sp (.ref a :: ds) M2 Q
theorem de_meth {k j : Nat} {C : Addr} {m : Str} {sp : DSp} {apos pos : Pos} {o e : Expr} {es : List Expr} {wo : WE} {wa : WA} {pl : Sem Bool} (c : MetD X.prog X.w X.K X.mg X.base k C m sp) (hr : Room j X.A) (hk : k ≤ j) (ho : DEx X o wo) (ha : DAr X (e :: es) wa)
    (hst : starEach (e :: es) X.env = (false, eval e X.env) :: starEach es X.env := by rfl) (hpl : (backTo pos (starEach es X.env)).any (·.1) = false := by rfl)
    (ht : eval (.Call (.Attribute o m apos) (e :: es) [] pos) X.env = (do
      let ov ← eval o X.env
      standAt apos.atName
      let (f, first) ← holding [ov] (getMethod ov m pl)
      callWith pos f first (backTo pos (starEach (e :: es) X.env)) (backToKw pos (keywordEach [] X.env))) := by rfl) :
    DEx X (.Call (.Attribute o m apos) (e :: es) [] pos) (wMeth C m sp wo wa) := pe_imp (C8.pe_mt (pl := pl) c hr hk ho ha hst hpl ht) fun σ H Q ⟨ρ, M, Q', R, q, k⟩ =>
  ⟨ρ, M, _, R, q, fun x H1 d M1 r1 m1 k1 ⟨a, fs, e0, c0, l, q1⟩ => by
    subst e0
    cases (show x = .ref a from r1)
    obtain ⟨dx, gs, hh, rf⟩ := m1 a _ c0
    have l2 : gs.lookup m = none := by
      rcases rf.look m with ⟨_, z⟩ | ⟨_, _, z, _⟩
      · exact z
      · rw [z] at l; cases l
    exact ⟨a, dx, gs, rfl, hh, l2, ρ, M1, _, R.next m1 k1, q1, fun vs H2 ds M2 r2 m2 k2 q2 => ⟨.ref a :: ds, M2, Q', by rw [List.append_nil]; exact .cons rfl r2, m2, q2, fun v H3 d3 M3 r3 m3 k3 q3 => k v H3 d3 M3 r3 m3 (k1.trans (k2.trans k3)) q3⟩⟩⟩
def wMake (C : Addr) (sp : DSp) (wa : WA) : WE := fun ρ M Q => wa ρ M fun ds M1 => ∀ x, M1 x = none → sp (.ref x :: ds) (mset M1 x (.ins C [])) fun d M2 => d = .non ∧ Q (.ref x) M2
theorem de_make {k j : Nat} {C : Addr} {x : Str} {sp : DSp} {p pos : Pos} {e : Expr} {es : List Expr} {wa : WA} (c : MakD X.prog X.w X.K X.mg X.base k x C sp) (hr : Room j X.A) (hk : k + 1 ≤ j) (hg : Gl X x) (ha : DAr X (e :: es) wa)
    (hdb : (x == ("__debug__" : Str)) = false := by decide) (he : starEach (e :: es) X.env = (false, eval e X.env) :: starEach es X.env := by rfl) (hpl : (backTo pos (starEach es X.env)).any (·.1) = false := by rfl) :
    DEx X (.Call (.Name x p) (e :: es) [] pos) (wMake C sp wa) := pe_imp (C8.pe_mk c hr hk hg ha hdb he hpl) fun σ H Q ⟨ρ, M, Q', R, q, k⟩ =>
  ⟨ρ, M, _, R, q, fun vs H1 ds M1 r1 m1 k1 q1 => fun y dx ny nd ne => by
    obtain ⟨m2, k2⟩ := m1.allocT (o := .own y) nd
    have ny2 : (upd H1 dx (.own y)) y = none := by rw [upd_ne (Ne.symm ne)]; exact ny
    obtain ⟨m3, k3, n3⟩ := m2.alloc (o := .ins C dx []) (mo := .ins C []) ny2 fun t => ⟨dx, [], upd_same, .nil⟩
    refine ⟨.ref y :: ds, _, _, ?_, m3, q1 y n3, fun v H4 d M4 r4 m4 k4 ⟨e0, q4⟩ => ?_⟩
    · rw [List.append_nil]
      exact .cons rfl (Reps.keep ((k2.trans k3).tup m1) _ _ r1)
    · subst e0
      exact ⟨r4, k (.ref y) H4 (.ref y) M4 rfl m4 (k1.trans (k2.trans (k3.trans k4))) q4⟩⟩
end

/-! ### the body of a def -/
/-- what a def leaves behind may be forgotten -/
def frzT (d : D) (M : Mem) (Q : DK) : Prop := match d with
  | .ref a => match M a with
    | some (.lst ds) => Q (.fl ds) (mdel M a)
    | some (.dict kvs _) => Q (.fd (kvs.map (·.1)) (kvs.map (·.2))) (mdel M a)
    | _ => False
  | _ => False
def drops (Q : DK) : DK := fun d M => ∃ M0, SubM M0 M ∧ (Q d M0 ∨ frzT d M0 Q)
theorem frz_rep {P : Program} {w : World} {K : PySem.W.Frag} {H : Hp} {M : Mem} {d : D} {v : V} {Q : VK} {Q' : DK} (m : MRel P w K H M) (r : Rep P w K H d v) (h : frzT d M Q')
    (k : ∀ v H' d' M', Rep P w K H' d' v → MRel P w K H' M' → Keep H M H' M' → Q' d' M' → Q v H') : FQ v H Q := by
  cases d with
  | ref a =>
    unfold frzT at h
    simp only at h
    cases c : M a with
    | none => rw [c] at h; exact h.elim
    | some mo =>
      rw [c] at h
      have hc := m a _ c
      cases mo with
      | lst ds =>
        obtain ⟨vs, e, rs⟩ := hc
        refine ⟨a, _, r, e, True.intro, fun o => ?_⟩
        obtain ⟨m2, k2⟩ := m.lock (o := o) c e True.intro
        exact k v _ (.fl ds) _ ⟨a, vs, r, ⟨o, upd_same⟩, Reps.keep (tkeep_lock e True.intro) _ _ rs⟩ m2 k2 h
      | dict kvs t =>
        have e := hc.1
        refine ⟨a, _, r, e, True.intro, fun o => ?_⟩
        obtain ⟨m2, k2⟩ := m.lock (o := o) c e True.intro
        refine k v _ (.fd (kvs.map (·.1)) (kvs.map (·.2))) _ ?_ m2 k2 h
        rw [show v = .ref a from r]
        exact hc.fd (tkeep_lock e True.intro) (.inl ⟨o, upd_same⟩)
      | ins _ _ => exact h.elim
  | _ => exact h.elim
def ends (Q : DK) : DEnds := { nx := fun _ M => drops Q .non M, rt := drops Q }
def startD (n : Nat) (ds : List D) : Env := ds.map some ++ List.replicate (n - ds.length) none
theorem rl_start {P : Program} {w : World} {K : PySem.W.Frag} {H : Hp} {ds : List D} {vs : List V} {N : List Str} (r : Reps P w K H ds vs) : ∀ (i : Nat) d, (startD N.length ds)[i]? = some (some d) → ∃ v, (L2.start N vs)[i]? = some (some v) ∧ Rep P w K H d v := by
  intro i d e
  unfold startD at e
  unfold L2.start
  have l := r.length
  by_cases h : i < ds.length
  · rw [List.getElem?_append_left (by rw [List.length_map]; exact h), List.getElem?_map] at e
    rw [List.getElem?_append_left (by rw [List.length_map]; omega), List.getElem?_map]
    cases c : ds[i]? with
    | none => rw [c] at e; cases e
    | some d' =>
      rw [c] at e
      cases e
      obtain ⟨v, e1, r1⟩ := r.get c
      exact ⟨v, by rw [e1]; rfl, r1⟩
  · rw [List.getElem?_append_right (by rw [List.length_map]; omega), List.getElem?_replicate] at e
    split at e <;> cases e
/-- a body that reads as w keeps the promise sp -/
theorem body_ok {X : Cx} {body : List Stmt} {wb : WS} {sp : DSp} {N : List Str} {vs : List V} {H : Hp} {Q : VK} {E : XK} (hb : DSs X body wb) (hsp : ∀ ds M Q, sp ds M Q → wb (ends Q) (startD N.length ds) M) (h : lSp X.prog X.w X.K sp vs H Q E) :
    ∃ t, PSs X body t ∧ t { nx := fun _ H' => Q .non H', rt := Q } (L2.start N vs) H := by
  obtain ⟨ds, M, Q', r, m, q, k⟩ := h
  refine ⟨_, pss_frz hb, startD N.length ds, M, ends Q', ⟨?_, rl_start r, m⟩, hsp _ _ _ q, ⟨?_, ?_, ?_, ?_⟩⟩
  · unfold startD L2.start
    have l := r.length
    simp only [List.length_append, List.length_map, List.length_replicate]
    omega
  · rintro σ' H' ρ' M' R k' ⟨M0, s, q0 | q0⟩
    · exact k .non H' .non M0 rfl (R.mem.sub s) (k'.subR s) q0
    · exact q0.elim
  · rintro v H' d M' rv m' k' ⟨M0, s, q0 | q0⟩
    · exact .inl (k v H' d M0 rv (m'.sub s) (k'.subR s) q0)
    · exact .inr (frz_rep (m'.sub s) rv q0 fun v H2 d2 M2 r2 m2 k2 q2 => k v H2 d2 M2 r2 m2 ((k'.subR s).trans k2) q2)
  · rintro _ _ _ _ _ _ q; exact q.elim
  · rintro _ _ _ _ _ _ q; exact q.elim
theorem sp_len {P : Program} {w : World} {K : PySem.W.Frag} {sp : DSp} {n : Nat} (h : ∀ ds M Q, sp ds M Q → ds.length = n) : ∀ vs H Q E, lSp P w K sp vs H Q E → vs.length = n := fun vs H Q E ⟨ds, M, Q', r, m, q, k⟩ => by rw [← r.length]; exact h _ _ _ q
section
variable {P : Program} {w : World} {K : PySem.W.Frag} {mg : Str → Option Value} {base : Heap}
/-- the context of a body of these texts -/
abbrev cx (P : Program) (w : World) (K : PySem.W.Frag) (mg : Str → Option Value) (base : Heap) (N : List Str) (qual : Str) (scope : Scope) (f : Addr) (cd : Value) (A : Around) (outer : List PySem.Env) (s : Shared) (H : Hp) (E : XK) : Cx := (cxOf C8.CX0 P w K mg base N qual scope f cd A outer s H E).nox
theorem fn_ok {x qual : Str} {params : Arguments} {body : List Stmt} {scope : Scope} {f : Addr} {fd : FuncData} {N ps : List Str} {k : Nat} {sp : DSp} {wb : WS} (F : FunD K x qual params body scope [] [] f fd) (S : FnScope N ps scope) (hl : ∀ ds M Q, sp ds M Q → ds.length = ps.length)
    (hb : ∀ (cdv : Value) (A : Around) (outer : List PySem.Env) (s : Shared) (H : Hp) (E : XK), Room k (A.deeper (envOfC qual scope s.heap.objs.size f cdv)) → DSs (cx P w K mg base N qual scope f cdv A outer s H E) body wb)
    (hsp : ∀ ds M Q, sp ds M Q → wb (ends Q) (startD N.length ds) M) : FnOk P w K mg base C8.CX0 (k + 1) f fd ps (lSp P w K sp) :=
  F.ok S (sp_len hl) fun cdv A outer s H vs Q E hr h => let ⟨t, h1, h2⟩ := body_ok (X := cx P w K mg base N qual scope f cdv A outer s H E) (hb cdv A outer s H E hr) hsp h; ⟨t, h1.nox, h2⟩
theorem cal_ok {x : Str} {params : Arguments} {body : List Stmt} {scope : Scope} {f : Addr} {fd : FuncData} {N ps : List Str} {k : Nat} {sp : DSp} {wb : WS} (F : FunD K x x params body scope [] [] f fd) (hm : mg x = some (.ref f)) (b : Binds K fd ps []) (S : FnScope N ps scope) (hl : ∀ ds M Q, sp ds M Q → ds.length = ps.length)
    (hb : ∀ (cdv : Value) (A : Around) (outer : List PySem.Env) (s : Shared) (H : Hp) (E : XK), Room k (A.deeper (envOfC x scope s.heap.objs.size f cdv)) → DSs (cx P w K mg base N x scope f cdv A outer s H E) body wb)
    (hsp : ∀ ds M Q, sp ds M Q → wb (ends Q) (startD N.length ds) M) : CalD P w K mg base (k + 1) x sp := ⟨f, fd, ps, [], fn_ok F S hl hb hsp, hm, F.kp, b, .nil⟩
theorem CalD.mono {x : Str} {sp : DSp} {j k : Nat} (c : CalD P w K mg base j x sp) (h : j ≤ k) : CalD P w K mg base k x sp := let ⟨f, fd, ps, ds, F, hm, kp, b, d⟩ := c.ex; ⟨f, fd, ps, ds, F.mono h, hm, kp, b, d⟩
end
end Fw

set_option Elab.async false
set_option linter.all false
set_option maxRecDepth 100000
set_option maxHeartbeats 4000000
/-! FwLib: the rules under short names, for the printed walks -/
namespace Fw
open PySem PySem.Spec PyProof.Rows L2

def dSub : W2 := dInt0 fun i j => .int (i - j)
def dFdiv : W2 := dInt CDiv fun i j => .int (i / j)
def dMod : W2 := dInt (fun _ j => 0 < j) fun i j => .int (i % j)
def dPow : W2 := dInt CPow fun i j => .int (i ^ j.toNat)
def dLe : W2 := dInt0 fun i j => .bl (decide (i ≤ j))
def dGt : W2 := dInt0 fun i j => .bl (decide (j < i))
def dGe : W2 := dInt0 fun i j => .bl (decide (j ≤ i))
theorem bt_all : bootBuiltins "all" = some (.builtin "all") := by decide +kernel
theorem bt_any : bootBuiltins "any" = some (.builtin "any") := by decide +kernel
theorem bt_sum : bootBuiltins "sum" = some (.builtin "sum") := by decide +kernel
theorem bt_abs : bootBuiltins "abs" = some (.builtin "abs") := by decide +kernel
theorem bt_sorted : bootBuiltins "sorted" = some (.builtin "sorted") := by decide +kernel
theorem bt_int : bootBuiltins "int" = some (.type "int") := by decide +kernel
theorem bt_str : bootBuiltins "str" = some (.type "str") := by decide +kernel
theorem bt_list : bootBuiltins "list" = some (.type "list") := by decide +kernel
theorem bt_tuple : bootBuiltins "tuple" = some (.type "tuple") := by decide +kernel
theorem room64 {k : Nat} {A : Around} (hr : Room k A) : A.units + 64 < cLine := hr.units
theorem room65 {k : Nat} {A : Around} (hr : Room k A) : A.units + 65 < cLine := by have := hr.un; omega
section
variable {X : Cx} {a b c e : Expr} {wa wb wc we : WE} {ta tb : WT} {pos pos' p p2 apos cpos : Pos} {k : Nat}
theorem xInt {i : Int} {j : Nat} : DEx X (.Constant (.int i) j pos) (wC (.int i)) := de_c pe_int fun _ => rfl
theorem xStr {i : Str} {j : Nat} : DEx X (.Constant (.str i) j pos) (wC (.str i)) := de_c pe_str fun _ => rfl
theorem xBl {i : Bool} {j : Nat} : DEx X (.Constant (.bool i) j pos) (wC (.bl i)) := de_c pe_bl fun _ => rfl
theorem xNon {j : Nat} : DEx X (.Constant .none j pos) (wC .non) := de_c pe_non fun _ => rfl
theorem xV (i : Nat) {x : Str} (h1 : X.N[i]? = some x := by rfl) (h2 : Vis X.env.scope x := by first | exact .inl rfl | exact .inr (.inl rfl) | exact .inr (.inr rfl)) (h3 : (x == ("__debug__" : Str)) = false := by decide) (h4 : (x == ("__classdict__" : Str)) = false := by decide) : DEx X (.Name x pos) (wVar i) := de_var (pe_var h1 h2 h3 h4)
theorem xGS {x z : Str} (h : ∃ t, X.mg x = some (.str z t)) (hg : Gl X x := by rfl) (hd : (x == ("__debug__" : Str)) = false := by decide) : DEx X (.Name x pos) (wC (.str z)) := let ⟨t, e⟩ := h; de_c (pe_glob (v := .str z) hg e ⟨t, rfl⟩ hd) fun _ => rfl
theorem xGI {x : Str} {i : Int} (h : ∃ t, X.mg x = some (.int i t)) (hg : Gl X x := by rfl) (hd : (x == ("__debug__" : Str)) = false := by decide) : DEx X (.Name x pos) (wC (.int i)) := let ⟨t, e⟩ := h; de_c (pe_glob (v := .int i) hg e ⟨t, rfl⟩ hd) fun _ => rfl
theorem xAdd (ha : DEx X a wa) (hb : DEx X b wb) : DEx X (.BinOp a .Add b pos) (wBin dAdd wa wb) := de_op op_addR lift_add ha hb
theorem xMul (ha : DEx X a wa) (hb : DEx X b wb) : DEx X (.BinOp a .Mult b pos) (wBin dMul wa wb) := de_op op_mulR lift_mul ha hb
theorem xSub (ha : DEx X a wa) (hb : DEx X b wb) : DEx X (.BinOp a .Sub b pos) (wBin dSub wa wb) := de_op op_sub (lift_int0 fun _ _ _ => rfl) ha hb
theorem xFdiv (ha : DEx X a wa) (hb : DEx X b wb) : DEx X (.BinOp a .FloorDiv b pos) (wBin dFdiv wa wb) := de_op op_fdiv (lift_int fun _ _ _ => rfl) ha hb
theorem xMod (ha : DEx X a wa) (hb : DEx X b wb) : DEx X (.BinOp a .Mod b pos) (wBin dMod wa wb) := de_op op_mod (lift_int fun _ _ _ => rfl) ha hb
theorem xPow (ha : DEx X a wa) (hb : DEx X b wb) : DEx X (.BinOp a .Pow b pos) (wBin dPow wa wb) := de_op op_pow (lift_int fun _ _ _ => rfl) ha hb
theorem xEq (hr : Room k X.A) (ha : DEx X a wa) (hb : DEx X b wb) : DEx X (.Compare a [.Eq] [b] pos) (wBin (dEq id) wa wb) := de_cmp (op_eqR hr.units) lift_eq ha hb (nomark _)
theorem xNe (hr : Room k X.A) (ha : DEx X a wa) (hb : DEx X b wb) : DEx X (.Compare a [.NotEq] [b] pos) (wBin (dEq not) wa wb) := de_cmp (op_neR hr.units) lift_ne ha hb (nomark _)
theorem xLt (ha : DEx X a wa) (hb : DEx X b wb) : DEx X (.Compare a [.Lt] [b] pos) (wBin dLt wa wb) := de_cmp op_ltR lift_lt ha hb (nomark _)
theorem xLe (ha : DEx X a wa) (hb : DEx X b wb) : DEx X (.Compare a [.LtE] [b] pos) (wBin dLe wa wb) := de_cmp op_le (lift_int0 fun _ _ _ => rfl) ha hb (nomark _)
theorem xGt (ha : DEx X a wa) (hb : DEx X b wb) : DEx X (.Compare a [.Gt] [b] pos) (wBin dGt wa wb) := de_cmp op_gt (lift_int0 fun _ _ _ => rfl) ha hb (nomark _)
theorem xGe (ha : DEx X a wa) (hb : DEx X b wb) : DEx X (.Compare a [.GtE] [b] pos) (wBin dGe wa wb) := de_cmp op_ge (lift_int0 fun _ _ _ => rfl) ha hb (nomark _)
theorem xIs (ha : DEx X a wa) (hb : DEx X b wb) : DEx X (.Compare a [.Is] [b] pos) (wBin (dIs id) wa wb) := de_cmp op_isR lift_is ha hb (nomark _)
theorem xIsN (ha : DEx X a wa) (hb : DEx X b wb) : DEx X (.Compare a [.IsNot] [b] pos) (wBin (dIs not) wa wb) := de_cmp op_notR lift_not ha hb (nomark _)
theorem xIn (hr : Room k X.A) (ha : DEx X a wa) (hb : DEx X b wb) (hm : behindInMarks .In b = false := by rfl) : DEx X (.Compare a [.In] [b] pos) (wBin (dIn id) wa wb) := de_cmp (op_inR (room65 hr)) lift_in ha hb hm
theorem xNIn (hr : Room k X.A) (ha : DEx X a wa) (hb : DEx X b wb) (hm : behindInMarks .NotIn b = false := by rfl) : DEx X (.Compare a [.NotIn] [b] pos) (wBin (dIn not) wa wb) := de_cmp (op_notInR (room65 hr)) lift_notIn ha hb hm
theorem xLeLe (ha : DEx X a wa) (hb : DEx X b wb) (hc : DEx X c wc) (hm : lastMarks [.LtE, .LtE] [b, c] = false := by rfl) : DEx X (.Compare a [.LtE, .LtE] [b, c] pos) (wChain dLe dLe wa wb wc) := de_chain op_le op_le (lift_int0 fun _ _ _ => rfl) (lift_int0 fun _ _ _ => rfl) ha hb hc hm
theorem xLeLt (ha : DEx X a wa) (hb : DEx X b wb) (hc : DEx X c wc) (hm : lastMarks [.LtE, .Lt] [b, c] = false := by rfl) : DEx X (.Compare a [.LtE, .Lt] [b, c] pos) (wChain dLe dLt wa wb wc) := de_chain op_le op_ltR (lift_int0 fun _ _ _ => rfl) lift_lt ha hb hc hm
theorem xLtLt (ha : DEx X a wa) (hb : DEx X b wb) (hc : DEx X c wc) (hm : lastMarks [.Lt, .Lt] [b, c] = false := by rfl) : DEx X (.Compare a [.Lt, .Lt] [b, c] pos) (wChain dLt dLt wa wb wc) := de_chain op_ltR op_ltR lift_lt lift_lt ha hb hc hm
theorem xIx (hr : Room k X.A) (ha : DEx X a wa) (hb : DEx X b wb) (hs : PlainIx b := by intro _ _; rfl) : DEx X (.Subscript a b pos) (wBin dIxA wa wb) := de_ix (ix_all hr.units) lift_ixA ha hb hs
theorem xArg {es : List Expr} {wr : WA} (he : DEx X e we) (hr : DAr X es wr) (hs : starEach (e :: es) X.env = (false, eval e X.env) :: starEach es X.env := by rfl) : DAr X (e :: es) (wCons we wr) := da_cons he hr hs
/-- a test of a value -/
theorem tV (h : DEx X a wa) (he : ∀ whole, isTrue a X.env whole = (do let v ← whole; standAt a.pos; holding [v] (truthy v)) := by intro _; rfl) : DTs X a (wTru wa) := dt_tru h he
theorem tW {w : WT} (h : DWs X e w) : DTs X e w := h.pt
theorem tEq (hr : Room k X.A) (ha : DEx X a wa) (hb : DEx X b wb) : DTs X (.Compare a [.Eq] [b] pos) (wB (wBin (dEq id) wa wb)) := dt_cmp (op_eqR hr.units) lift_eq ha hb (nomark _)
theorem tNe (hr : Room k X.A) (ha : DEx X a wa) (hb : DEx X b wb) : DTs X (.Compare a [.NotEq] [b] pos) (wB (wBin (dEq not) wa wb)) := dt_cmp (op_neR hr.units) lift_ne ha hb (nomark _)
theorem tLt (ha : DEx X a wa) (hb : DEx X b wb) : DTs X (.Compare a [.Lt] [b] pos) (wB (wBin dLt wa wb)) := dt_cmp op_ltR lift_lt ha hb (nomark _)
theorem tLe (ha : DEx X a wa) (hb : DEx X b wb) : DTs X (.Compare a [.LtE] [b] pos) (wB (wBin dLe wa wb)) := dt_cmp op_le (lift_int0 fun _ _ _ => rfl) ha hb (nomark _)
theorem tGt (ha : DEx X a wa) (hb : DEx X b wb) : DTs X (.Compare a [.Gt] [b] pos) (wB (wBin dGt wa wb)) := dt_cmp op_gt (lift_int0 fun _ _ _ => rfl) ha hb (nomark _)
theorem tGe (ha : DEx X a wa) (hb : DEx X b wb) : DTs X (.Compare a [.GtE] [b] pos) (wB (wBin dGe wa wb)) := dt_cmp op_ge (lift_int0 fun _ _ _ => rfl) ha hb (nomark _)
theorem tIs (ha : DEx X a wa) (hb : DEx X b wb) : DTs X (.Compare a [.Is] [b] pos) (wB (wBin (dIs id) wa wb)) := dt_cmp op_isR lift_is ha hb (nomark _)
theorem tIsN (ha : DEx X a wa) (hb : DEx X b wb) : DTs X (.Compare a [.IsNot] [b] pos) (wB (wBin (dIs not) wa wb)) := dt_cmp op_notR lift_not ha hb (nomark _)
theorem tIn (hr : Room k X.A) (ha : DEx X a wa) (hb : DEx X b wb) (hm : behindInMarks .In b = false := by rfl) : DTs X (.Compare a [.In] [b] pos) (wB (wBin (dIn id) wa wb)) := dt_cmp (op_inR (room65 hr)) lift_in ha hb hm
theorem tNIn (hr : Room k X.A) (ha : DEx X a wa) (hb : DEx X b wb) (hm : behindInMarks .NotIn b = false := by rfl) : DTs X (.Compare a [.NotIn] [b] pos) (wB (wBin (dIn not) wa wb)) := dt_cmp (op_notInR (room65 hr)) lift_notIn ha hb hm
theorem tLeLe (ha : DEx X a wa) (hb : DEx X b wb) (hc : DEx X c wc) (hm : lastMarks [.LtE, .LtE] [b, c] = false := by rfl) : DTs X (.Compare a [.LtE, .LtE] [b, c] pos) (wB (wChain dLe dLe wa wb wc)) := dt_chain op_le op_le (lift_int0 fun _ _ _ => rfl) (lift_int0 fun _ _ _ => rfl) ha hb hc hm
theorem tLeLt (ha : DEx X a wa) (hb : DEx X b wb) (hc : DEx X c wc) (hm : lastMarks [.LtE, .Lt] [b, c] = false := by rfl) : DTs X (.Compare a [.LtE, .Lt] [b, c] pos) (wB (wChain dLe dLt wa wb wc)) := dt_chain op_le op_ltR (lift_int0 fun _ _ _ => rfl) lift_lt ha hb hc hm
theorem tLtLt (ha : DEx X a wa) (hb : DEx X b wb) (hc : DEx X c wc) (hm : lastMarks [.Lt, .Lt] [b, c] = false := by rfl) : DTs X (.Compare a [.Lt, .Lt] [b, c] pos) (wB (wChain dLt dLt wa wb wc)) := dt_chain op_ltR op_ltR lift_lt lift_lt ha hb hc hm
/-! built-in functions -/
variable {es : List Expr} {w : WA}
theorem xBi {x : Str} {id : String} {r : List V → Hp → VK → Prop} {g : WL} (hc : CallR X (.builtin id) r) (l : LiftL X r g) (hv : bootBuiltins x = some (.builtin id)) (hm : X.mg x = none) (ha : DAr X (e :: es) w) (hg : Gl X x := by rfl) (hn : x ≠ "__name__" := by decide) (hdb : (x == ("__debug__" : Str)) = false := by decide)
    (he : starEach (e :: es) X.env = (false, eval e X.env) :: starEach es X.env := by rfl) (hpl : (backTo pos (starEach es X.env)).any (·.1) = false := by rfl) : DEx X (.Call (.Name x p) (e :: es) [] pos) (wCall g w) := pe_imp (pe_callB hc hg hm hv ha hn hdb he hpl) (lift_cb l)
theorem xTy {x : Str} {T : String} {r : List V → Hp → VK → Prop} {g : WL} (hc : CallR X (.type T) r) (l : LiftL X r g) (hv : bootBuiltins x = some (.type T)) (hm : X.mg x = none) (ha : DAr X (e :: es) w) (hg : Gl X x := by rfl) (hn : x ≠ "__name__" := by decide) (hdb : (x == ("__debug__" : Str)) = false := by decide)
    (he : starEach (e :: es) X.env = (false, eval e X.env) :: starEach es X.env := by rfl) (hpl : (backTo pos (starEach es X.env)).any (·.1) = false := by rfl) : DEx X (.Call (.Name x p) (e :: es) [] pos) (wCall g w) := pe_imp (pe_callTy hc hg hm hv ha hn hdb he hpl) (lift_cb l)
theorem xF {x : Str} {sp : DSp} (c : CalD X.prog X.w X.K X.mg X.base k x sp) (hr : Room k X.A) (ha : DAr X (e :: es) w) (hg : Gl X x := by rfl)
    (hdb : (x == ("__debug__" : Str)) = false := by decide) (he : starEach (e :: es) X.env = (false, eval e X.env) :: starEach es X.env := by rfl) (hpl : (backTo pos (starEach es X.env)).any (·.1) = false := by rfl) : DEx X (.Call (.Name x p) (e :: es) [] pos) (wCall sp w) := de_call c hr (Nat.le_refl _) hg ha hdb he hpl
theorem xIsi (T : Ty) {x : Str} (hm : X.mg "isinstance" = none) (hmT : X.mg x = none) (h : DEx X e we) (hx : x = Str.ofString T.nm := by rfl) (hg : Gl X "isinstance" := by rfl) (hgT : Gl X x := by rfl)
    (hn : x ≠ "__name__" := by decide) (hdb : (x == ("__debug__" : Str)) = false := by decide) (h1 : starEach [e, .Name x p2] X.env = (false, eval e X.env) :: starEach [.Name x p2] X.env := by rfl) : DEx X (.Call (.Name "isinstance" p) [e, .Name x p2] [] pos) (wIsi T we) := de_isi T hx hg hm hgT hmT h hn hdb h1
theorem xGet1 (hr : Room k X.A) (ho : DEx X a wa) (he : DEx X e we) (h1 : attributeBase a "get" X.env (eval a X.env) = eval a X.env := by rfl)
    (h2 : ((backTo cpos (starEach [e] X.env)).all (fun x => !x.1) && (backToKw cpos (keywordEach [] X.env)).all (fun x => x.1.isSome)
      && decide (([e] : List Expr).length + ([] : List Keyword).length + (if ([] : List Keyword).isEmpty then 0 else 1) < 30)) = true := by rfl)
    (h3 : (apos.endLine == cpos.line) = true := by rfl) (h4 : backTo cpos (starEach [e] X.env) = [(false, eval e X.env)] := by rfl) : DEx X (.Call (.Attribute a "get" apos) [e] [] cpos) (wGet1 wa we) := de_get1 hr.units ho he ⟨h1, h2, h3, h4⟩
/-! sources -/
theorem iR1 {tg : Expr} (hm : X.mg "range" = none) (ha : DEx X a wa) (hg : Gl X "range" := by rfl) (hs : starEach [a] X.env = [(false, eval a X.env)] := by rfl) : DI X tg (.Call (.Name "range" p) [a] [] pos) (wRange1 wa) := di_range1 hg hm ha hs
theorem iR2 {tg : Expr} (hm : X.mg "range" = none) (ha : DEx X a wa) (hb : DEx X b wb) (hg : Gl X "range" := by rfl) (hs : starEach [a, b] X.env = [(false, eval a X.env), (false, eval b X.env)] := by rfl) (hs2 : starEach [b] X.env = [(false, eval b X.env)] := by rfl) : DI X tg (.Call (.Name "range" p) [a, b] [] pos) (wRange2 wa wb) := di_range2 hg hm ha hb hs hs2
/-! statements -/
theorem sSet (i : Nat) {x : Str} (hN : X.N.Nodup) (he : DEx X e we) (hi : X.N[i]? = some x := by rfl) (hx : Loc X.env.scope x := by first | exact .inl rfl | exact .inr rfl) (hs : swapsWith e (some (.Name x pos')) pos.line X.env = pure false := by rfl) (hf : X.fn x = true ∨ X.env.scope.names.lookup x = some .local := by first | exact .inl rfl | exact .inr rfl) : DSt X (.Assign [.Name x pos'] e pos) (wSet i we) := ds_set hN hi hx he hs hf
theorem sAsg {tg : Expr} {t : Tg} (he : DEx X e we) (hg : PG X tg (gT X.K t)) (hs : swapsWithSole [tg] e pos.line X.env = pure false := by rfl) (hw : swappedStores [tg] e X.env = pure none := by rfl) (h1 : (assignEach [tg] X.env).map (·.2) = [assign tg X.env] := by rfl) : DSt X (.Assign [tg] e pos) (wAsg t we) := ds_asg he hg hs hw h1
theorem sPut {o i : Expr} {wo wi : WE} {tpos : Pos} (hr : Room k X.A) (he : DEx X e we) (ho : DEx X o wo) (hi : DEx X i wi)
    (ha : ∀ v, assign (.Subscript o i tpos) X.env v = (do
      let ov ← holding [v] (eval o X.env)
      let iv ← holding [v, ov] (eval i X.env)
      standAt tpos
      holding [v, ov, iv] (setItem ov iv v)
      release [v, ov, iv] []) := by intro _; rfl)
    (hs : swapsWithSole [.Subscript o i tpos] e pos.line X.env = pure false := by rfl) (hw : swappedStores [.Subscript o i tpos] e X.env = pure none := by rfl) (h1 : (assignEach [.Subscript o i tpos] X.env).map (·.2) = [assign (.Subscript o i tpos) X.env] := by rfl) : DSt X (.Assign [.Subscript o i tpos] e pos) (wPut we wo wi) := ds_put hr.units he ho hi ha hs hw h1
theorem sAugAdd (i : Nat) {x : Str} (hN : X.N.Nodup) (he : DEx X e we) (hi : X.N[i]? = some x := by rfl) (hx : Loc X.env.scope x := by first | exact .inl rfl | exact .inr rfl) (hf : X.fn x = true ∨ X.env.scope.names.lookup x = some .local := by first | exact .inl rfl | exact .inr rfl) : DSt X (.AugAssign (.Name x pos') .Add e pos) (wAug i dIAdd we) := ds_aug hN hi hx he iop_addR lift_iadd hf
theorem sFor {tg iter : Expr} {body : List Stmt} {wi : WI} {t : Tg} {wb : WS} (hi : DI X tg iter wi) (hg : PG X tg (gT X.K t)) (hb : DSs X body wb) (hp : PassesOwn (model X.prog X.w) X.A X.env X.xe := by exact PySem.PassesOwn.never) (hc : X.calm = true := by rfl) (hs : ∀ x, foldedSetIterable iter X.env x = pure x := by intro _; rfl) : DSt X (.For tg iter body [] pos) (wFor wi t wb) := ds_for hp hc hi hg hb hs
theorem sWhile {body : List Stmt} {wb : WS} (hc : DTs X c ta) (hb : DSs X body wb) (hp : PassesOwn (model X.prog X.w) X.A X.env X.xe := by exact PySem.PassesOwn.never) : DSt X (.While c body [] pos) (wWhile ta wb) := ds_while hp hc hb
theorem sExpr (h : DEx X e we) (hs : swapsWith e none pos.line X.env = pure false := by rfl) : DSt X (.Expr e pos) (wDrop we) := ds_expr h hs
theorem gN (i : Nat) {x : Str} (hN : X.N.Nodup) (hi : X.N[i]? = some x := by rfl) (hx : Loc X.env.scope x := by first | exact .inl rfl | exact .inr rfl) (hf : X.fn x = true ∨ X.env.scope.names.lookup x = some .local := by first | exact .inl rfl | exact .inr rfl) : PG X (.Name x pos) (gT X.K (.nm i)) := pgn hN hi hx hf
theorem gG {ts : List Expr} {j : Nat} {is : List Nat} (h : PGs X ts (lvT is)) (hc : X.calm = true := by rfl) (hn : (assignEach ts X.env).length = is.length := by rfl) (hst : (assignEach ts X.env).findIdx? (·.1) = none := by rfl) : PG X (.Tuple ts j pos) (gT X.K (.tp is)) := pgt hc h hn hst
/-! comprehensions -/
def blkC (N : List Str) (sc scope : Scope) (own : List (Str × Nat)) : Bool :=
  decide (scope.kind = .function) && scope.names.all (fun y => decide (scope.names.lookup y.1 = some y.2)) && own.all (fun p => decide (N[p.2]? = some p.1)) && scope.names.all (fun y => !decide (y.2 = .free) || decide (sc.names.lookup y.1 = some .cell) || decide (sc.names.lookup y.1 = some .free)) && scope.names.all (fun y => !(decide (y.2 = .local) || decide (y.2 = .cell)) || decide (y.1 ∈ own.map (·.1)) || decide (y.1 ∉ N))
theorem blk {N : List Str} {sc scope : Scope} {own : List (Str × Nat)} (h : blkC N sc scope own = true) : BlkOk N sc scope own := by
  unfold blkC at h
  simp only [Bool.and_eq_true, decide_eq_true_eq, List.all_eq_true, Bool.or_eq_true, Bool.not_eq_true', decide_eq_false_iff_not, Bool.or_eq_false_iff] at h
  obtain ⟨⟨⟨⟨h1, h2⟩, h3⟩, h4⟩, h5⟩ := h
  refine ⟨h1, h2, h3, fun y hy e => ?_, fun y hy e => ?_⟩
  · rcases h4 y hy with (z | z) | z
    · exact absurd e z
    · exact .inl z
    · exact .inr z
  · rcases h5 y hy with (z | z) | z
    · rcases e with e | e
      · exact absurd e z.1
      · exact absurd e z.2
    · exact .inl z
    · exact .inr z
theorem lE_to {X Y : Cx} {w : WE} (h1 : Y.prog = X.prog) (h2 : Y.w = X.w) (h3 : Y.K = X.K) : ∀ σ H Q, lE X w σ H Q → lE Y w σ H Q := fun σ H Q ⟨ρ, M, Q', R, q, k⟩ => ⟨ρ, M, Q', ⟨R.len, by rw [h1, h2, h3]; exact R.slot, by rw [h1, h2, h3]; exact R.mem⟩, q, by rw [h1, h2, h3]; exact k⟩
theorem lT_to {X Y : Cx} {w : WT} (h1 : Y.prog = X.prog) (h2 : Y.w = X.w) (h3 : Y.K = X.K) : ∀ σ H Q, lT X w σ H Q → lT Y w σ H Q := fun σ H Q ⟨ρ, M, Q', R, q, k⟩ => ⟨ρ, M, Q', ⟨R.len, by rw [h1, h2, h3]; exact R.slot, by rw [h1, h2, h3]; exact R.mem⟩, q, by rw [h1, h2, h3]; exact k⟩
theorem pts_imp {Y : Cx} {es : List Expr} {t t' : TT} (h : PTs Y es t) (i : ∀ σ H Q, t' σ H Q → t σ H Q) : PTs Y es t' := ⟨fun pins s σ H Q I q => h.run pins s σ H Q I (i _ _ _ q)⟩
theorem xLc {elt tg iter : Expr} {ifs : List Expr} {scope : Scope} {own : List (Str × Nat)} {wi : WI} {t : Tg} {wt : WT} (hN : X.N.Nodup) (ok : BlkOk X.N X.env.scope scope own)
    (hi : DI X tg iter wi) (hg : InB X scope fun Y => PG Y tg (gT Y.K t)) (ht : InB X scope fun Y => PTs Y ifs (lT Y wt)) (he : InB X scope fun Y => PE Y elt (lE Y we)) (hv : ∀ i ∈ t.ids, i ∈ own.map (·.2) := by decide) (hc : X.calm = true := by rfl) (hs : ∀ x, foldedSetIterable iter X.env x = pure x := by intro _; rfl) :
    DEx X (.ListComp elt [⟨tg, iter, ifs, 0⟩] scope pos) (wLc wi t (own.map (·.2)) wt we) := de_lc hc hN ok hv hi hg (fun s H C cl fp => pts_imp (ht s H C cl fp) (lT_to rfl rfl rfl)) (fun s H C cl fp => pe_imp (he s H C cl fp) (lE_to rfl rfl rfl)) hs
theorem sSetLc (i : Nat) {y : Str} {elt tg iter : Expr} {ifs : List Expr} {scope : Scope} {own : List (Str × Nat)} {wi : WI} {t : Tg} {wt : WT} (hN : X.N.Nodup) (ok : BlkOk X.N X.env.scope scope own)
    (hi : DI X tg iter wi) (hg : InB X scope fun Y => PG Y tg (gT Y.K t)) (ht : InB X scope fun Y => PTs Y ifs (lT Y wt)) (he : InB X scope fun Y => PE Y elt (lE Y we)) (hy : X.N[i]? = some y := by rfl) (hyl : X.env.scope.names.lookup y = some .local := by rfl)
    (hsw : swapsWith (.ListComp elt [⟨tg, iter, ifs, 0⟩] scope pos) (some (.Name y p)) cpos.line X.env = pure true := by rfl) (hv : ∀ i ∈ t.ids, i ∈ own.map (·.2) := by decide) (hc : X.calm = true := by rfl) (hs : ∀ x, foldedSetIterable iter X.env x = pure x := by intro _; rfl) :
    DSt X (.Assign [.Name y p] (.ListComp elt [⟨tg, iter, ifs, 0⟩] scope pos) cpos) (wSet i (wLc wi t (own.map (·.2)) wt we)) := ds_setLc hc hN hy hyl hsw ok hv hi hg (fun s H C cl fp => pts_imp (ht s H C cl fp) (lT_to rfl rfl rfl)) (fun s H C cl fp => pe_imp (he s H C cl fp) (lE_to rfl rfl rfl)) hs
end
end Fw

set_option Elab.async false
set_option linter.all false
set_option maxRecDepth 100000
set_option maxHeartbeats 4000000
/-! FwRev: list(reversed(a list)) -/
namespace Fw
open PySem PySem.Spec PyProof.Rows L2 RT PySem.W
section
variable {prog : Program} {w : World} {A : Around} {E : Value → Shared → Prop} {s : Shared}
/-- the new list takes in what the iterator gives -/
theorem take_rev {it l S : Addr} {c0 : Nat} {items : Array Value} {R : Result → Shared → Prop} (hh : A.handled = none) (hit : s.heap.IsRevIter it l ((items.size : Int) - 1)) (hl : s.heap.IsList l items) (hne : l ≠ it) (hn : items.size ≤ sizeLine) (hSi : S ≠ it) (hSl : S ≠ l)
    (hS : s.heap.get? S = some { cls := .type "list", data := .seq #[] c0 })
    (hR : ∀ h' tk acc c, (∀ b o, b ≠ S → b ≠ it → s.heap.get? b = some o → h'.get? b = some o) → h'.get? S = some { cls := .type "list", dict := none, data := .seq acc c, slots := #[] } → ItemsOf (fun i v => items[items.size - 1 - i]? = some v) acc items.size → R (.ok (.ret .none)) { s with heap := h', toks := tk }) :
    wpAny (model prog w) A.in1 (Builtin.List.listExtendWith (.ref S) (.ref it) .none)
      (fun fin s' => match fin with | .done f => R (.ok f) s' | .again c' => c'.quiet = true ∧ codeAny (model prog w) A c' R s') (fun e s' => R (.error e) s') s := by
  have Wk := (Walks.listRev (prog := prog) (w := w) (A := A.in1) hh it l hne items).toS
  have hmem : S ∉ [it, l] := by
    intro z
    rcases List.mem_cons.mp z with z | z
    · exact hSi z
    · exact hSl (List.mem_singleton.mp z)
  have tyI : s.TypeIs (.ref it) "list_reverseiterator" := hit.typeIs
  have ns : Builtin.List.listSameRef (.ref S) (.ref it) = false := by
    unfold Builtin.List.listSameRef
    simp [hSi]
  unfold Builtin.List.listExtendWith
  refine wpAny_bind (wpAny_typeOf tyI ?_)
  rw [if_neg (by rw [ns]; decide)]
  refine wpAny_bind (wpAny_pyIter_revIter hit ?_)
  refine wpAny_bind (wpAny_holding ?_)
  unfold Builtin.List.listLengthHint
  refine wpAny_bind (wpAny_specialOf tyI nolen_lri ?_)
  show wpAny _ A.in1 (specialOf (.ref it) (Str.ofString "__length_hint__") >>= fun _ => _) _ _ s
  refine wpAny_bind (wpAny_specialOf tyI hint_lri ?_)
  generalize hd : ("list_reverseiterator.__length_hint__" : String) = nm
  wp_delta
  rw [show splitId nm = some ("list_reverseiterator", "__length_hint__") by rw [← hd]; decide +kernel]
  cases hd
  refine wpAny_bind (wpAny_isInstance (b := true) tyI (by rw [isSubtype_type]; kernel_rfl) ?_)
  refine wpAny_pure ?_
  rw [if_neg (by decide)]
  have st0 : (items.size : Int) - 1 - ((0 : Nat) : Int) = (items.size : Int) - 1 := by omega
  refine wpAny_pure ⟨plainId_quiet F.plain_extend_loop _, codeAny_extend_loopS Wk hn S hmem .none items.size 0 _ #[] c0 rfl (Nat.zero_le _) ⟨Nat.zero_le _, by rw [st0]; exact hit, hl⟩ hS (ItemsOf.nil _) fun t acc c mv hS2 hacc => ?_⟩
  rw [Moved.eq_with mv]
  refine hR t.heap t.toks acc c (fun b o h1 h2 e => mv.heap b o (fun z => ?_) e) hS2 hacc
  rcases List.mem_cons.mp z with z | z
  · exact h1 z
  · exact h2 (List.mem_singleton.mp z)
theorem call_list_rev {it l : Addr} {items : Array Value} {Q : Value → Shared → Prop} (hh : A.handled = none) (hit : s.heap.IsRevIter it l ((items.size : Int) - 1)) (hl : s.heap.IsList l items) (hne : l ≠ it) (hn : items.size ≤ sizeLine)
    (hQ : ∀ h' tk acc c, (∀ b o, b ≠ it → s.heap.get? b = some o → h'.get? b = some o) → h'.get? s.heap.objs.size = some { cls := .type "list", dict := none, data := .seq acc c, slots := #[] } → ItemsOf (fun i v => items[items.size - 1 - i]? = some v) acc items.size → Q (.ref s.heap.objs.size) { s with heap := h', toks := tk }) :
    wpAny (model prog w) A (call (.type "list") [.ref it]) Q E s := by
  refine callType_codes (Q₁ := fun obj t => obj = .ref s.heap.objs.size ∧ t = { s with heap := s.heap.push { cls := .type "list", data := .seq #[] } }) PySem.F.called_list (PySem.F.typeCall_list_1 _) PySem.F.entry_list_init (code_list_new _ ⟨rfl, rfl⟩) fun obj t ht => ?_
  obtain ⟨rfl, rfl⟩ := ht
  have g0 : (s.heap.push { cls := .type "list", data := .seq #[] }).get? s.heap.objs.size = some { cls := .type "list", data := .seq #[] } := Heap.get?_push_size _ rfl
  obtain ⟨oi, hoi, _⟩ := id hit
  obtain ⟨ol, hol, _⟩ := id hl
  have n1 : s.heap.objs.size ≠ it := Nat.ne_of_gt (Heap.lt_size hoi)
  have n2 : s.heap.objs.size ≠ l := Nat.ne_of_gt (Heap.lt_size hol)
  have hit1 : (s.heap.push { cls := .type "list", data := .seq #[] }).IsRevIter it l ((items.size : Int) - 1) := hit.at fun o e => Heap.get?_push_of_some _ e
  have hl1 : (s.heap.push { cls := .type "list", data := .seq #[] }).IsList l items := hl.push _
  refine ⟨⟨_, g0, rfl⟩, PySem.F.args_list_init_2 _ _, ?_⟩
  show wpAny _ _ (do let old ← Builtin.List.listItems (.ref s.heap.objs.size); Builtin.List.listUpdate (.ref s.heap.objs.size) (fun _ => #[]); letGo old.toList.reverse; Builtin.List.listExtendWith (.ref s.heap.objs.size) (.ref it) .none) _ _ _
  refine wpAny_bind ?_
  unfold Builtin.List.listItems
  refine wpAny_bind (wpAny_seqItems g0 rfl (wpAny_pure ?_))
  show wpAny _ _ (updateSeq s.heap.objs.size (fun _ => #[]) >>= fun _ => letGo (#[] : Array Value).toList.reverse >>= fun _ => Builtin.List.listExtendWith (.ref s.heap.objs.size) (.ref it) .none) _ _ _
  refine wpAny_bind (wpAny_updateSeq g0 rfl ?_)
  have g1 := Heap.get?_update_self (Obj.mapSeq (fun _ => (#[] : Array Value))) g0 rfl
  have oth : ∀ b o, b ≠ s.heap.objs.size → (s.heap.push { cls := .type "list", data := .seq #[] }).get? b = some o → ((s.heap.push { cls := .type "list", data := .seq #[] }).update s.heap.objs.size (Obj.mapSeq (fun _ => (#[] : Array Value)))).get? b = some o :=
    fun b o hb e => (Heap.get?_update_other _ _ (Ne.symm hb)).trans e
  refine wpAny_bind (wpAny_letGo ?_)
  refine take_rev (A := A.in1) (S := s.heap.objs.size) hh (hit1.at fun o e => oth _ o (Ne.symm n1) e) ?_ hne hn n1 n2 g1 fun h' tk acc c kp hS hacc => ?_
  · obtain ⟨o2, e2, r2⟩ := hl1
    exact ⟨o2, oth _ _ (Ne.symm n2) e2, r2⟩
  · exact ⟨rfl, hQ h' tk acc c (fun b o hb e => kp b o (Nat.ne_of_lt (Heap.lt_size e)) hb (oth _ _ (Nat.ne_of_lt (Heap.lt_size e)) (Heap.get?_push_of_some _ e))) hS hacc⟩
end
end Fw

set_option Elab.async false
set_option linter.all false
set_option maxRecDepth 100000
set_option maxHeartbeats 4000000
/-! FwMore: more words over data: list(reversed(..)), pop, extend, max, min, get with a default, two stores at once -/
namespace Fw
open PySem PySem.Spec PyProof.Rows L2 RT
section
variable {X : Cx}
/-! ### list(reversed(e)) -/
def tListRev (K : PySem.W.Frag) (te : TE) : TE := fun σ H Q => te σ H fun v H1 => ∃ (a : Addr) (xs : List V), v = .ref a ∧ SqL K H1 a xs ∧ ∀ q, H1 q = none → Q (.ref q) (upd H1 q (.lst xs.reverse))
theorem pe_listRev {e : Expr} {te : TE} {p p2 pos pos2 : Pos} (hc : X.calm = true) (hg : Gl X "list") (hm : X.mg "list" = none) (hg2 : Gl X "reversed") (hm2 : X.mg "reversed" = none) (he : PE X e te)
    (hs : starEach [e] X.env = (false, eval e X.env) :: starEach [] X.env := by rfl)
    (hs2 : starEach [.Call (.Name "reversed" p2) [e] [] pos2] X.env = (false, eval (.Call (.Name "reversed" p2) [e] [] pos2) X.env) :: starEach [] X.env := by rfl) :
    PE X (.Call (.Name "list" p) [.Call (.Name "reversed" p2) [e] [] pos2] [] pos) (tListRev X.K te) := by
  refine ⟨fun pins s σ H Q I h => ?_⟩
  refine Call_ (ld_blt I hg hm bt_list (PyProof.Rows.callWith_type1 (args_cons (Call_ (ld_blt I hg2 hm2 PyProof.Rows.boot_reversed (PyProof.Rows.callWith_type1 (args_cons (thn (he.run pins s σ H _ I h) fun u s1 ⟨v, H1, I1, r1, a, xs, ev, hq, q⟩ => args_nil ?_) hs) hs rfl))) hs2) hs2 rfl))
  subst ev
  obtain rfl : u = Value.ref a := r1
  obtain ⟨its, rv, pl, hz⟩ := I1.list hq
  refine call_reversed_list pl.isList (args_nil ?_)
  have kp0 : ∀ b o, s1.heap.get? b = some o → (s1.heap.push (revObj a ((its.toArray.size : Int) - 1))).get? b = some o := fun b o e => Heap.get?_push_of_some _ e
  have I2 : Inv X pins σ H1 { s1 with heap := s1.heap.push (revObj a ((its.toArray.size : Int) - 1)) } := I1.kept (t' := s1.toks) kp0
  have fp : FpOk X pins H1 s1.heap.objs.size := I1.fpOk (H' := H1) (b := s1.heap.objs.size) (Nat.le_refl _) (I1.hok.fresh (Nat.le_refl _))
  obtain ⟨ol, hol, _⟩ := id pl.isList
  have ne : a ≠ s1.heap.objs.size := Nat.ne_of_lt (Heap.lt_size hol)
  have hn : its.toArray.size ≤ sizeLine := by
    rw [List.size_toArray, ← rv.length]; exact hz
  have szp : (s1.heap.push (revObj a ((its.toArray.size : Int) - 1))).objs.size = s1.heap.objs.size + 1 := Heap.size_push ..
  refine call_list_rev (s := { s1 with heap := s1.heap.push (revObj a ((its.toArray.size : Int) - 1)) }) (I1.ok.hd hc) ⟨_, Heap.get?_push_size _ rfl, rfl, rfl⟩ (pl.isList.push _) ne hn fun h' tk acc c hk hS hi => ?_
  exact ⟨.ref _, _, I2.turnedNew (t' := tk) (ch := [s1.heap.objs.size]) (ob := .lst xs.reverse) (fun b o hb e => hk b o (by simpa using hb) e) (fun b hb => by
    have e : b = s1.heap.objs.size := by simpa using hb
    rw [e]; exact fp) (Nat.le_refl _) ⟨by rw [List.length_reverse]; exact hz, acc.toList, c, vals_rev rv hi, by rw [Array.toArray_toList]; exact hS⟩, rfl, q _ (I2.hok.fresh (Nat.le_refl _))⟩
def wListRev (w : WE) : WE := fun ρ M Q => w ρ M fun d M1 => ∃ xs, readL d M1 = some xs ∧ ∀ p, M1 p = none → Q (.ref p) (mset M1 p (.lst xs.reverse))
def wListRevF (w : WE) : WE := fun ρ M Q => w ρ M fun d M1 => ∃ xs, readL d M1 = some xs ∧ Q (.fl xs.reverse) M1
theorem xListRev {e : Expr} {w : WE} {p p2 pos pos2 : Pos} (hm : X.mg "list" = none) (hm2 : X.mg "reversed" = none) (he : DEx X e w) (hc : X.calm = true := by rfl) (hg : Gl X "list" := by rfl) (hg2 : Gl X "reversed" := by rfl)
    (hs : starEach [e] X.env = (false, eval e X.env) :: starEach [] X.env := by rfl)
    (hs2 : starEach [.Call (.Name "reversed" p2) [e] [] pos2] X.env = (false, eval (.Call (.Name "reversed" p2) [e] [] pos2) X.env) :: starEach [] X.env := by rfl) : DEx X (.Call (.Name "list" p) [.Call (.Name "reversed" p2) [e] [] pos2] [] pos) (wListRev w) :=
  pe_imp (pe_listRev hc hg hm hg2 hm2 he hs hs2) fun σ H Q ⟨ρ, M, Q', R, q, k⟩ => ⟨ρ, M, _, R, q, fun x H1 d M1 r1 m1 k1 ⟨xs, e1, q1⟩ => by
    obtain ⟨a, vs, rfl, hr, rs⟩ := readL_rd m1 r1 e1
    refine ⟨a, vs, rfl, .inl hr, fun p np => ?_⟩
    obtain ⟨m', k', n⟩ := m1.alloc (o := .lst vs.reverse) (mo := .lst xs.reverse) np fun t => ⟨_, upd_same, (Reps.keep t _ _ rs).reverse⟩
    exact k _ _ (.ref p) _ rfl m' (k1.trans k') (q1 p n)⟩
theorem xListRevF {e : Expr} {w : WE} {p p2 pos pos2 : Pos} (hm : X.mg "list" = none) (hm2 : X.mg "reversed" = none) (he : DEx X e w) (hc : X.calm = true := by rfl) (hg : Gl X "list" := by rfl) (hg2 : Gl X "reversed" := by rfl)
    (hs : starEach [e] X.env = (false, eval e X.env) :: starEach [] X.env := by rfl)
    (hs2 : starEach [.Call (.Name "reversed" p2) [e] [] pos2] X.env = (false, eval (.Call (.Name "reversed" p2) [e] [] pos2) X.env) :: starEach [] X.env := by rfl) : DEx X (.Call (.Name "list" p) [.Call (.Name "reversed" p2) [e] [] pos2] [] pos) (wListRevF w) :=
  pe_imp (pe_frz (pe_listRev hc hg hm hg2 hm2 he hs hs2)) fun σ H Q ⟨ρ, M, Q', R, q, k⟩ => ⟨ρ, M, _, R, q, fun x H1 d M1 r1 m1 k1 ⟨xs, e1, q1⟩ => by
    obtain ⟨a, vs, rfl, hr, rs⟩ := readL_rd m1 r1 e1
    exact ⟨a, vs, rfl, .inl hr, fun p np => .inr (m1.newZ np rs.reverse q1 fun v H' d' M' r' m' k' q' => k v H' d' M' r' m' (k1.trans k') q')⟩⟩

/-! ### xs.pop(), xs.extend(ys) -/
def wPop (wo : WE) : WE := fun ρ M Q => wo ρ M fun o M1 => ∃ a ds d, o = .ref a ∧ M1 a = some (.lst (ds ++ [d])) ∧ Q d (mset M1 a (.lst ds))
theorem de_pop {o : Expr} {apos cpos : Pos} {wo : WE} (ho : DEx X o wo) (hbase : attributeBase o "pop" X.env (eval o X.env) = eval o X.env := by rfl) (hline : (apos.endLine == cpos.line) = true := by rfl) :
    DEx X (.Call (.Attribute o "pop" apos) [] [] cpos) (wPop wo) := pe_imp (pe_bm0 PySem.F.plainAttrs_list PySem.F.slot_list_pop PySem.F.type_list_pop mt_pop ho hbase hline) fun σ H Q ⟨ρ, M, Q', R, q, k⟩ => ⟨ρ, M, _, R, q, fun x H1 d M1 r1 m1 k1 ⟨a, ds, e, e0, c0, q1⟩ => by
    subst e0
    cases (show x = .ref a from r1)
    obtain ⟨vs, hh, rs⟩ := m1 a _ c0
    have l := rs.length
    rw [List.length_append, List.length_singleton] at l
    obtain ⟨v, hv, rv⟩ := rs.get (i := ds.length) (d := e) (by simp)
    have rd : Reps X.prog X.w X.K H1 ds vs.dropLast := by
      have := rs.dropLast
      rwa [List.dropLast_concat] at this
    refine ⟨.inl ⟨rfl, vs, .of hh⟩, a, vs, v, rfl, rfl, hh, by rw [← l]; simpa using hv, ?_⟩
    obtain ⟨m2, k2⟩ := m1.write (o := .lst vs.dropLast) (mo' := .lst ds) c0 fun t => ⟨_, upd_same, Reps.keep t _ _ rd⟩
    exact k v _ e _ (Rep.keep (k2.tup m1) _ _ rv) m2 (k1.trans k2) q1⟩
def wExt (wo we : WE) : WE := fun ρ M Q => wo ρ M fun o M1 => ∃ a ds0, o = .ref a ∧ M1 a = some (.lst ds0) ∧ we ρ M1 fun e M2 => ∃ ds es, M2 a = some (.lst ds) ∧ readL e M2 = some es ∧ e ≠ .ref a ∧ ds.length + es.length ≤ sizeLine ∧ Q .non (mset M2 a (.lst (ds ++ es)))
theorem mt_ext : MtM X "list.extend" fun x vs H Q => ∃ l b xs zs, x = .ref l ∧ vs = [.ref b] ∧ H l = some (.lst xs) ∧ Rd H b (.lst zs) ∧ xs.length + zs.length ≤ sizeLine ∧ Q .non (upd H l (.lst (xs ++ zs))) := by
  intro pins s σ H x vs v us Q I rx rv ⟨l, b, xs, zs, ex, ev, hl, hb, hz, q⟩
  subst ex ev
  cases rx
  obtain ⟨u, rfl, ru⟩ := rv.one
  cases ru
  obtain ⟨_, i1, n1, r1, l1, e1⟩ := I.lstM hl
  obtain ⟨_, i2, n2, r2, e2⟩ := hb.ok I.hok
  have l2 := r2.length
  have hs : i1.toArray.size + i2.toArray.size ≤ sizeLine := by
    simp only [List.size_toArray]; omega
  have nl : ¬ (!i1.toArray.isEmpty && Builtin.List.listTooLong (i1.toArray.size + i2.toArray.size)) = true := by
    rw [notLongL hs, Bool.and_false]; decide
  have h2 : i2.toArray.size ≤ sizeLine := by omega
  refine call_meets F.slot_list_extend ⟨_, e1, rfl⟩ F.entry_list_extend (F.args_list_extend_2 _ _) (AutoSeq1.list_extend_list_list_0 l i1.toArray n1 b i2.toArray n2 nl (by omega) (by omega)) ⟨e1, e2, ?_⟩
  exact ⟨.non, _, I.lset (its' := i1 ++ i2) hl e1 (by simp) (r1.append r2) (by rw [List.length_append]; omega), rfl, q⟩
theorem de_extend {o e : Expr} {apos cpos : Pos} {wo we : WE} (ho : DEx X o wo) (he : DEx X e we) (hbase : attributeBase o "extend" X.env (eval o X.env) = eval o X.env := by rfl)
    (hfew : ((backTo cpos (starEach [e] X.env)).all (fun x => !x.1) && (backToKw cpos (keywordEach [] X.env)).all (fun x => x.1.isSome) && decide (([e] : List Expr).length + ([] : List Keyword).length + (if ([] : List Keyword).isEmpty then 0 else 1) < 30)) = true := by rfl)
    (hline : (apos.endLine == cpos.line) = true := by rfl) (hs : starEach [e] X.env = (false, eval e X.env) :: starEach [] X.env := by rfl) : DEx X (.Call (.Attribute o "extend" apos) [e] [] cpos) (wExt wo we) :=
  pe_imp (pe_bm F.plainAttrs_list F.slot_list_extend F.type_list_extend mt_ext ho (pa_cons he pa_nil hs) hbase hfew hline hs rfl) fun σ H Q ⟨ρ, M, Q', R, q, k⟩ => ⟨ρ, M, _, R, q, fun x H1 d M1 r1 m1 k1 ⟨a, ds0, e0, c0, q1⟩ => by
    subst e0
    cases (show x = .ref a from r1)
    obtain ⟨vs0, h0, _⟩ := m1 a _ c0
    refine ⟨.inl ⟨rfl, vs0, .of h0⟩, ρ, M1, _, R.next m1 k1, q1, fun y H2 dy M2 r2 m2 k2 ⟨ds, es, c, er, _, hz, q2⟩ => ?_⟩
    obtain ⟨vs, hh, rs⟩ := m2 a _ c
    obtain ⟨b, ws, rfl, hb, rb⟩ := readL_rd m2 r2 er
    obtain ⟨m3, k3⟩ := m2.write (o := .lst (vs ++ ws)) (mo' := .lst (ds ++ es)) c fun t => ⟨_, upd_same, (Reps.keep t _ _ rs).append (Reps.keep t _ _ rb)⟩
    exact ⟨a, b, vs, ws, rfl, rfl, hh, hb, by rw [← rs.length, ← rb.length]; exact hz, k _ _ .non _ rfl m3 (k1.trans (k2.trans k3)) q2⟩⟩

/-! ### d.get(k, x) -/
theorem w_get2 {pins : List (Addr × Obj)} {σ : L2.St} {H : Hp} {s : Shared} {a : Addr} {kvs : List (D × D)} {t : Tk} {k x : D} {v vx : V} {u ux : Value} {E : Value → Shared → Prop} {A : Around} {Q : Value → Shared → Prop} (hu : A.units + 64 < cLine) (I : Inv X pins σ H s) (c : RDict X H a kvs t) (ok : keyOk kvs k) (r : Rep X.prog X.w X.K H k v) (rv : RelV v u) (rx : Rep X.prog X.w X.K H x vx) (rvx : RelV vx ux)
    (h : ∀ y w' s', Inv X pins σ H s' → Rep X.prog X.w X.K H ((valD kvs k).getD x) y → RelV y w' → Q w' s') : wpAny (model X.prog X.w) A (call (.builtin "dict.get") [.ref a, u, ux]) Q E s := by
  have fin : ∀ {o : Option D} {p : Option Value} {tk : Nat}, ((o = none ∧ p = none) ∨ ∃ e u, o = some e ∧ p = some u ∧ RVal X H e u) → o = valD kvs k → Q (p.getD ux) { s with toks := tk } := by
    intro o p tk hr eo
    rw [← eo] at h
    rcases hr with ⟨rfl, rfl⟩ | ⟨e, w', rfl, rfl, y, ry, ryv⟩
    · exact h vx _ _ (I.tok _) rx rvx
    · exact h y _ _ (I.tok _) ry ryv
  rcases way c ok with ⟨y, hy, en⟩ | ⟨ds, y, rfl, hy, hd, en⟩
  · obtain ⟨vs, q, dd, hz⟩ := dict_f I c en
    cases rel_key hy r rv
    exact call_meetsIn PySem.F.slot_dict_get dd.typeIs PySem.F.entry_dict_get (PySem.F.args_dict_get_3 _ _ _) (meets_dict_get_default (mixKind X.prog X.w) a (kV_is rv) (dict_neq c) ux) ⟨_, dd.mapOf, fin (val_rel (κ := Key) (kd := D.flat?) (R := RVal X H) (fun a b k h1 h2 => D.flat_inj h1 h2) hy q) rfl⟩
  · obtain ⟨xs, q, dd, hz⟩ := dict_t I c en
    obtain ⟨b, vs, rfl, _⟩ := id r
    cases (show u = Value.ref b from rv)
    refine call_meetsIn PySem.F.slot_dict_get dd.typeIs PySem.F.entry_dict_get (PySem.F.args_dict_get_3 _ _ _) (meetsH_dict_get_default (nestedKind X.prog X.w) a b (dict_neq c) ux) ⟨room8 hu, y, xs, ⟨nis I _ _ _ _ hy r rv, hd⟩, dd, ?_⟩
    rw [atKey_pairs]
    exact fin (val_rel (κ := NestedKey) (kd := D.nk) (R := RVal X H) D.nk_inj hy (pairs_t q)) rfl
def wGet2 (wo we wx : WE) : WE := fun ρ M Q => wo ρ M fun o M1 => ∃ kvs0, entD o M1 = some kvs0 ∧ we ρ M1 fun e M2 => wx ρ M2 fun x M3 => ∃ kvs, entD o M3 = some kvs ∧ keyOk kvs e ∧ Q ((valD kvs e).getD x) M3
theorem de_get2 {o e f : Expr} {apos cpos : Pos} {wo we wx : WE} (hu : X.A.units + 64 < cLine) (ho : DEx X o wo) (he : DEx X e we) (hf : DEx X f wx) (m : M2 X o "get" apos e f cpos) : DEx X (.Call (.Attribute o "get" apos) [e, f] [] cpos) (wGet2 wo we wx) := by
  refine ⟨fun pins s σ H Q I ⟨ρ, M, Q', R, q, k⟩ => ?_⟩
  refine wpAny_Call_method m.base m.few m.line PySem.F.plainAttrs_dict PySem.F.slot_dict_get PySem.F.type_dict_get (thn (ho.run pins s σ H _ I ⟨ρ, M, _, R, q, fun v H1 d M1 r1 m1 k1 q1 => (show ∃ d M1, Rep X.prog X.w X.K H1 d v ∧ MRel X.prog X.w X.K H1 M1 ∧ Keep H M H1 M1 ∧ _ from ⟨d, M1, r1, m1, k1, q1⟩)⟩) fun u s1 ⟨x, H1, I1, rx, d, M1, r1, m1, k1, kvs0, e0, q1⟩ => ?_)
  obtain ⟨a, t0, rfl, rd0⟩ := entD_rd m1 r1 e0
  cases (show u = Value.ref a from rx)
  obtain ⟨o', h1, h2, h3⟩ := dict_raw I1 rd0
  refine ⟨⟨o', h1, h2.1⟩, fun b eb => by cases eb; exact ⟨o', h1, h2.2.1⟩, ?_⟩
  rw [m.trees]
  refine Calls.callWith_builtin rfl (Calls.evalArgs_plain (Calls.spliced_cons (thn (he.run pins s1 σ H1 _ I1 ⟨ρ, M1, _, R.next m1 k1, q1, fun v H2 d M2 r2 m2 k2 q2 => (show ∃ d M2, Rep X.prog X.w X.K H2 d v ∧ MRel X.prog X.w X.K H2 M2 ∧ Keep H1 M1 H2 M2 ∧ _ from ⟨d, M2, r2, m2, k2, q2⟩)⟩) fun iv s2 ⟨y, H2, I2, ry, dy, M2, r2, m2, k2, q2⟩ =>
    Calls.spliced_cons (thn (hf.run pins s2 σ H2 _ I2 ⟨ρ, M2, _, (R.next m1 k1).next m2 k2, q2, fun v H3 d M3 r3 m3 k3 q3 => (show ∃ d M3, Rep X.prog X.w X.K H3 d v ∧ MRel X.prog X.w X.K H3 M3 ∧ Keep H2 M2 H3 M3 ∧ _ from ⟨d, M3, r3, m3, k3, q3⟩)⟩) fun fv s3 ⟨z, H3, I3, rz, dz, M3, r3, m3, k3, kvs, c, ok, q3⟩ => Calls.spliced_nil ?_))))
  obtain ⟨a', t, e3, rd3⟩ := entD_rd m3 (Rep.keep ((k2.trans k3).tup m1) _ _ r1) c
  cases e3
  exact w_get2 hu I3 rd3 ok (Rep.keep (k3.tup m2) _ _ r2) ry r3 rz fun x w' s' I' rx' rw' => ⟨x, H3, I', rw', k x H3 _ M3 rx' m3 (k1.trans (k2.trans k3)) q3⟩
theorem xGet2 {a e f : Expr} {wa we wx : WE} {k : Nat} {apos cpos : Pos} (hr : Room k X.A) (ho : DEx X a wa) (he : DEx X e we) (hf : DEx X f wx) (h1 : attributeBase a "get" X.env (eval a X.env) = eval a X.env := by rfl)
    (h2 : ((backTo cpos (starEach [e, f] X.env)).all (fun x => !x.1) && (backToKw cpos (keywordEach [] X.env)).all (fun x => x.1.isSome) && decide (([e, f] : List Expr).length + ([] : List Keyword).length + (if ([] : List Keyword).isEmpty then 0 else 1) < 30)) = true := by rfl)
    (h3 : (apos.endLine == cpos.line) = true := by rfl) (h4 : backTo cpos (starEach [e, f] X.env) = [(false, eval e X.env), (false, eval f X.env)] := by rfl) : DEx X (.Call (.Attribute a "get" apos) [e, f] [] cpos) (wGet2 wa we wx) := de_get2 hr.units ho he hf ⟨h1, h2, h3, h4⟩

/-! ### max, min -/
def dMax : WL := fun ds M Q => match ds with
  | [.int i, .int j] => Q (.int (max i j)) M
  | [d] => ∃ ns : List Int, readL d M = some (ns.map D.int) ∧ ns ≠ [] ∧ ∀ m, m ∈ ns → (∀ y ∈ ns, y ≤ m) → Q (.int m) M
  | _ => False
def dMin : WL := fun ds M Q => match ds with
  | [.int i, .int j] => Q (.int (min i j)) M
  | [d] => ∃ ns : List Int, readL d M = some (ns.map D.int) ∧ ns ≠ [] ∧ ∀ m, m ∈ ns → (∀ y ∈ ns, m ≤ y) → Q (.int m) M
  | _ => False
def rMaxR (K : PySem.W.Frag) : List V → Hp → VK → Prop := fun xs H Q => (∃ i j, xs = [.int i, .int j] ∧ Q (.int (if j > i then j else i)) H) ∨ rMax K xs H Q
def rMinR (K : PySem.W.Frag) : List V → Hp → VK → Prop := fun xs H Q => (∃ i j, xs = [.int i, .int j] ∧ Q (.int (if j < i then j else i)) H) ∨ rMin K xs H Q
theorem call_maxR (hc : X.calm = true) : CallR X (.builtin "max") (rMaxR X.K) := (call_max2 hc).or (cr_max hc)
theorem call_minR (hc : X.calm = true) : CallR X (.builtin "min") (rMinR X.K) := (call_min2 hc).or (cr_min hc)
theorem readL_ints {H : Hp} {M : Mem} {d : D} {v : V} {ns : List Int} (m : MRel X.prog X.w X.K H M) (r : Rep X.prog X.w X.K H d v) (h : readL d M = some (ns.map D.int)) : ∃ a, v = .ref a ∧ SqL X.K H a (ns.map V.int) := by
  obtain ⟨a, vs, rfl, hr, rs⟩ := readL_rd m r h
  rw [← Reps.ints_eq rs]
  exact ⟨a, rfl, .inl hr⟩
theorem lift_max : LiftL X (rMaxR X.K) dMax := by
  intro H M xs ds Q Q' m rs q k
  unfold dMax at q
  split at q
  · rename_i i j
    obtain ⟨v, w, rfl, h1, h2⟩ := reps2 rs
    cases (show v = .int i from h1)
    cases (show w = .int j from h2)
    refine .inl ⟨i, j, rfl, ?_⟩
    have e : (if j > i then j else i) = max i j := by split <;> omega
    rw [e]
    exact k _ H (.int (max i j)) M rfl m .refl q
  · rename_i d _
    obtain ⟨v, rfl, r⟩ := reps1 rs
    obtain ⟨ns, e, ne, q⟩ := q
    obtain ⟨a, rfl, hs⟩ := readL_ints m r e
    exact .inr ⟨a, ns, rfl, hs, List.length_pos_iff.mpr ne, fun y hy hle => k _ H (.int y) M rfl m .refl (q y hy hle)⟩
  · exact q.elim
theorem lift_min : LiftL X (rMinR X.K) dMin := by
  intro H M xs ds Q Q' m rs q k
  unfold dMin at q
  split at q
  · rename_i i j
    obtain ⟨v, w, rfl, h1, h2⟩ := reps2 rs
    cases (show v = .int i from h1)
    cases (show w = .int j from h2)
    refine .inl ⟨i, j, rfl, ?_⟩
    have e : (if j < i then j else i) = min i j := by split <;> omega
    rw [e]
    exact k _ H (.int (min i j)) M rfl m .refl q
  · rename_i d _
    obtain ⟨v, rfl, r⟩ := reps1 rs
    obtain ⟨ns, e, ne, q⟩ := q
    obtain ⟨a, rfl, hs⟩ := readL_ints m r e
    exact .inr ⟨a, ns, rfl, hs, List.length_pos_iff.mpr ne, fun y hy hle => k _ H (.int y) M rfl m .refl (q y hy hle)⟩
  · exact q.elim
theorem bt_max : bootBuiltins "max" = some (.builtin "max") := by decide +kernel
theorem bt_min : bootBuiltins "min" = some (.builtin "min") := by decide +kernel

/-! ### o[i], o2[i2] = a pair -/
def wPutPair (wv wo wi wo2 wi2 : WE) : WS := fun D ρ M => wv ρ M fun d M1 => ∃ x y, d = .tup [x, y] ∧ wo ρ M1 fun o M2 => wi ρ M2 fun i M3 => dSetA o i x M3 fun M4 => wo2 ρ M4 fun o2 M5 => wi2 ρ M5 fun i2 M6 => dSetA o2 i2 y M6 fun M7 => D.nx ρ M7
theorem sPutPair {o i o2 i2 e : Expr} {wv wo wi wo2 wi2 : WE} {k kt : Nat} {tpos tpos2 pt pos : Pos} (hr : Room k X.A) (he : DEx X e wv) (ho : DEx X o wo) (hi : DEx X i wi) (ho2 : DEx X o2 wo2) (hi2 : DEx X i2 wi2) (hc : X.calm = true := by rfl)
    (ha : ∀ v, assign (.Subscript o i tpos) X.env v = (do
      let ov ← holding [v] (eval o X.env)
      let iv ← holding [v, ov] (eval i X.env)
      standAt tpos
      holding [v, ov, iv] (setItem ov iv v)
      release [v, ov, iv] []) := by intro _; rfl)
    (ha2 : ∀ v, assign (.Subscript o2 i2 tpos2) X.env v = (do
      let ov ← holding [v] (eval o2 X.env)
      let iv ← holding [v, ov] (eval i2 X.env)
      standAt tpos2
      holding [v, ov, iv] (setItem ov iv v)
      release [v, ov, iv] []) := by intro _; rfl)
    (hn : (assignEach [.Subscript o i tpos, .Subscript o2 i2 tpos2] X.env).length = 2 := by rfl) (hst : (assignEach [.Subscript o i tpos, .Subscript o2 i2 tpos2] X.env).findIdx? (·.1) = none := by rfl)
    (h1 : (assignEach [.Subscript o i tpos, .Subscript o2 i2 tpos2] X.env).map (·.2) = assign (.Subscript o i tpos) X.env :: (assignEach [.Subscript o2 i2 tpos2] X.env).map (·.2) := by rfl) (h2 : (assignEach [.Subscript o2 i2 tpos2] X.env).map (·.2) = assign (.Subscript o2 i2 tpos2) X.env :: (assignEach [] X.env).map (·.2) := by rfl)
    (hs : swapsWithSole [.Tuple [.Subscript o i tpos, .Subscript o2 i2 tpos2] kt pt] e pos.line X.env = pure false := by rfl) (hw : swappedStores [.Tuple [.Subscript o i tpos, .Subscript o2 i2 tpos2] kt pt] e X.env = pure none := by rfl)
    (h3 : (assignEach [.Tuple [.Subscript o i tpos, .Subscript o2 i2 tpos2] kt pt] X.env).map (·.2) = [assign (.Tuple [.Subscript o i tpos, .Subscript o2 i2 tpos2] kt pt) X.env] := by rfl) :
    DSt X (.Assign [.Tuple [.Subscript o i tpos, .Subscript o2 i2 tpos2] kt pt] e pos) (wPutPair wv wo wi wo2 wi2) :=
  ps_imp (ps_asg he (pg_tup (n := 2) hc (pgs_cons (pg_sub ho hi (set_all hr.units) ha) (pgs_cons (pg_sub ho2 hi2 (set_all hr.units) ha2) pgs_nil h2) h1) hn hst) hs hw h3) fun D σ H ⟨ρ, M, D', R, q, le⟩ =>
    ⟨ρ, M, _, R, q, fun v H1 d1 M1 r1 m1 k1 ⟨x, y, ed, q1⟩ => by
      subst ed
      obtain ⟨a, vs, rfl, sq, rs⟩ := r1
      obtain ⟨vx, vy, rfl, rx, ry⟩ := reps2 rs
      have R1 := R.next m1 k1
      refine ⟨a, [vx, vy], rfl, sq, rfl, vx, [vy], rfl, ρ, M1, _, R1, q1, fun ov H2 d2 M2 r2 m2 k2 q2 => ⟨ρ, M2, _, R1.next m2 k2, q2, fun iv H3 d3 M3 r3 m3 k3 q3 => ?_⟩⟩
      have R3 := (R1.next m2 k2).next m3 k3
      refine ⟨M3, d2, d3, x, _, m3, Rep.keep (k3.tup m2) _ _ r2, r3, Rep.keep ((k2.trans k3).tup m1) _ _ rx, q3, fun H4 M4 m4 k4 q4 => ?_⟩
      have R4 := R3.next m4 k4
      refine ⟨vy, [], rfl, ρ, M4, _, R4, q4, fun ov H5 d5 M5 r5 m5 k5 q5 => ⟨ρ, M5, _, R4.next m5 k5, q5, fun iv H6 d6 M6 r6 m6 k6 q6 => ?_⟩⟩
      have R6 := (R4.next m5 k5).next m6 k6
      have k16 : Keep H1 M1 H6 M6 := k2.trans (k3.trans (k4.trans (k5.trans k6)))
      exact ⟨M6, d5, d6, y, _, m6, Rep.keep (k6.tup m5) _ _ r5, r6, Rep.keep (k16.tup m1) _ _ ry, q6, fun H7 M7 m7 k7 q7 => ⟨rfl, le.nx _ _ _ _ (R6.next m7 k7) (k1.trans (k16.trans k7)) q7⟩⟩⟩

/-! ### for x in reversed(xs) -/
theorem ok_rev {a : Addr} {d : D} {ds : List D} {n : Nat} {H0 : Hp} {M0 : Mem} {st : Mem → Prop} (hn : n = ds.length) (h : ∀ H M, MRel X.prog X.w X.K H M → Keep H0 M0 H M → st M → ∃ vs, SqL X.K H a vs ∧ Reps X.prog X.w X.K H ds vs) : ItOk X (Itv X.K a n) ⟨ds.reverse, st⟩ H0 M0 := by
  subst hn
  refine ⟨fun i H M m k s hi => ?_, fun i H M x H' m k s hi ⟨e, y⟩ => ?_, fun H M m k s => ?_⟩
  · have hi' : i < ds.length := by simpa using hi
    obtain ⟨vs, hs, rs⟩ := h H M m k s
    obtain ⟨v, e, _⟩ := rs.get (i := ds.length - 1 - i) (d := ds[ds.length - 1 - i]) (by simp)
    exact ⟨hi', vs, v, hs, e⟩
  · subst e
    have hi' : i < ds.length := by simpa using hi
    obtain ⟨vs, hs, rs⟩ := h _ M m k s
    obtain ⟨v, e, rr⟩ := rs.get (i := ds.length - 1 - i) (d := ds[ds.length - 1 - i]) (by simp)
    have := y vs hs
    rw [e] at this; cases this
    exact ⟨ds[ds.length - 1 - i], by show ds.reverse[i]? = _; rw [List.getElem?_reverse hi']; simp, rr, m, .refl⟩
  · show ds.length ≤ ds.reverse.length
    rw [List.length_reverse]; exact Nat.le_refl _
theorem ok_revT {a : Addr} {ds : List D} {vs : List V} {H0 : Hp} {M0 : Mem} (m0 : MRel X.prog X.w X.K H0 M0) (sq : SqT X.K H0 a vs) (rs : Reps X.prog X.w X.K H0 ds vs) : ItOk X (ItvT X.K a ds.length) ⟨ds.reverse, fun _ => True⟩ H0 M0 := by
  refine ⟨fun i H M m k s hi => ?_, fun i H M x H' m k s hi ⟨e, y⟩ => ?_, fun H M m k s => ?_⟩
  · have hi' : i < ds.length := by simpa using hi
    obtain ⟨v, e, _⟩ := rs.get (i := ds.length - 1 - i) (d := ds[ds.length - 1 - i]) (by simp)
    exact ⟨hi', vs, v, (k.tup m0).t _ _ sq, e⟩
  · subst e
    have hi' : i < ds.length := by simpa using hi
    obtain ⟨v, e, rr⟩ := rs.get (i := ds.length - 1 - i) (d := ds[ds.length - 1 - i]) (by simp)
    have := y vs ((k.tup m0).t _ _ sq)
    rw [e] at this; cases this
    exact ⟨ds[ds.length - 1 - i], by show ds.reverse[i]? = _; rw [List.getElem?_reverse hi']; simp, Rep.keep (k.tup m0) _ _ rr, m, .refl⟩
  · show ds.length ≤ ds.reverse.length
    rw [List.length_reverse]; exact Nat.le_refl _
def wRev (w : WE) : WI := fun ρ M Q => w ρ M fun d M1 => match d with
  | .tup ds => Q ⟨ds.reverse, fun _ => True⟩ M1
  | .fl ds => Q ⟨ds.reverse, fun _ => True⟩ M1
  | .ref a => match M1 a with
    | some (.lst ds) => Q ⟨ds.reverse, fun M => M a = some (.lst ds)⟩ M1
    | _ => False
  | _ => False
theorem iRev {tg e : Expr} {w : WE} {p pos : Pos} (hm : X.mg "reversed" = none) (he : DEx X e w) (hg : Gl X "reversed" := by rfl) (hs : starEach [e] X.env = (false, eval e X.env) :: starEach [] X.env := by rfl) : DI X tg (.Call (.Name "reversed" p) [e] [] pos) (wRev w) :=
  pi_imp (pi_revA hg hm he hs) fun σ H R ⟨ρ, M, Q', Rr, q, k⟩ => ⟨ρ, M, _, Rr, q, fun x H1 d M1 r1 m1 k1 q1 => by
    cases d with
    | tup ds =>
      obtain ⟨a, vs, rfl, sq, rs⟩ := r1
      exact ⟨a, vs, rfl, .inr ⟨sq, by rw [← rs.length]; exact k _ H1 _ M1 m1 k1 (ok_revT m1 sq rs) q1⟩⟩
    | fl ds =>
      obtain ⟨a, vs, rfl, f, rs⟩ := r1
      exact ⟨a, vs, rfl, .inl ⟨f.sql, k _ H1 _ M1 m1 k1 (ok_rev (d := .non) rs.length.symm fun H M m k s => ⟨vs, ((k.tup m1).l f).sql, Reps.keep (k.tup m1) _ _ rs⟩) q1⟩⟩
    | ref a =>
      cases (show x = .ref a from r1)
      simp only at q1
      cases c : M1 a with
      | none => rw [c] at q1; exact q1.elim
      | some mo =>
        rw [c] at q1
        cases mo with
        | lst ds =>
          obtain ⟨vs, hh, rs⟩ := m1 a _ c
          exact ⟨a, vs, rfl, .inl ⟨.of hh, k _ H1 _ M1 m1 k1 (ok_rev (d := .non) rs.length.symm fun H M m k s => let ⟨vs, hh, rs⟩ := MRel.lst m s; ⟨vs, .of hh, rs⟩) q1⟩⟩
        | dict _ _ => exact q1.elim
        | ins _ _ => exact q1.elim
    | _ => exact q1.elim⟩
/-! ### short names for frozen readings -/
theorem xAddM {a b : Expr} {wa wb : WE} {pos : Pos} (ha : DEx X a wa) (hb : DEx X b wb) : DEx X (.BinOp a .Add b pos) (wBin dAddM wa wb) := de_op op_catM lift_addM ha hb
theorem xLcF {elt tg iter : Expr} {ifs : List Expr} {scope : Scope} {own : List (Str × Nat)} {pos : Pos} {wi : WI} {t : Tg} {wt : WT} {we : WE} (hN : X.N.Nodup) (ok : BlkOk X.N X.env.scope scope own)
    (hi : DI X tg iter wi) (hg : InB X scope fun Y => PG Y tg (gT Y.K t)) (ht : InB X scope fun Y => PTs Y ifs (lT Y wt)) (he : InB X scope fun Y => PE Y elt (lE Y we)) (hv : ∀ i ∈ t.ids, i ∈ own.map (·.2) := by decide) (hc : X.calm = true := by rfl) (hs : ∀ x, foldedSetIterable iter X.env x = pure x := by intro _; rfl) :
    DEx X (.ListComp elt [⟨tg, iter, ifs, 0⟩] scope pos) (wLcF wi t (own.map (·.2)) wt we) := de_lcF hc hN ok hv hi hg (fun s H C cl fp => pts_imp (ht s H C cl fp) (lT_to rfl rfl rfl)) (fun s H C cl fp => pe_imp (he s H C cl fp) (lE_to rfl rfl rfl)) hs
theorem sSetLcF (i : Nat) {y : Str} {elt tg iter : Expr} {ifs : List Expr} {scope : Scope} {own : List (Str × Nat)} {p pos cpos : Pos} {wi : WI} {t : Tg} {wt : WT} {we : WE} (hN : X.N.Nodup) (ok : BlkOk X.N X.env.scope scope own)
    (hi : DI X tg iter wi) (hg : InB X scope fun Y => PG Y tg (gT Y.K t)) (ht : InB X scope fun Y => PTs Y ifs (lT Y wt)) (he : InB X scope fun Y => PE Y elt (lE Y we)) (hy : X.N[i]? = some y := by rfl) (hyl : X.env.scope.names.lookup y = some .local := by rfl)
    (hsw : swapsWith (.ListComp elt [⟨tg, iter, ifs, 0⟩] scope pos) (some (.Name y p)) cpos.line X.env = pure true := by rfl) (hv : ∀ i ∈ t.ids, i ∈ own.map (·.2) := by decide) (hc : X.calm = true := by rfl) (hs : ∀ x, foldedSetIterable iter X.env x = pure x := by intro _; rfl) :
    DSt X (.Assign [.Name y p] (.ListComp elt [⟨tg, iter, ifs, 0⟩] scope pos) cpos) (wSet i (wLcF wi t (own.map (·.2)) wt we)) := ds_setLcF hc hN hy hyl hsw ok hv hi hg (fun s H C cl fp => pts_imp (ht s H C cl fp) (lT_to rfl rfl rfl)) (fun s H C cl fp => pe_imp (he s H C cl fp) (lE_to rfl rfl rfl)) hs
end
end Fw

set_option Elab.async false
set_option linter.all false
set_option maxRecDepth 100000
set_option maxHeartbeats 4000000
/-! FwPlain: plain data: ==, in, keys; tables as sets -/
namespace Fw
open PySem PySem.Spec PyProof.Rows L2
mutual
def D.cl : D → Bool
  | .non => true
  | .int _ => true
  | .str s => PyData.strOk s
  | .tup ds => D.cls ds
  | .bl _ => false
  | .ref _ => false
  | .fl _ => false
  | .fd _ _ => false
def D.cls : List D → Bool
  | [] => true
  | d :: ds => D.cl d && D.cls ds
end
mutual
def D.dep : D → Nat
  | .tup ds => D.deps ds + 1
  | _ => 0
def D.deps : List D → Nat
  | [] => 0
  | d :: ds => max (D.dep d) (D.deps ds)
end
mutual
theorem D.py_cl : ∀ x : D, x.cl = true → ∃ p, x.py = some p ∧ p.canLay0 = true ∧ p.depth = x.dep
  | .non, _ => ⟨.none, by simp [D.py], by simp [PyData.canLay0], by simp [PyData.depth, D.dep]⟩
  | .int i, _ => ⟨.int i, by simp [D.py], by simp [PyData.canLay0], by simp [PyData.depth, D.dep]⟩
  | .str s, h => ⟨.str s, by simp [D.py], by simpa [PyData.canLay0, D.cl] using h, by simp [PyData.depth, D.dep]⟩
  | .bl b, h => by simp [D.cl] at h
  | .ref b, h => by simp [D.cl] at h
  | .fl b, h => by simp [D.cl] at h
  | .fd b c, h => by simp [D.cl] at h
  | .tup ds, h => by
    obtain ⟨ps, e, c, d⟩ := D.pys_cl ds (by simpa [D.cl] using h)
    exact ⟨.tuple ps, by simp [D.py, e], by simpa [PyData.canLay0] using c, by simp [PyData.depth, D.dep, d]⟩
theorem D.pys_cl : ∀ xs : List D, D.cls xs = true → ∃ ps, D.pys xs = some ps ∧ PyData.canLayAll0 ps = true ∧ PyData.depthAll ps = D.deps xs
  | [], _ => ⟨[], by simp [D.pys], by simp [PyData.canLayAll0], by simp [PyData.depthAll, D.deps]⟩
  | x :: xs, h => by
    simp only [D.cls, Bool.and_eq_true] at h
    obtain ⟨p, e, c, d⟩ := D.py_cl x h.1
    obtain ⟨ps, e2, c2, d2⟩ := D.pys_cl xs h.2
    exact ⟨p :: ps, by simp [D.pys, e, e2], by simp [PyData.canLayAll0, c, c2], by simp [PyData.depthAll, D.deps, d, d2]⟩
end
mutual
theorem D.eqv_cl : ∀ (x y : D) (p q : PyData), x.cl = true → y.cl = true → x.py = some p → y.py = some q → PyData.eqv p q = decide (x = y)
  | .non, y, p, q, hx, hy, ep, eq => by
    simp [D.py] at ep; subst ep
    cases y <;> simp [D.py, D.cl] at eq hy <;> first | (subst eq; simp [PyData.eqv]) | (obtain ⟨_, _, rfl⟩ := eq; simp [PyData.eqv])
  | .int i, y, p, q, hx, hy, ep, eq => by
    simp [D.py] at ep; subst ep
    cases y <;> simp [D.py, D.cl] at eq hy <;> first | (subst eq; simp [PyData.eqv]; try (rw [Bool.eq_iff_iff]; simp)) | (obtain ⟨_, _, rfl⟩ := eq; simp [PyData.eqv])
  | .str i, y, p, q, hx, hy, ep, eq => by
    simp [D.py] at ep; subst ep
    cases y <;> simp [D.py, D.cl] at eq hy <;> first | (subst eq; simp [PyData.eqv]; try (rw [Bool.eq_iff_iff]; simp)) | (obtain ⟨_, _, rfl⟩ := eq; simp [PyData.eqv])
  | .bl b, _, _, _, h, _, _, _ => by simp [D.cl] at h
  | .ref b, _, _, _, h, _, _, _ => by simp [D.cl] at h
  | .fl b, _, _, _, h, _, _, _ => by simp [D.cl] at h
  | .fd b c, _, _, _, h, _, _, _ => by simp [D.cl] at h
  | .tup ds, y, p, q, hx, hy, ep, eq => by
    simp only [D.py, Option.map_eq_some_iff] at ep
    obtain ⟨ps, e1, rfl⟩ := ep
    cases y with
    | tup es =>
      simp only [D.py, Option.map_eq_some_iff] at eq
      obtain ⟨qs, e2, rfl⟩ := eq
      rw [PyData.eqv, D.eqvs_cl ds es ps qs (by simpa [D.cl] using hx) (by simpa [D.cl] using hy) e1 e2]
      simp
    | bl b => simp [D.cl] at hy
    | ref b => simp [D.cl] at hy
    | fl b => simp [D.cl] at hy
    | fd b c => simp [D.cl] at hy
    | non => simp [D.py] at eq; subst eq; simp [PyData.eqv]
    | int i => simp [D.py] at eq; subst eq; simp [PyData.eqv]
    | str i => simp [D.py] at eq; subst eq; simp [PyData.eqv]
theorem D.eqvs_cl : ∀ (x y : List D) (p q : List PyData), D.cls x = true → D.cls y = true → D.pys x = some p → D.pys y = some q → PyData.eqvAll p q = decide (x = y)
  | [], [], p, q, _, _, ep, eq => by simp [D.pys] at ep eq; subst ep eq; simp [PyData.eqvAll]
  | [], y :: ys, p, q, _, _, ep, eq => by
    simp [D.pys] at ep; subst ep
    rw [D.pys] at eq
    split at eq
    · simp at eq; subst eq; simp [PyData.eqvAll]
    · simp at eq
  | x :: xs, [], p, q, _, _, ep, eq => by
    simp [D.pys] at eq; subst eq
    rw [D.pys] at ep
    split at ep
    · simp at ep; subst ep; simp [PyData.eqvAll]
    · simp at ep
  | x :: xs, y :: ys, p, q, hx, hy, ep, eq => by
    simp only [D.cls, Bool.and_eq_true] at hx hy
    rw [D.pys] at ep eq
    split at ep
    · rename_i k ks e1 e2
      simp at ep; subst ep
      split at eq
      · rename_i k' ks' e1' e2'
        simp at eq; subst eq
        rw [PyData.eqvAll, D.eqv_cl x y k k' hx.1 hy.1 e1 e1', D.eqvs_cl xs ys ks ks' hx.2 hy.2 e2 e2']
        rw [Bool.eq_iff_iff]
        simp
      · simp at eq
    · simp at ep
end
theorem eqIs {x y : D} (hx : x.cl = true) (hy : y.cl = true) (dx : x.dep ≤ 64) (dy : y.dep ≤ 64) : EqIs x y (decide (x = y)) := by
  obtain ⟨p, e, c, d⟩ := D.py_cl x hx
  obtain ⟨q, e2, c2, d2⟩ := D.py_cl y hy
  exact ⟨p, q, e, e2, by unfold SeqAt.shaped; rw [c, d]; simp [dx], by unfold SeqAt.shaped; rw [c2, d2]; simp [dy], D.eqv_cl x y p q hx hy e e2⟩
theorem dEq_cl {f : Bool → Bool} {x y : D} {M : Mem} {Q : DK} (hx : x.cl = true) (hy : y.cl = true) (dx : x.dep ≤ 64) (dy : y.dep ≤ 64) (q : Q (.bl (f (decide (x = y)))) M) : dEq f x y M Q := by
  unfold dEq
  cases h : scEq x y with
  | none => exact ⟨_, eqIs hx hy dx dy, q⟩
  | some b =>
    show Q (.bl (f b)) M
    have e : b = decide (x = y) := by
      unfold scEq at h
      split at h
      · cases h; exact decide_eq_decide.mpr (by simp)
      · cases h; exact decide_eq_decide.mpr (by simp)
      · cases h; exact decide_eq_decide.mpr (by simp)
      · cases h
    rw [e]; exact q
theorem any_eqv {x : D} {p : PyData} (hx : x.cl = true) (e : x.py = some p) : ∀ (ds : List D) (ps : List PyData), D.cls ds = true → D.pys ds = some ps → (ps.any fun z => PyData.eqv z p) = decide (x ∈ ds)
  | [], ps, _, h => by simp [D.pys] at h; subst h; simp
  | d :: ds, ps, c, h => by
    simp only [D.cls, Bool.and_eq_true] at c
    rw [D.pys] at h
    split at h
    · rename_i k ks e1 e2
      simp at h; subst h
      rw [List.any_cons, D.eqv_cl d x k p c.1 hx e1 e, any_eqv hx e ds ks c.2 e2]
      rw [Bool.eq_iff_iff]
      simp only [Bool.or_eq_true, decide_eq_true_eq, List.mem_cons]
      exact ⟨fun z => z.imp Eq.symm id, fun z => z.imp Eq.symm id⟩
    · simp at h
theorem inL_cl {f : Bool → Bool} {x : D} {ds : List D} {M : Mem} {Q : DK} (hx : x.cl = true) (hd : D.cls ds = true) (dx : x.dep ≤ 64) (dd : D.deps ds < 64) (q : Q (.bl (f (decide (x ∈ ds)))) M) : InL f x ds M Q := by
  obtain ⟨p, e, c, d⟩ := D.py_cl x hx
  obtain ⟨ps, e2, c2, d2⟩ := D.pys_cl ds hd
  refine ⟨p, ps, e, e2, by unfold SeqAt.shaped; rw [c, d]; simp [dx], by unfold SeqAt.shaped; simp only [PyData.canLay0, PyData.depth, c2, d2]; simp; omega, ?_⟩
  rw [any_eqv hx e ds ps hd e2]
  exact q
theorem inT_cl {f : Bool → Bool} {x : D} {ds : List D} {M : Mem} {Q : DK} (hx : x.cl = true) (hd : D.cls ds = true) (dx : x.dep ≤ 64) (dd : D.deps ds < 64) (q : Q (.bl (f (decide (x ∈ ds)))) M) : InT f x ds M Q := by
  obtain ⟨p, e, c, d⟩ := D.py_cl x hx
  obtain ⟨ps, e2, c2, d2⟩ := D.pys_cl ds hd
  refine ⟨p, ps, e, by simp [D.py, e2], by unfold SeqAt.shaped; rw [c, d]; simp [dx], by unfold SeqAt.shaped; simp only [PyData.canLay0, PyData.depth, c2, d2]; simp; omega, ?_⟩
  rw [any_eqv hx e ds ps hd e2]
  exact q

/-! ### tables -/
theorem valD_some {kvs : List (D × D)} {k : D} : (valD kvs k).isSome = decide (k ∈ kvs.map (·.1)) := by
  unfold valD
  rw [Option.isSome_map, Bool.eq_iff_iff]
  simp [List.find?_isSome]
theorem putD_keys {kvs : List (D × D)} {k v : D} : (putD kvs k v).map (·.1) = if k ∈ kvs.map (·.1) then kvs.map (·.1) else kvs.map (·.1) ++ [k] := by
  unfold putD
  by_cases h : (kvs.any fun kv => decide (kv.1 = k)) = true
  · rw [if_pos h, if_pos (by simpa using h), List.map_map]
    apply List.map_congr_left
    intro p hp
    by_cases e : p.1 = k <;> simp [e]
  · rw [if_neg h, if_neg (by simpa using h)]
    simp
theorem val_other {k v j : D} (h : j ≠ k) : ∀ r : List (D × D), ((r.map fun kv => if kv.1 = k then (kv.1, v) else kv).find? fun kv => decide (kv.1 = j)).map (·.2) = (r.find? fun kv => decide (kv.1 = j)).map (·.2)
  | [] => rfl
  | p :: r => by
    rw [List.map_cons, List.find?_cons, List.find?_cons]
    by_cases e : p.1 = k
    · rw [if_pos e]
      have : ¬ p.1 = j := fun z => h (z.symm.trans e)
      simp only [this, decide_false]
      exact val_other h r
    · rw [if_neg e]
      by_cases z : p.1 = j
      · simp [z]
      · simp only [z, decide_false]; exact val_other h r
theorem val_same {k v : D} : ∀ r : List (D × D), (r.any fun kv => decide (kv.1 = k)) = true → ((r.map fun kv => if kv.1 = k then (kv.1, v) else kv).find? fun kv => decide (kv.1 = k)).map (·.2) = some v
  | [], h => by simp at h
  | p :: r, h => by
    rw [List.map_cons, List.find?_cons]
    by_cases e : p.1 = k
    · rw [if_pos e]; simp [e]
    · rw [if_neg e]
      simp only [e, decide_false]
      exact val_same r (by simpa [e] using h)
theorem valD_put {kvs : List (D × D)} {k v j : D} : valD (putD kvs k v) j = if j = k then some v else valD kvs j := by
  unfold putD valD
  by_cases h : (kvs.any fun kv => decide (kv.1 = k)) = true
  · rw [if_pos h]
    by_cases ej : j = k
    · subst ej; rw [if_pos rfl]; exact val_same kvs h
    · rw [if_neg ej]; exact val_other ej kvs
  · rw [if_neg h, List.find?_append]
    by_cases ej : j = k
    · subst ej
      rw [if_pos rfl]
      have : kvs.find? (fun kv => decide (kv.1 = j)) = none := by
        rw [List.find?_eq_none]; intro p hp z; apply h; rw [List.any_eq_true]; exact ⟨p, hp, z⟩
      rw [this]; simp
    · rw [if_neg ej]
      have : ¬ k = j := fun z => ej z.symm
      cases hf : kvs.find? (fun kv => decide (kv.1 = j)) <;> simp [this]
/-- the keys of a table -/
def kys (kvs : List (D × D)) : List D := kvs.map (·.1)
theorem kys_nodup {kvs : List (D × D)} {k v : D} (h : (kys kvs).Nodup) : (kys (putD kvs k v)).Nodup := by
  unfold kys at *
  rw [putD_keys]
  split
  · exact h
  · rename_i hn
    rw [List.nodup_append]
    refine ⟨h, by simp, fun a ha b hb => ?_⟩
    rw [List.mem_singleton] at hb
    subst hb
    exact fun e => hn (e ▸ ha)
theorem kys_put {kvs : List (D × D)} {k v d : D} : d ∈ kys (putD kvs k v) ↔ d ∈ kys kvs ∨ d = k := by
  unfold kys
  rw [putD_keys]
  split
  · rename_i h
    constructor
    · exact .inl
    · rintro (z | rfl)
      · exact z
      · exact h
  · simp
theorem nodup_le {α : Type} [DecidableEq α] : ∀ {l u : List α}, l.Nodup → (∀ x ∈ l, x ∈ u) → l.length ≤ u.length
  | [], _, _, _ => Nat.zero_le _
  | a :: l, u, h, s => by
    have h2 := List.nodup_cons.mp h
    have ha := s a List.mem_cons_self
    have := nodup_le (u := u.erase a) h2.2 fun x hx => (List.mem_erase_of_ne (fun e => h2.1 (by subst e; exact hx))).mpr (s x (List.mem_cons_of_mem _ hx))
    rw [List.length_erase_of_mem ha] at this
    have : 0 < u.length := List.length_pos_of_mem ha
    rw [List.length_cons]; omega
/-- a table whose keys are as P says, of a list of possible keys -/
structure Tb (kvs : List (D × D)) (U : List D) (P : D → Prop) : Prop where
  nd : (kys kvs).Nodup
  mem : ∀ d, d ∈ kys kvs ↔ P d
  sub : ∀ d, P d → d ∈ U
theorem Tb.len {kvs : List (D × D)} {U : List D} {P : D → Prop} (t : Tb kvs U P) : kvs.length ≤ U.length := by
  have := nodup_le t.nd fun x hx => t.sub x ((t.mem x).mp hx)
  unfold kys at this
  rwa [List.length_map] at this
theorem Tb.nil {U : List D} : Tb [] U fun _ => False := ⟨List.nodup_nil, fun d => by simp [kys], fun _ h => h.elim⟩
theorem Tb.put {kvs : List (D × D)} {U : List D} {P : D → Prop} {k v : D} (t : Tb kvs U P) (h : k ∈ U) : Tb (putD kvs k v) U fun d => P d ∨ d = k :=
  ⟨kys_nodup t.nd, fun d => by rw [kys_put, t.mem], fun d hd => hd.elim (t.sub d) fun e => e ▸ h⟩
theorem Tb.congr {kvs : List (D × D)} {U : List D} {P P' : D → Prop} (t : Tb kvs U P) (h : ∀ d, P d ↔ P' d) : Tb kvs U P' := ⟨t.nd, fun d => (t.mem d).trans (h d), fun d hd => t.sub d ((h d).mpr hd)⟩
theorem Tb.isSome {kvs : List (D × D)} {U : List D} {P : D → Prop} (t : Tb kvs U P) (d : D) : (valD kvs d).isSome = true ↔ P d := by
  rw [valD_some, decide_eq_true_eq]; exact t.mem d
theorem keyOk_t {kvs : List (D × D)} {k : D} (hk : tkey k = true) (h : ∀ d ∈ kys kvs, tkey d = true) : keyOk kvs k := .inr ⟨hk, fun p hp => h p.1 (List.mem_map_of_mem hp)⟩
theorem keyOk_f {kvs : List (D × D)} {k : D} (hk : fkey k = true) (h : ∀ d ∈ kys kvs, fkey d = true) : keyOk kvs k := .inl ⟨hk, fun p hp => h p.1 (List.mem_map_of_mem hp)⟩
/-! ### memories -/
theorem SubM.set {M0 M : Mem} {p : Addr} {o : MO} (s : SubM M0 M) (h : M0 p = Option.none) : SubM M0 (mset M p o) := fun a u e => by
  rw [mset_ne (fun z => by subst z; rw [h] at e; cases e)]; exact s a u e
theorem SubM.trans {M0 M1 M2 : Mem} (s : SubM M0 M1) (t : SubM M1 M2) : SubM M0 M2 := fun a o e => t a o (s a o e)
theorem SubM.new {M : Mem} {p : Addr} {o : MO} (h : M p = Option.none) : SubM M (mset M p o) := SubM.refl.set h
theorem SubM.to {M0 M : Mem} {p : Addr} {o : MO} (s : SubM M0 M) (h : M p = some o) : SubM (mset M0 p o) M := fun a u e => by
  by_cases z : a = p
  · subst z; rw [mset_same] at e; rw [← e]; exact h
  · rw [mset_ne z] at e; exact s a u e
theorem drops_of {Q : DK} {d : D} {M : Mem} (q : Q d M) : drops Q d M := ⟨M, .refl, .inl q⟩
theorem drops_to {Q : DK} {d : D} {M M0 : Mem} (s : SubM M0 M) (q : Q d M0) : drops Q d M := ⟨M0, s, .inl q⟩
/-- a new list, a new dict that is returned: frozen -/
theorem drops_fl {Q : DK} {a : Addr} {ds : List D} {M M0 : Mem} (s : SubM M0 M) (n : M0 a = none) (h : M a = some (.lst ds)) (q : Q (.fl ds) M0) : drops Q (.ref a) M := by
  refine ⟨mset M0 a (.lst ds), s.to h, .inr ?_⟩
  unfold frzT
  simp only [mset_same, mdel_mset n]
  exact q
theorem drops_fd {Q : DK} {a : Addr} {kvs : List (D × D)} {t : Tk} {M M0 : Mem} (s : SubM M0 M) (n : M0 a = none) (h : M a = some (.dict kvs t)) (q : Q (.fd (kvs.map (·.1)) (kvs.map (·.2))) M0) : drops Q (.ref a) M := by
  refine ⟨mset M0 a (.dict kvs t), s.to h, .inr ?_⟩
  unfold frzT
  simp only [mset_same, mdel_mset n]
  exact q
/-! ### loops -/
theorem loop_inv {stab : Mem → Prop} {t : Tg} {wb : WS} {E : DEnds} {xs : List D} (I : List D → Env → Mem → Prop)
    (turn : ∀ done x rest, xs = done ++ x :: rest → ∀ ρ M, I done ρ M → ∀ N : Env → Mem → Prop, (∀ ρ M, I (done ++ [x]) ρ M → N ρ M) → ∃ ρ0 M0, SubE ρ0 ρ ∧ SubM M0 M ∧ stab M0 ∧ wTg t x ρ0 fun ρ1 => wb { nx := N, ct := N, bk := E.nx, rt := E.rt } ρ1 M0)
    (fin : ∀ ρ M, I xs ρ M → ∃ ρ0 M0, SubE ρ0 ρ ∧ SubM M0 M ∧ stab M0 ∧ E.nx ρ0 M0) : ∀ (ys done : List D), xs = done ++ ys → ∀ ρ M, I done ρ M → loopD stab t wb ys E ρ M
  | [], done, h, ρ, M, hi => by rw [List.append_nil] at h; subst h; exact fin ρ M hi
  | y :: ys, done, h, ρ, M, hi => by
    obtain ⟨ρ0, M0, s1, s2, st, q⟩ := turn done y ys h ρ M hi (loopD stab t wb ys E) fun ρ M hi => loop_inv I turn fin ys (done ++ [y]) (by rw [h]; simp) ρ M hi
    exact ⟨ρ0, M0, s1, s2, st, q⟩
/-- a comprehension whose items and tests are told by functions, and that leaves the memory as it was -/
theorem comp_fn {stab : Mem → Prop} {t : Tg} {ρ : Env} {wt : WT} {we : WE} {M : Mem} {Q : List D → Mem → Prop} (st : stab M) (c : D → Bool) (f : D → D) : ∀ (xs acc : List D),
    (∀ x ∈ xs, wTg t x ρ fun ρ1 => ∀ N : Bool → Mem → Prop, N (c x) M → wt ρ1 M N) → (∀ x ∈ xs, c x = true → wTg t x ρ fun ρ1 => ∀ N : D → Mem → Prop, N (f x) M → we ρ1 M N) →
    acc.length + xs.length ≤ sizeLine → Q (acc ++ (xs.filter c).map f) M → compD stab t ρ wt we xs acc M Q
  | [], acc, _, _, _, q => by simp at q; exact ⟨M, .refl, st, q⟩
  | x :: xs, acc, h1, h2, hz, q => by
    rw [List.length_cons] at hz
    have ht := h1 x List.mem_cons_self
    have r1 : ∀ y ∈ xs, _ := fun y hy => h1 y (List.mem_cons_of_mem _ hy)
    have r2 : ∀ y ∈ xs, _ := fun y hy => h2 y (List.mem_cons_of_mem _ hy)
    refine ⟨M, .refl, st, ?_⟩
    cases hc : c x with
    | false =>
      have go := comp_fn (wt := wt) (we := we) st c f xs acc r1 r2 (by omega) (by simpa [hc] using q)
      cases t with
      | nm i => exact ht _ (by rw [hc, if_neg Bool.false_ne_true]; exact go)
      | tp is => obtain ⟨ds, e, l, k⟩ := ht; exact ⟨ds, e, l, k _ (by rw [hc, if_neg Bool.false_ne_true]; exact go)⟩
    | true =>
      have he := h2 x List.mem_cons_self hc
      have go := comp_fn (wt := wt) (we := we) st c f xs (acc ++ [f x]) r1 r2 (by rw [List.length_append, List.length_singleton]; omega) (by simpa [hc] using q)
      cases t with
      | nm i => exact ht _ (by rw [hc, if_pos rfl]; exact he _ ⟨by omega, go⟩)
      | tp is =>
        obtain ⟨ds, e, l, k⟩ := ht
        obtain ⟨ds2, e2, l2, k2⟩ := he
        obtain rfl : ds = ds2 := by rw [e] at e2; injection e2
        exact ⟨ds, e, l, k _ (by rw [hc, if_pos rfl]; exact k2 _ ⟨by omega, go⟩)⟩
end Fw

set_option Elab.async false
set_option linter.all false
set_option maxRecDepth 100000
set_option maxHeartbeats 4000000
/-! FwSym: the readings, run by simp -/
namespace Fw
open PySem PySem.Spec PyProof.Rows L2
section
variable {ρ : Env} {M : Mem} {Q : DK} {E : DEnds} {i j : Nat} {d e x y : D} {wa wb wc : WE} {f : Bool → Bool}
@[simp] theorem y_var : wVar i ρ M Q = ∃ d, ρ[i]? = some (some d) ∧ Q d M := rfl
@[simp] theorem y_c : wC d ρ M Q = Q d M := rfl
@[simp] theorem y_bin {g : W2} : wBin g wa wb ρ M Q = wa ρ M fun d M1 => wb ρ M1 fun e M2 => g d e M2 Q := rfl
@[simp] theorem y_call {g : WL} {w : WA} : wCall g w ρ M Q = w ρ M fun ds M1 => g ds M1 Q := rfl
@[simp] theorem y_nil {Q : List D → Mem → Prop} : wNil ρ M Q = Q [] M := rfl
@[simp] theorem y_cons {wr : WA} {Q : List D → Mem → Prop} : wCons wa wr ρ M Q = wa ρ M fun d M1 => wr ρ M1 fun ds M2 => Q (d :: ds) M2 := rfl
@[simp] theorem y_tup {w : WA} : wTup w ρ M Q = w ρ M fun ds M1 => ds.length ≤ sizeLine ∧ Q (.tup ds) M1 := rfl
@[simp] theorem y_lst {w : WA} : wLst w ρ M Q = w ρ M fun ds M1 => ds.length ≤ sizeLine ∧ ∀ p, M1 p = none → Q (.ref p) (mset M1 p (.lst ds)) := rfl
@[simp] theorem y_tru {Q : Bool → Mem → Prop} : wTru wa ρ M Q = wa ρ M fun d M1 => ∃ b, truD d M1 = some b ∧ Q b M1 := rfl
@[simp] theorem y_b {Q : Bool → Mem → Prop} : wB wa ρ M Q = wa ρ M fun d M1 => ∃ b, d = .bl b ∧ Q b M1 := rfl
@[simp] theorem y_notT {w : WT} {Q : Bool → Mem → Prop} : wNotT w ρ M Q = w ρ M fun b M1 => Q (!b) M1 := rfl
@[simp] theorem y_andT {a b : WT} {Q : Bool → Mem → Prop} : wAndT a b ρ M Q = a ρ M fun c M1 => if c = true then b ρ M1 Q else Q false M1 := rfl
@[simp] theorem y_orT {a b : WT} {Q : Bool → Mem → Prop} : wOrT a b ρ M Q = a ρ M fun c M1 => if c = true then Q true M1 else b ρ M1 Q := rfl
@[simp] theorem y_notV : wNotV wa ρ M Q = wa ρ M fun d M1 => ∃ b, truD d M1 = some b ∧ Q (.bl (!b)) M1 := rfl
@[simp] theorem y_andV : wAndV wa wb ρ M Q = wa ρ M fun d M1 => ∃ c, truD d M1 = some c ∧ if c = true then wb ρ M1 Q else Q d M1 := rfl
@[simp] theorem y_orV : wOrV wa wb ρ M Q = wa ρ M fun d M1 => ∃ c, truD d M1 = some c ∧ if c = true then Q d M1 else wb ρ M1 Q := rfl
@[simp] theorem y_ifE {c : WT} : wIfE c wa wb ρ M Q = c ρ M fun k M1 => if k = true then wa ρ M1 Q else wb ρ M1 Q := rfl
@[simp] theorem y_neg : wNeg wa ρ M Q = wa ρ M fun d M1 => ∃ i, d = .int i ∧ Q (.int (-i)) M1 := rfl
@[simp] theorem y_chain {g g' : W2} : wChain g g' wa wb wc ρ M Q = wa ρ M fun d M1 => wb ρ M1 fun e M2 => g d e M2 fun z M3 => ∃ b, z = .bl b ∧ (if b = true then wc ρ M3 fun f M4 => g' e f M4 Q else Q (.bl false) M3) := rfl
@[simp] theorem y_isi {T : Ty} : wIsi T wa ρ M Q = wa ρ M fun d M1 => ∃ b, isiD T d M1 = some b ∧ Q (.bl b) M1 := rfl
@[simp] theorem y_sl {wl wh : WO} : wSl wa wl wh ρ M Q = wa ρ M fun d M1 => wl ρ M1 fun l M2 => wh ρ M2 fun u M3 => dSl d l u M3 Q := rfl
@[simp] theorem y_part {Q : Option Int → Mem → Prop} : wPart wa ρ M Q = wa ρ M fun d M1 => ∃ i, d = .int i ∧ Q (some i) M1 := rfl
@[simp] theorem y_nopart {Q : Option Int → Mem → Prop} : wNoPart ρ M Q = Q none M := rfl
@[simp] theorem y_ptn : wPtn wa wb ρ M Q = wa ρ M fun o M1 => ∃ a, o = .str a ∧ wb ρ M1 fun e M2 => ∃ b, e = .str b ∧ (b.length == 0) = false ∧ a.length ≤ sizeLine ∧ Q (.tup [.str (Txt.partition a b).1, .str (Txt.partition a b).2.1, .str (Txt.partition a b).2.2]) M2 := rfl
@[simp] theorem y_app : wApp wa wb ρ M Q = wa ρ M fun o M1 => ∃ a ds0, o = .ref a ∧ M1 a = some (.lst ds0) ∧ wb ρ M1 fun e M2 => ∃ ds, M2 a = some (.lst ds) ∧ ds.length < sizeLine ∧ Q .non (mset M2 a (.lst (ds ++ [e]))) := rfl
@[simp] theorem y_get1 : wGet1 wa wb ρ M Q = wa ρ M fun o M1 => ∃ kvs0, entD o M1 = some kvs0 ∧ wb ρ M1 fun e M2 => ∃ kvs, entD o M2 = some kvs ∧ keyOk kvs e ∧ Q ((valD kvs e).getD .non) M2 := rfl
@[simp] theorem y_get2 : wGet2 wa wb wc ρ M Q = wa ρ M fun o M1 => ∃ kvs0, entD o M1 = some kvs0 ∧ wb ρ M1 fun e M2 => wc ρ M2 fun x M3 => ∃ kvs, entD o M3 = some kvs ∧ keyOk kvs e ∧ Q ((valD kvs e).getD x) M3 := rfl
@[simp] theorem y_fl {w : WA} : wFl w ρ M Q = w ρ M fun ds M1 => ds.length ≤ sizeLine ∧ Q (.fl ds) M1 := rfl
@[simp] theorem y_lcF {wi : WI} {t : Tg} {vs : List Nat} {wt : WT} : wLcF wi t vs wt wa ρ M Q = wi ρ M fun src M1 => compD src.stab t (wipeE ρ vs) wt wa src.items [] M1 fun acc M2 => Q (.fl acc) M2 := rfl
@[simp] theorem y_pop : wPop wa ρ M Q = wa ρ M fun o M1 => ∃ a ds d, o = .ref a ∧ M1 a = some (.lst (ds ++ [d])) ∧ Q d (mset M1 a (.lst ds)) := rfl
@[simp] theorem y_ext : wExt wa wb ρ M Q = wa ρ M fun o M1 => ∃ a ds0, o = .ref a ∧ M1 a = some (.lst ds0) ∧ wb ρ M1 fun e M2 => ∃ ds es, M2 a = some (.lst ds) ∧ readL e M2 = some es ∧ e ≠ .ref a ∧ ds.length + es.length ≤ sizeLine ∧ Q .non (mset M2 a (.lst (ds ++ es))) := rfl
@[simp] theorem y_listRev : wListRev wa ρ M Q = wa ρ M fun d M1 => ∃ xs, readL d M1 = some xs ∧ ∀ p, M1 p = none → Q (.ref p) (mset M1 p (.lst xs.reverse)) := rfl
@[simp] theorem y_listRevF : wListRevF wa ρ M Q = wa ρ M fun d M1 => ∃ xs, readL d M1 = some xs ∧ Q (.fl xs.reverse) M1 := rfl
@[simp] theorem y_putPair {w1 w2 w3 w4 w5 : WE} : wPutPair w1 w2 w3 w4 w5 E ρ M = w1 ρ M fun d M1 => ∃ x y, d = .tup [x, y] ∧ w2 ρ M1 fun o M2 => w3 ρ M2 fun i M3 => dSetA o i x M3 fun M4 => w4 ρ M4 fun o2 M5 => w5 ρ M5 fun i2 M6 => dSetA o2 i2 y M6 fun M7 => E.nx ρ M7 := rfl
@[simp] theorem y_max2 {a b : Int} : dMax [.int a, .int b] M Q = Q (.int (max a b)) M := rfl
@[simp] theorem y_min2 {a b : Int} : dMin [.int a, .int b] M Q = Q (.int (min a b)) M := rfl
@[simp] theorem y_maxL {ds : List D} : dMax [.fl ds] M Q = ∃ ns : List Int, some ds = some (ns.map D.int) ∧ ns ≠ [] ∧ ∀ m, m ∈ ns → (∀ y ∈ ns, y ≤ m) → Q (.int m) M := rfl
@[simp] theorem y_readF {ds : List D} : readL (.fl ds) M = some ds := rfl
theorem y_readR {a : Addr} {ds : List D} (h : M a = some (.lst ds)) : readL (.ref a) M = some ds := by unfold readL; simp only [h]
@[simp] theorem y_entF {ks es : List D} : entD (.fd ks es) M = some (ks.zip es) := rfl
theorem y_entR {a : Addr} {kvs : List (D × D)} {t : Tk} (h : M a = some (.dict kvs t)) : entD (.ref a) M = some kvs := by unfold entD; simp only [h]
@[simp] theorem y_zipm {kvs : List (D × D)} : (kvs.map (·.1)).zip (kvs.map (·.2)) = kvs := zipm kvs
@[simp] theorem y_addFF {xs ys : List D} : dAdd (.fl xs) (.fl ys) M Q = (xs.length + ys.length ≤ sizeLine ∧ Q (.fl (xs ++ ys)) M) := propext ⟨fun ⟨zs, e, h, q⟩ => by cases e; exact ⟨h, q⟩, fun ⟨h, q⟩ => ⟨ys, rfl, h, q⟩⟩
@[simp] theorem y_addT {xs ys : List D} : dAdd (.tup xs) (.tup ys) M Q = (xs.length + ys.length ≤ sizeLine ∧ Q (.tup (xs ++ ys)) M) := rfl
theorem y_addRF {a : Addr} {xs ys : List D} (h : M a = some (.lst xs)) : dAdd (.ref a) (.fl ys) M Q = (xs.length + ys.length ≤ sizeLine ∧ Q (.fl (xs ++ ys)) M) := propext ⟨fun ⟨us, zs, e1, e, h2, q⟩ => by rw [y_readR h] at e1; cases e1; cases e; exact ⟨h2, q⟩, fun ⟨h2, q⟩ => ⟨xs, ys, y_readR h, rfl, h2, q⟩⟩
@[simp] theorem y_lenF {ds : List D} : dLen [.fl ds] M Q = Q (.int ds.length) M := rfl
@[simp] theorem y_lenFd {ks es : List D} : dLen [.fd ks es] M Q = Q (.int ks.length) M := rfl
@[simp] theorem y_ixF {ds : List D} {k : Int} : dIxA (.fl ds) (.int k) M Q = ∃ d, L2.atI ds k = some d ∧ Q d M := rfl
@[simp] theorem y_ixFd {ks es : List D} : dIxA (.fd ks es) d M Q = (keyOk (ks.zip es) d ∧ ∃ e, valD (ks.zip es) d = some e ∧ Q e M) := rfl
@[simp] theorem y_slF {ds : List D} {l h : Option Int} : dSl (.fl ds) l h M Q = Q (.fl (cutD ds l h)) M := rfl
@[simp] theorem y_inF {ds : List D} : dIn f d (.fl ds) M Q = InL f d ds M Q := rfl
@[simp] theorem y_inFd {ks es : List D} : dIn f d (.fd ks es) M Q = (keyOk (ks.zip es) d ∧ Q (.bl (f (valD (ks.zip es) d).isSome)) M) := rfl
@[simp] theorem y_srcF {ds : List D} {k : Src → Prop} : withSrc (.fl ds) M k = k ⟨ds, fun _ => True⟩ := rfl
@[simp] theorem y_srcFd {ks es : List D} {k : Src → Prop} : withSrc (.fd ks es) M k = k ⟨(ks.zip es).map (·.1), fun _ => True⟩ := rfl
@[simp] theorem y_entItF {ks es : List D} {g : List (D × D) → List D} {k : Src → Prop} : withEnt (.fd ks es) M g k = k ⟨g (ks.zip es), fun _ => True⟩ := rfl
theorem y_entIt {a : Addr} {kvs : List (D × D)} {t : Tk} {g : List (D × D) → List D} {k : Src → Prop} (h : M a = some (.dict kvs t)) : withEnt (.ref a) M g k = k ⟨g kvs, stabD a kvs t⟩ := by unfold withEnt; simp only [h]
@[simp] theorem y_items {Q : Src → Mem → Prop} : wItems wa ρ M Q = wa ρ M fun d M1 => withEnt d M1 (fun kvs => kvs.map fun p => .tup [p.1, p.2]) fun src => Q src M1 := rfl
@[simp] theorem y_vals {Q : Src → Mem → Prop} : wVals wa ρ M Q = wa ρ M fun d M1 => withEnt d M1 (fun kvs => kvs.map (·.2)) fun src => Q src M1 := rfl
@[simp] theorem y_revT {w : WE} {Q : Src → Mem → Prop} : wRev w ρ M Q = w ρ M fun d M1 => match d with
  | .tup ds => Q ⟨ds.reverse, fun _ => True⟩ M1
  | .fl ds => Q ⟨ds.reverse, fun _ => True⟩ M1
  | .ref a => match M1 a with
    | some (.lst ds) => Q ⟨ds.reverse, fun M => M a = some (.lst ds)⟩ M1
    | _ => False
  | _ => False := rfl
@[simp] theorem y_tupF {ds : List D} : dTuple [.fl ds] M Q = Q (.tup ds) M := rfl
@[simp] theorem y_listF {ds : List D} : dList [.fl ds] M Q = Q (.fl ds) M := propext ⟨fun ⟨_, _, e, e2, q⟩ => by cases e; cases e2; exact q, fun q => ⟨_, _, rfl, rfl, q⟩⟩
@[simp] theorem y_listT {ds : List D} : dList [.tup ds] M Q = Q (.fl ds) M := propext ⟨fun ⟨_, _, e, e2, q⟩ => by cases e; cases e2; exact q, fun q => ⟨_, _, rfl, rfl, q⟩⟩
@[simp] theorem y_listFd {ks es : List D} : dList [.fd ks es] M Q = Q (.fl ((ks.zip es).map (·.1))) M := propext ⟨fun ⟨_, _, e, e2, q⟩ => by cases e; cases e2; exact q, fun q => ⟨_, _, rfl, rfl, q⟩⟩
@[simp] theorem y_sortF {ds : List D} : dSorted [.fl ds] M Q = (SortOk ds ∧ Q (.fl (sortD ds)) M) := propext ⟨fun ⟨_, _, e, e2, _, h, q⟩ => by cases e; cases e2; exact ⟨h, q⟩, fun ⟨h, q⟩ => ⟨_, _, rfl, rfl, (fun _ z => by cases z), h, q⟩⟩
@[simp] theorem y_trF {ds : List D} : truD (.fl ds) M = some (!ds.isEmpty) := rfl
@[simp] theorem y_trT {ds : List D} : truD (.tup ds) M = some (!ds.isEmpty) := rfl
@[simp] theorem y_isiF {ds : List D} {T : Ty} : isiD T (.fl ds) M = some (tyLe "list" T) := rfl
@[simp] theorem y_isiFd {ks es : List D} {T : Ty} : isiD T (.fd ks es) M = some (tyLe "dict" T) := rfl
theorem y_allF {bs : List Bool} {g : List Bool → Bool} : dAll g [.fl (bs.map D.bl)] M Q = ∃ bs', bs.map D.bl = bs'.map D.bl ∧ Q (.bl (g bs')) M := rfl
theorem y_allQ {bs : List Bool} {g : List Bool → Bool} (q : Q (.bl (g bs)) M) : dAll g [.fl (bs.map D.bl)] M Q := ⟨bs, rfl, q⟩
@[simp] theorem y_dnew : wDnew ρ M Q = ∀ p t, M p = none → Q (.ref p) (mset M p (.dict [] t)) := rfl
@[simp] theorem y_disp1 : wDisp1 wa wb ρ M Q = wa ρ M fun k M1 => wb ρ M1 fun v M2 => fkey k = true ∧ ∀ p t, M2 p = none → Q (.ref p) (mset M2 p (.dict [(k, v)] t)) := rfl
@[simp] theorem y_fld {C : Addr} {n : PySem.Str} : wFld C n wa ρ M Q = wa ρ M fun o M1 => ∃ a fs d, o = .ref a ∧ M1 a = some (.ins C fs) ∧ fs.lookup n = some d ∧ Q d M1 := rfl
@[simp] theorem y_meth {C : Addr} {n : PySem.Str} {sp : DSp} {w : WA} : wMeth C n sp wa w ρ M Q = wa ρ M fun o M1 => ∃ a fs, o = .ref a ∧ M1 a = some (.ins C fs) ∧ fs.lookup n = none ∧ w ρ M1 fun ds M2 => sp (.ref a :: ds) M2 Q := rfl
@[simp] theorem y_make {C : Addr} {sp : DSp} {w : WA} : wMake C sp w ρ M Q = w ρ M fun ds M1 => ∀ x, M1 x = none → sp (.ref x :: ds) (mset M1 x (.ins C [])) fun d M2 => d = .non ∧ Q (.ref x) M2 := rfl
@[simp] theorem y_yes {Q : Bool → Mem → Prop} : wYes ρ M Q = Q true M := rfl
@[simp] theorem y_lc {wi : WI} {t : Tg} {vs : List Nat} {wt : WT} : wLc wi t vs wt wa ρ M Q = wi ρ M fun src M1 => compD src.stab t (wipeE ρ vs) wt wa src.items [] M1 fun acc M2 => ∀ p, M2 p = none → Q (.ref p) (mset M2 p (.lst acc)) := rfl
@[simp] theorem y_it {Q : Src → Mem → Prop} : wIt wa ρ M Q = wa ρ M fun d M1 => withSrc d M1 fun src => Q src M1 := rfl
@[simp] theorem y_next : wNext E ρ M = E.nx ρ M := rfl
@[simp] theorem y_seq {a b : WS} : wSeq a b E ρ M = a { E with nx := b E } ρ M := rfl
@[simp] theorem y_if {c : WT} {a b : WS} : wIf c a b E ρ M = c ρ M fun k M1 => if k = true then a E ρ M1 else b E ρ M1 := rfl
@[simp] theorem y_ret : wRet wa E ρ M = wa ρ M E.rt := rfl
@[simp] theorem y_retN : wRetN E ρ M = E.rt .non M := rfl
@[simp] theorem y_set : wSet i wa E ρ M = wa ρ M fun d M1 => E.nx (ρ.set i (some d)) M1 := rfl
@[simp] theorem y_asg {t : Tg} : wAsg t wa E ρ M = wa ρ M fun d M1 => wTg t d ρ fun ρ' => E.nx ρ' M1 := rfl
@[simp] theorem y_par {w : WA} : wPar i j w E ρ M = w ρ M fun ds M1 => ∃ d e, ds = [d, e] ∧ E.nx ((ρ.set i (some d)).set j (some e)) M1 := rfl
@[simp] theorem y_put : wPut wa wb wc E ρ M = wa ρ M fun v M1 => wb ρ M1 fun o M2 => wc ρ M2 fun i M3 => dSetA o i v M3 fun M4 => E.nx ρ M4 := rfl
@[simp] theorem y_aug {g : W2} : wAug i g wa E ρ M = ∃ d, ρ[i]? = some (some d) ∧ wa ρ M fun e M1 => g d e M1 fun z M2 => E.nx (ρ.set i (some z)) M2 := rfl
@[simp] theorem y_for {wi : WI} {t : Tg} {w : WS} : wFor wi t w E ρ M = wi ρ M fun src M1 => loopD src.stab t w src.items E ρ M1 := rfl
@[simp] theorem y_drop : wDrop wa E ρ M = wa ρ M fun _ M1 => E.nx ρ M1 := rfl
@[simp] theorem y_setfld {C : Addr} {n : PySem.Str} : wSetFld C n wa wb E ρ M = wb ρ M fun d M1 => wa ρ M1 fun o M2 => ∃ a fs, o = .ref a ∧ M2 a = some (.ins C fs) ∧ fs.length < 1000 ∧ E.nx ρ (mset M2 a (.ins C (putFD n d fs))) := rfl
@[simp] theorem y_brk : wBreak E ρ M = E.bk ρ M := rfl
@[simp] theorem y_cont : wCont E ρ M = E.ct ρ M := rfl
@[simp] theorem y_tg1 {Q : Env → Prop} : wTg (.nm i) d ρ Q = Q (ρ.set i (some d)) := rfl
@[simp] theorem y_tgs {is : List Nat} {Q : Env → Prop} : wTg (.tp is) d ρ Q = ∃ ds, d = .tup ds ∧ ds.length = is.length ∧ Q (setL is ds ρ) := rfl
@[simp] theorem y_setL0 {ds : List D} : setL [] ds ρ = ρ := by cases ds <;> rfl
@[simp] theorem y_setL1 {is : List Nat} {ds : List D} : setL (i :: is) (d :: ds) ρ = setL is ds (ρ.set i (some d)) := rfl
@[simp] theorem y_wipe0 : wipeE ρ [] = ρ := rfl
@[simp] theorem y_wipe1 {vs : List Nat} : wipeE ρ (i :: vs) = (wipeE ρ vs).set i none := rfl
@[simp] theorem y_ends1 {Q : DK} : (ends Q).nx ρ M = drops Q .non M := rfl
@[simp] theorem y_ends2 {Q : DK} : (ends Q).rt = drops Q := rfl
@[simp] theorem y_start {n : Nat} {ds : List D} : startD n ds = ds.map some ++ List.replicate (n - ds.length) none := rfl
/-! operators -/
@[simp] theorem y_len1 {z : PySem.Str} : dLen [.str z] M Q = (z.length ≤ sizeLine ∧ Q (.int z.length) M) := rfl
@[simp] theorem y_len2 {ds : List D} : dLen [.tup ds] M Q = Q (.int ds.length) M := rfl
theorem y_lenL {a : Addr} {ds : List D} (h : M a = some (.lst ds)) : dLen [.ref a] M Q = Q (.int ds.length) M := by unfold dLen; simp only [h]
theorem y_lenD {a : Addr} {kvs : List (D × D)} {t : Tk} (h : M a = some (.dict kvs t)) : dLen [.ref a] M Q = Q (.int kvs.length) M := by unfold dLen; simp only [h]
@[simp] theorem y_eqI {a b : Int} : dEq f (.int a) (.int b) M Q = Q (.bl (f (decide (a = b)))) M := rfl
@[simp] theorem y_eqS {a b : PySem.Str} : dEq f (.str a) (.str b) M Q = Q (.bl (f (decide (a = b)))) M := rfl
@[simp] theorem y_eqB {a b : Bool} : dEq f (.bl a) (.bl b) M Q = Q (.bl (f (decide (a = b)))) M := rfl
@[simp] theorem y_lt {a b : Int} : dLt (.int a) (.int b) M Q = Q (.bl (decide (a < b))) M := rfl
@[simp] theorem y_le {a b : Int} : dLe (.int a) (.int b) M Q = Q (.bl (decide (a ≤ b))) M := rfl
@[simp] theorem y_gt {a b : Int} : dGt (.int a) (.int b) M Q = Q (.bl (decide (b < a))) M := rfl
@[simp] theorem y_ge {a b : Int} : dGe (.int a) (.int b) M Q = Q (.bl (decide (b ≤ a))) M := rfl
@[simp] theorem y_add {a b : Int} : dAdd (.int a) (.int b) M Q = Q (.int (a + b)) M := rfl
@[simp] theorem y_addS {a b : PySem.Str} : dAdd (.str a) (.str b) M Q = (a.length + b.length ≤ sizeLine ∧ Q (.str (a ++ b)) M) := rfl
@[simp] theorem y_sub {a b : Int} : dSub (.int a) (.int b) M Q = Q (.int (a - b)) M := rfl
@[simp] theorem y_mul {a b : Int} : dMul (.int a) (.int b) M Q = (CMul a b ∧ Q (.int (a * b)) M) := rfl
@[simp] theorem y_fdiv {a b : Int} : dFdiv (.int a) (.int b) M Q = (CDiv a b ∧ Q (.int (a / b)) M) := rfl
@[simp] theorem y_mod {a b : Int} : dMod (.int a) (.int b) M Q = (0 < b ∧ Q (.int (a % b)) M) := rfl
@[simp] theorem y_pow {a b : Int} : dPow (.int a) (.int b) M Q = (CPow a b ∧ Q (.int (a ^ b.toNat)) M) := rfl
@[simp] theorem y_iadd {a b : Int} : dIAdd (.int a) (.int b) M Q = Q (.int (a + b)) M := rfl
@[simp] theorem y_isN : dIs f d .non M Q = Q (.bl (f (isN d))) M := rfl
@[simp] theorem y_isB {a b : Bool} : dIs f (.bl a) (.bl b) M Q = Q (.bl (f (decide (a = b)))) M := rfl
@[simp] theorem y_ixT {ds : List D} {k : Int} : dIxA (.tup ds) (.int k) M Q = ∃ d, L2.atI ds k = some d ∧ Q d M := rfl
@[simp] theorem y_ixS {z : PySem.Str} {k : Int} : dIxA (.str z) (.int k) M Q = (z.length ≤ sizeLine ∧ ∃ c, L2.atI z.cps.toList k = some c ∧ Q (.str ⟨#[c]⟩) M) := rfl
theorem y_ixL {a : Addr} {ds : List D} {k : Int} (h : M a = some (.lst ds)) : dIxA (.ref a) (.int k) M Q = ∃ d, L2.atI ds k = some d ∧ Q d M := by unfold dIxA; simp only [h]; unfold dIx; simp only [h]
theorem y_ixD {a : Addr} {kvs : List (D × D)} {t : Tk} (h : M a = some (.dict kvs t)) : dIxA (.ref a) d M Q = (keyOk kvs d ∧ ∃ e, valD kvs d = some e ∧ Q e M) := by unfold dIxA; simp only [h]
@[simp] theorem y_slT {ds : List D} {l h : Option Int} : dSl (.tup ds) l h M Q = Q (.tup (cutD ds l h)) M := rfl
@[simp] theorem y_slS {z : PySem.Str} {l h : Option Int} : dSl (.str z) l h M Q = (z.length ≤ sizeLine ∧ Q (.str (cutS z l h)) M) := rfl
@[simp] theorem y_inT {ds : List D} : dIn f d (.tup ds) M Q = ((flatD d = true ∧ ds.all flatD = true ∧ Q (.bl (f (decide (d ∈ ds)))) M) ∨ InT f d ds M Q) := rfl
@[simp] theorem y_inS {z : PySem.Str} : dIn f d (.str z) M Q = ∃ c, d = .str ⟨#[c]⟩ ∧ Q (.bl (f (decide (c ∈ z.cps.toList)))) M := rfl
theorem y_inD {a : Addr} {kvs : List (D × D)} {t : Tk} (h : M a = some (.dict kvs t)) : dIn f d (.ref a) M Q = (keyOk kvs d ∧ Q (.bl (f (valD kvs d).isSome)) M) := by unfold dIn; simp only [h]
theorem y_inL {a : Addr} {ds : List D} (h : M a = some (.lst ds)) : dIn f d (.ref a) M Q = InL f d ds M Q := by unfold dIn; simp only [h]
theorem y_putD {a : Addr} {kvs : List (D × D)} {t : Tk} {Q : Mem → Prop} (h : M a = some (.dict kvs t)) : dSetA (.ref a) d e M Q = (keyOk kvs d ∧ kvs.length < sizeLine ∧ ∀ t, Q (mset M a (.dict (putD kvs d e) t))) := by unfold dSetA; simp only [h]
theorem y_putL {a : Addr} {ds : List D} {Q : Mem → Prop} (h : M a = some (.lst ds)) : dSetA (.ref a) d e M Q = ∃ k j, d = .int k ∧ ixN ds.length k = some j ∧ Q (mset M a (.lst (ds.set j e))) := by unfold dSetA; simp only [h]
@[simp] theorem y_srcT {ds : List D} {k : Src → Prop} : withSrc (.tup ds) M k = k ⟨ds, fun _ => True⟩ := rfl
@[simp] theorem y_srcS {z : PySem.Str} {k : Src → Prop} : withSrc (.str z) M k = k ⟨signs z, fun _ => True⟩ := rfl
theorem y_srcL {a : Addr} {ds : List D} {k : Src → Prop} (h : M a = some (.lst ds)) : withSrc (.ref a) M k = k ⟨ds, fun M => M a = some (.lst ds)⟩ := by unfold withSrc; simp only [h]
theorem y_srcD {a : Addr} {kvs : List (D × D)} {t : Tk} {k : Src → Prop} (h : M a = some (.dict kvs t)) : withSrc (.ref a) M k = k ⟨kvs.map (·.1), stabD a kvs t⟩ := by unfold withSrc; simp only [h]
theorem y_tupL {a : Addr} {ds : List D} (h : M a = some (.lst ds)) : dTuple [.ref a] M Q = Q (.tup ds) M := by unfold dTuple; simp only [h]
@[simp] theorem y_tupT {ds : List D} : dTuple [.tup ds] M Q = Q (.tup ds) M := rfl
theorem y_all {a : Addr} {bs : List Bool} {g : List Bool → Bool} (h : M a = some (.lst (bs.map D.bl))) (q : Q (.bl (g bs)) M) : dAll g [.ref a] M Q := by unfold dAll; simp only [h]; exact ⟨bs, rfl, q⟩
@[simp] theorem y_r1 {Q : Src → Mem → Prop} : wRange1 wa ρ M Q = wa ρ M fun d M1 => match d with
  | .int j => RgOk2 0 j ∧ Q ⟨ranged 0 j.toNat, fun _ => True⟩ M1
  | _ => False := rfl
@[simp] theorem y_r2 {Q : Src → Mem → Prop} : wRange2 wa wb ρ M Q = wa ρ M fun d M1 => wb ρ M1 fun e M2 => match d with
  | .int i => match e with
    | .int j => RgOk2 i j ∧ Q ⟨ranged i (j - i).toNat, fun _ => True⟩ M2
    | _ => False
  | _ => False := rfl
@[simp] theorem y_trB {b : Bool} : truD (.bl b) M = some b := rfl
@[simp] theorem y_trN : truD .non M = some false := rfl
@[simp] theorem y_isi1 {z : PySem.Str} {T : Ty} : isiD T (.str z) M = some (tyLe "str" T) := rfl
@[simp] theorem y_isi2 {z : Int} {T : Ty} : isiD T (.int z) M = some (tyLe "int" T) := rfl
@[simp] theorem y_isi3 {z : List D} {T : Ty} : isiD T (.tup z) M = some (tyLe "tuple" T) := rfl
@[simp] theorem y_isi4 {z : Bool} {T : Ty} : isiD T (.bl z) M = some (tyLe "bool" T) := rfl
@[simp] theorem y_isi5 {T : Ty} : isiD T .non M = some (tyLe "NoneType" T) := rfl
end
theorem ty1 : tyLe "str" .str = true := rfl
@[simp] theorem ty_lit (t : String) (T : Ty) : tyLe t T = (t == T.nm || (t == "bool" && T.nm == "int")) := rfl
@[simp] theorem ty_nm1 : Ty.nm .str = "str" := rfl
@[simp] theorem ty_nm2 : Ty.nm .int = "int" := rfl
@[simp] theorem ty_nm3 : Ty.nm .bool = "bool" := rfl
@[simp] theorem ty_nm4 : Ty.nm .tuple = "tuple" := rfl
@[simp] theorem ty_nm5 : Ty.nm .list = "list" := rfl
@[simp] theorem ty_nm6 : Ty.nm .dict = "dict" := rfl
@[simp ↓] theorem ex_bl {x : Bool} {P : Bool → Prop} : (∃ b, D.bl x = D.bl b ∧ P b) = P x := propext ⟨fun ⟨_, e, p⟩ => by cases e; exact p, fun p => ⟨x, rfl, p⟩⟩
@[simp ↓] theorem ex_tr {x : Bool} {M : Mem} {P : Bool → Prop} : (∃ b, truD (D.bl x) M = some b ∧ P b) = P x := propext ⟨fun ⟨_, e, p⟩ => by cases e; exact p, fun p => ⟨x, rfl, p⟩⟩
@[simp ↓] theorem ex_some {x : Bool} {P : Bool → Prop} : (∃ b, some x = some b ∧ P b) = P x := propext ⟨fun ⟨_, e, p⟩ => by cases e; exact p, fun p => ⟨x, rfl, p⟩⟩
/-- a block that simp does not enter -/
def sq (a b : WS) : WS := wSeq a b
theorem sq_eq : wSeq = sq := rfl
theorem sq1 {a b : WS} {E : DEnds} {ρ : Env} {M : Mem} : sq a b E ρ M = a { E with nx := b E } ρ M := rfl
theorem msame {M : Mem} {a : Addr} {o : MO} : mset M a o a = some o := mset_same
end Fw

set_option Elab.async false
set_option linter.all false
set_option maxRecDepth 100000
set_option maxHeartbeats 4000000
/-! FwData: shared plain data: lines, kinds; comprehensions over encoded lists -/
namespace Fw
open PySem PySem.Spec PyProof.Rows L2
theorem comp_map {α : Type} {stab : Mem → Prop} {t : Tg} {ρ : Env} {wt : WT} {we : WE} {M : Mem} {Q : List D → Mem → Prop} (enc : α → D) (c : α → Bool) (g : α → D) (st : stab M) : ∀ (xs : List α) (acc : List D),
    (∀ a ∈ xs, wTg t (enc a) ρ fun ρ1 => ∀ N : Bool → Mem → Prop, N (c a) M → wt ρ1 M N) → (∀ a ∈ xs, c a = true → wTg t (enc a) ρ fun ρ1 => ∀ N : D → Mem → Prop, N (g a) M → we ρ1 M N) →
    acc.length + xs.length ≤ sizeLine → Q (acc ++ (xs.filter c).map g) M → compD stab t ρ wt we (xs.map enc) acc M Q
  | [], acc, _, _, _, q => by simp at q; exact ⟨M, .refl, st, q⟩
  | x :: xs, acc, h1, h2, hz, q => by
    rw [List.length_cons] at hz
    have ht := h1 x List.mem_cons_self
    have r1 : ∀ y ∈ xs, _ := fun y hy => h1 y (List.mem_cons_of_mem _ hy)
    have r2 : ∀ y ∈ xs, _ := fun y hy => h2 y (List.mem_cons_of_mem _ hy)
    refine ⟨M, .refl, st, ?_⟩
    cases hc : c x with
    | false =>
      have go := comp_map (wt := wt) (we := we) enc c g st xs acc r1 r2 (by omega) (by simpa [hc] using q)
      cases t with
      | nm i => exact ht _ (by rw [hc, if_neg Bool.false_ne_true]; exact go)
      | tp is => obtain ⟨ds, e, l, k⟩ := ht; exact ⟨ds, e, l, k _ (by rw [hc, if_neg Bool.false_ne_true]; exact go)⟩
    | true =>
      have he := h2 x List.mem_cons_self hc
      have go := comp_map (wt := wt) (we := we) enc c g st xs (acc ++ [g x]) r1 r2 (by rw [List.length_append, List.length_singleton]; omega) (by simpa [hc] using q)
      cases t with
      | nm i => exact ht _ (by rw [hc, if_pos rfl]; exact he _ ⟨by omega, go⟩)
      | tp is =>
        obtain ⟨ds, e, l, k⟩ := ht
        obtain ⟨ds2, e2, l2, k2⟩ := he
        obtain rfl : ds = ds2 := by rw [e] at e2; injection e2
        exact ⟨ds, e, l, k _ (by rw [hc, if_pos rfl]; exact k2 _ ⟨by omega, go⟩)⟩
/-- without a test, one name -/
theorem comp_all {α : Type} {stab : Mem → Prop} {i : Nat} {ρ : Env} {we : WE} {M : Mem} {Q : List D → Mem → Prop} (enc : α → D) (g : α → D) {xs : List α} (st : stab M)
    (h : ∀ a ∈ xs, ∀ N : D → Mem → Prop, N (g a) M → we (ρ.set i (some (enc a))) M N) (hz : xs.length ≤ sizeLine) (q : Q (xs.map g) M) : compD stab (.nm i) ρ wYes we (xs.map enc) [] M Q :=
  comp_map enc (fun _ => true) g st xs [] (fun a ha N n => n) (fun a ha _ => h a ha) (by simpa using hz) (by rw [List.nil_append, List.filter_eq_self.mpr fun _ _ => rfl]; exact q)
/-- with a test, one name -/
theorem comp_if {α : Type} {stab : Mem → Prop} {i : Nat} {ρ : Env} {wt : WT} {we : WE} {M : Mem} {Q : List D → Mem → Prop} (enc : α → D) (c : α → Bool) (g : α → D) {xs : List α} (st : stab M)
    (h1 : ∀ a ∈ xs, ∀ N : Bool → Mem → Prop, N (c a) M → wt (ρ.set i (some (enc a))) M N) (h : ∀ a ∈ xs, c a = true → ∀ N : D → Mem → Prop, N (g a) M → we (ρ.set i (some (enc a))) M N) (hz : xs.length ≤ sizeLine) (q : Q ((xs.filter c).map g) M) : compD stab (.nm i) ρ wt we (xs.map enc) [] M Q :=
  comp_map enc c g st xs [] (fun a ha => h1 a ha) (fun a ha hc => h a ha hc) (by simpa using hz) (by simpa using q)
/-- a comprehension with an invariant -/
theorem comp_inv {stab : Mem → Prop} {t : Tg} {ρ : Env} {wt : WT} {we : WE} {Q : List D → Mem → Prop} {xs : List D} (I : List D → List D → Mem → Prop)
    (turn : ∀ done x rest acc M, xs = done ++ x :: rest → I done acc M → ∃ M0, SubM M0 M ∧ stab M0 ∧ wTg t x ρ fun ρ1 => wt ρ1 M0 fun b M1 => if b = true then ∀ N : D → Mem → Prop, (∀ d M2, I (done ++ [x]) (acc ++ [d]) M2 → acc.length < sizeLine ∧ N d M2) → we ρ1 M1 N else I (done ++ [x]) acc M1)
    (fin : ∀ acc M, I xs acc M → ∃ M0, SubM M0 M ∧ stab M0 ∧ Q acc M0) (mono : ∀ ρ1 M0 (P P' : Bool → Mem → Prop), (∀ b M, P b M → P' b M) → wt ρ1 M0 P → wt ρ1 M0 P') : ∀ (ys done acc : List D) (M : Mem), xs = done ++ ys → I done acc M → acc.length ≤ done.length → xs.length ≤ sizeLine → compD stab t ρ wt we ys acc M Q
  | [], done, acc, M, h, hi, _, _ => by rw [List.append_nil] at h; subst h; exact fin acc M hi
  | y :: ys, done, acc, M, h, hi, hl, hz => by
    obtain ⟨M0, s, st, q⟩ := turn done y ys acc M h hi
    refine ⟨M0, s, st, ?_⟩
    have hz' : acc.length < sizeLine := by
      have : xs.length = done.length + (ys.length + 1) := by rw [h]; simp
      omega
    have ih := comp_inv I turn fin mono ys (done ++ [y])
    have body : ∀ ρ1, (wt ρ1 M0 fun b M1 => if b = true then ∀ N : D → Mem → Prop, (∀ d M2, I (done ++ [y]) (acc ++ [d]) M2 → acc.length < sizeLine ∧ N d M2) → we ρ1 M1 N else I (done ++ [y]) acc M1) → wt ρ1 M0 fun b M1 => if b = true then we ρ1 M1 fun d M2 => acc.length < sizeLine ∧ compD stab t ρ wt we ys (acc ++ [d]) M2 Q else compD stab t ρ wt we ys acc M1 Q := fun ρ1 => mono ρ1 M0 _ _ fun b M1 p => by
      cases b with
      | true =>
        rw [if_pos rfl] at p ⊢
        exact p _ fun d M2 hI => ⟨hz', hz', ih (acc ++ [d]) M2 (by rw [h]; simp) hI (by simp; omega) hz⟩
      | false =>
        rw [if_neg Bool.false_ne_true] at p ⊢
        exact ih acc M1 (by rw [h]; simp) p (by simp; omega) hz
    cases t with
    | nm i => exact body _ q
    | tp is => obtain ⟨ds, e, l, k⟩ := q; exact ⟨ds, e, l, body _ k⟩

theorem loop_map' {α : Type} {stab : Mem → Prop} {t : Tg} {wb : WS} {E : DEnds} {xs : List α} (enc : α → D) (I : List α → Env → Mem → Prop)
    (turn : ∀ done x rest, xs = done ++ x :: rest → ∀ ρ M, I done ρ M → ∀ N : Env → Mem → Prop, (∀ ρ M, I (done ++ [x]) ρ M → N ρ M) → ∃ ρ0 M0, SubE ρ0 ρ ∧ SubM M0 M ∧ stab M0 ∧ wTg t (enc x) ρ0 fun ρ1 => wb { nx := N, ct := N, bk := E.nx, rt := E.rt } ρ1 M0)
    (fin : ∀ ρ M, I xs ρ M → ∃ ρ0 M0, SubE ρ0 ρ ∧ SubM M0 M ∧ stab M0 ∧ E.nx ρ0 M0) : ∀ (ys done : List α), xs = done ++ ys → ∀ ρ M, I done ρ M → loopD stab t wb (ys.map enc) E ρ M
  | [], done, h, ρ, M, hi => by rw [List.append_nil] at h; subst h; exact fin ρ M hi
  | y :: ys, done, h, ρ, M, hi => by
    obtain ⟨ρ0, M0, s1, s2, st, q⟩ := turn done y ys h ρ M hi (loopD stab t wb (ys.map enc) E) fun ρ M hi => loop_map' enc I turn fin ys (done ++ [y]) (by rw [h]; simp) ρ M hi
    exact ⟨ρ0, M0, s1, s2, st, q⟩
/-- a loop over a list of encoded things, by what holds behind those that are done -/
theorem loop_map {α : Type} {stab : Mem → Prop} {t : Tg} {wb : WS} {E : DEnds} {xs : List α} (enc : α → D) (I : List α → Env → Mem → Prop) {ρ : Env} {M : Mem} (h0 : I [] ρ M)
    (turn : ∀ done x rest, xs = done ++ x :: rest → ∀ ρ M, I done ρ M → ∀ N : Env → Mem → Prop, (∀ ρ M, I (done ++ [x]) ρ M → N ρ M) → ∃ ρ0 M0, SubE ρ0 ρ ∧ SubM M0 M ∧ stab M0 ∧ wTg t (enc x) ρ0 fun ρ1 => wb { nx := N, ct := N, bk := E.nx, rt := E.rt } ρ1 M0)
    (fin : ∀ ρ M, I xs ρ M → ∃ ρ0 M0, SubE ρ0 ρ ∧ SubM M0 M ∧ stab M0 ∧ E.nx ρ0 M0) : loopD stab t wb (xs.map enc) E ρ M := loop_map' enc I turn fin xs [] rfl ρ M h0
theorem loop_go {stab : Mem → Prop} {t : Tg} {wb : WS} {E : DEnds} {xs : List D} (I : List D → Env → Mem → Prop) {ρ : Env} {M : Mem} (h0 : I [] ρ M)
    (turn : ∀ done x rest, xs = done ++ x :: rest → ∀ ρ M, I done ρ M → ∀ N : Env → Mem → Prop, (∀ ρ M, I (done ++ [x]) ρ M → N ρ M) → ∃ ρ0 M0, SubE ρ0 ρ ∧ SubM M0 M ∧ stab M0 ∧ wTg t x ρ0 fun ρ1 => wb { nx := N, ct := N, bk := E.nx, rt := E.rt } ρ1 M0)
    (fin : ∀ ρ M, I xs ρ M → ∃ ρ0 M0, SubE ρ0 ρ ∧ SubM M0 M ∧ stab M0 ∧ E.nx ρ0 M0) : loopD stab t wb xs E ρ M := loop_inv (xs := xs) I turn fin xs [] rfl ρ M h0
/-- a loop over range(lo, lo + n) -/
theorem loop_range {stab : Mem → Prop} {t : Tg} {wb : WS} {E : DEnds} {lo n : Nat} (I : Nat → Env → Mem → Prop) {ρ : Env} {M : Mem} (h0 : I 0 ρ M)
    (turn : ∀ i, i < n → ∀ ρ M, I i ρ M → ∀ N : Env → Mem → Prop, (∀ ρ M, I (i + 1) ρ M → N ρ M) → ∃ ρ0 M0, SubE ρ0 ρ ∧ SubM M0 M ∧ stab M0 ∧ wTg t (.int ((lo + i : Nat) : Int)) ρ0 fun ρ1 => wb { nx := N, ct := N, bk := E.nx, rt := E.rt } ρ1 M0)
    (fin : ∀ ρ M, I n ρ M → ∃ ρ0 M0, SubE ρ0 ρ ∧ SubM M0 M ∧ stab M0 ∧ E.nx ρ0 M0) : loopD stab t wb (ranged (lo : Int) n) E ρ M := by
  unfold ranged
  refine loop_map (fun i : Nat => D.int ((lo : Int) + (i : Int))) (fun done ρ M => I done.length ρ M) h0 (fun done x rest hx ρ M hi N hN => ?_) (fun ρ M hi => fin ρ M (by simpa using hi))
  have hl : done.length = x := by
    have h1 : (List.range n)[done.length]? = some x := by rw [hx]; simp
    rw [List.getElem?_range (by
      have := congrArg List.length hx
      simp at this
      omega)] at h1
    simpa using h1
  have hlt : x < n := by
    have := congrArg List.length hx
    simp at this
    omega
  subst hl
  have := turn done.length hlt ρ M hi N fun ρ M h => hN ρ M (by simpa using h)
  simpa using this

theorem y_allM {α : Type} {xs : List α} {f : α → Bool} {g : List Bool → Bool} {M : Mem} {Q : DK} (q : Q (.bl (g (xs.map f))) M) : dAll g [.fl (xs.map fun c => D.bl (f c))] M Q := ⟨xs.map f, by rw [List.map_map]; rfl, q⟩
/-! ### lines -/
abbrev Line := List Int
def encL (l : Line) : D := .tup (l.map D.int)
theorem encL_inj {l m : Line} : encL l = encL m ↔ l = m := by
  unfold encL
  constructor
  · intro h
    injection h with h
    have : Function.Injective D.int := fun a b e => by injection e
    exact List.map_inj_right (fun a b e => this e) |>.mp h
  · rintro rfl; rfl
theorem ints_cl : ∀ l : Line, D.cls (l.map D.int) = true
  | [] => by simp [D.cls]
  | i :: l => by simp [D.cls, D.cl, ints_cl l]
theorem ints_dep : ∀ l : Line, D.deps (l.map D.int) = 0
  | [] => by simp [D.deps]
  | i :: l => by simp [D.deps, D.dep, ints_dep l]
theorem encL_cl (l : Line) : (encL l).cl = true := by simp [encL, D.cl, ints_cl]
theorem encL_dep (l : Line) : (encL l).dep = 1 := by simp [encL, D.dep, ints_dep]
mutual
theorem D.nk_cl : ∀ d : D, d.cl = true → ∃ k, d.nk = some k ∧ k.depth = d.dep
  | .non, _ => ⟨.none, by simp [D.nk], by simp [NestedKey.depth, D.dep]⟩
  | .int i, _ => ⟨.num i, by simp [D.nk], by simp [NestedKey.depth, D.dep]⟩
  | .str s, _ => ⟨.text s, by simp [D.nk], by simp [NestedKey.depth, D.dep]⟩
  | .bl b, h => by simp [D.cl] at h
  | .ref b, h => by simp [D.cl] at h
  | .fl b, h => by simp [D.cl] at h
  | .fd b c, h => by simp [D.cl] at h
  | .tup ds, h => by
    obtain ⟨ks, e, d⟩ := D.nks_cl ds (by simpa [D.cl] using h)
    exact ⟨.tup ks, by simp [D.nk, e], by simp [NestedKey.depth, D.dep, d]⟩
theorem D.nks_cl : ∀ ds : List D, D.cls ds = true → ∃ ks, D.nks ds = some ks ∧ NestedKey.depthAll ks = D.deps ds
  | [], _ => ⟨[], by simp [D.nks], by simp [NestedKey.depthAll, D.deps]⟩
  | x :: xs, h => by
    simp only [D.cls, Bool.and_eq_true] at h
    obtain ⟨k, e, d⟩ := D.nk_cl x h.1
    obtain ⟨ks, e2, d2⟩ := D.nks_cl xs h.2
    exact ⟨k :: ks, by simp [D.nks, e, e2], by simp [NestedKey.depthAll, D.deps, d, d2]⟩
end
theorem tkey_cl {ds : List D} (h : (D.tup ds).cl = true) (hd : (D.tup ds).dep ≤ 8) : tkey (.tup ds) = true := by
  obtain ⟨ks, e, d⟩ := D.nks_cl ds (by simpa [D.cl] using h)
  unfold tkey
  simp only [e, decide_eq_true_eq, NestedKey.depth, d]
  simpa [D.dep] using hd
theorem encL_t (l : Line) : tkey (encL l) = true := tkey_cl (encL_cl l) (by rw [show (D.tup (l.map D.int)).dep = 1 from encL_dep l]; decide)
/-! slices -/
theorem cut_to {xs : List D} {n : Nat} : cutD xs none (some (n : Int)) = xs.take n := by
  unfold cutD
  rw [HT.sIx_none, HT.sIx_nat, List.drop_zero, Nat.sub_zero]
  by_cases h : n ≤ xs.length
  · rw [Nat.min_eq_left h]
  · rw [Nat.min_eq_right (by omega), List.take_length, List.take_of_length_le (by omega)]
theorem cut_from {xs : List D} {n : Nat} : cutD xs (some (n : Int)) none = xs.drop n := by
  unfold cutD
  rw [HT.sIx_none, HT.sIx_nat]
  by_cases h : n ≤ xs.length
  · rw [Nat.min_eq_left h, List.take_of_length_le (by rw [List.length_drop]; omega)]
  · rw [Nat.min_eq_right (by omega), List.drop_length, List.drop_of_length_le (by omega)]; simp
theorem cut_two {xs : List D} {n m : Nat} : cutD xs (some (n : Int)) (some (m : Int)) = (xs.take m).drop n := by
  unfold cutD
  rw [HT.sIx_nat, HT.sIx_nat]
  rw [List.drop_take]
  by_cases h : n ≤ xs.length
  · rw [Nat.min_eq_left h]
    by_cases h2 : m ≤ xs.length
    · rw [Nat.min_eq_left h2]
    · rw [Nat.min_eq_right (by omega), List.take_of_length_le (by rw [List.length_drop]; omega), List.take_of_length_le (by rw [List.length_drop]; omega)]
  · rw [Nat.min_eq_right (by omega : xs.length ≤ n), List.drop_length, List.drop_of_length_le (by omega)]; simp
theorem map_take {l : Line} {n : Nat} : (l.map D.int).take n = (l.take n).map D.int := (List.map_take).symm
theorem map_drop {l : Line} {n : Nat} : (l.map D.int).drop n = (l.drop n).map D.int := (List.map_drop).symm
theorem enc_take {l : Line} {n : Nat} : D.tup (cutD (l.map D.int) none (some (n : Int))) = encL (l.take n) := by rw [cut_to, map_take]; rfl
theorem enc_drop {l : Line} {n : Nat} : D.tup (cutD (l.map D.int) (some (n : Int)) none) = encL (l.drop n) := by rw [cut_from, map_drop]; rfl
theorem enc_cut {l : Line} {n m : Nat} : D.tup (cutD (l.map D.int) (some (n : Int)) (some (m : Int))) = encL ((l.take m).drop n) := by rw [cut_two, map_take, map_drop]; rfl
section
variable {l : Line} {n m : Nat} {M : Mem} {Q : DK}
@[simp] theorem y_slL1 : dSl (encL l) none (some (n : Int)) M Q = Q (encL (l.take n)) M := by rw [← enc_take]; rfl
@[simp] theorem y_slL2 : dSl (encL l) (some (n : Int)) none M Q = Q (encL (l.drop n)) M := by rw [← enc_drop]; rfl
@[simp] theorem y_slL3 : dSl (encL l) (some (n : Int)) (some (m : Int)) M Q = Q (encL ((l.take m).drop n)) M := by rw [← enc_cut]; rfl
@[simp] theorem y_slL4 : dSl (encL l) none (some 1) M Q = Q (encL (l.take 1)) M := y_slL1 (n := 1)
@[simp] theorem y_slL5 : dSl (encL l) (some 1) none M Q = Q (encL (l.drop 1)) M := y_slL2 (n := 1)
@[simp] theorem y_lenL' : dLen [encL l] M Q = Q (.int l.length) M := by show Q (.int ((l.map D.int).length : Nat)) M = _; rw [List.length_map]
@[simp] theorem y_srcL' {k : Src → Prop} : withSrc (encL l) M k = k ⟨l.map D.int, fun _ => True⟩ := rfl
@[simp] theorem y_isiL {T : Ty} : isiD T (encL l) M = some (tyLe "tuple" T) := rfl
theorem y_eqL {f : Bool → Bool} {l m : Line} (q : Q (.bl (f (decide (l = m)))) M) : dEq f (encL l) (encL m) M Q := dEq_cl (encL_cl l) (encL_cl m) (by rw [encL_dep]; decide) (by rw [encL_dep]; decide) (by rw [show decide (encL l = encL m) = decide (l = m) from decide_eq_decide.mpr encL_inj]; exact q)
end
end Fw

set_option Elab.async false
set_option linter.all false
set_option maxRecDepth 100000
set_option maxHeartbeats 4000000
/-! FwFill: loops that fill tables -/
namespace Fw
open PySem PySem.Spec PyProof.Rows L2
theorem kysLen {kvs : List (D × D)} : (kys kvs).length = kvs.length := by unfold kys; rw [List.length_map]
theorem szHun : 100000 < sizeLine := by rw [sizeLine_eq]; decide
/-! tables of keys of any kind -/
structure KT {α : Type} (enc : α → D) (kvs : List (D × D)) (S : α → Prop) : Prop where
  nd : (kys kvs).Nodup
  mem : ∀ d, d ∈ kys kvs ↔ ∃ l, S l ∧ d = enc l
structure EncOk {α : Type} (enc : α → D) : Prop where
  inj : ∀ a b, enc a = enc b → a = b
  key : ∀ a, tkey (enc a) = true
section
variable {α : Type} {enc : α → D} {kvs : List (D × D)} {S S' : α → Prop}
theorem KT.nil : KT enc [] fun _ => False := ⟨List.nodup_nil, fun d => by simp [kys]⟩
theorem KT.put {l : α} {v : D} (t : KT enc kvs S) : KT enc (putD kvs (enc l) v) fun m => S m ∨ m = l :=
  ⟨kys_nodup t.nd, fun d => by
    rw [kys_put, t.mem]
    constructor
    · rintro (⟨m, h, rfl⟩ | rfl)
      · exact ⟨m, .inl h, rfl⟩
      · exact ⟨l, .inr rfl, rfl⟩
    · rintro ⟨m, h | rfl, rfl⟩
      · exact .inl ⟨m, h, rfl⟩
      · exact .inr rfl⟩
theorem KT.congr (t : KT enc kvs S) (h : ∀ l, S l ↔ S' l) : KT enc kvs S' := ⟨t.nd, fun d => by rw [t.mem]; exact ⟨fun ⟨l, a, b⟩ => ⟨l, (h l).mp a, b⟩, fun ⟨l, a, b⟩ => ⟨l, (h l).mpr a, b⟩⟩⟩
theorem KT.len (t : KT enc kvs S) {U : List α} (h : ∀ l, S l → l ∈ U) : kvs.length ≤ U.length := by
  rw [← kysLen, ← List.length_map (f := enc) (as := U)]
  exact nodup_le t.nd fun d hd => by
    obtain ⟨l, hl, rfl⟩ := (t.mem d).mp hd
    exact List.mem_map_of_mem (h l hl)
theorem KT.ok (e : EncOk enc) (t : KT enc kvs S) (l : α) : keyOk kvs (enc l) := keyOk_t (e.key l) fun d hd => by
  obtain ⟨m, _, rfl⟩ := (t.mem d).mp hd
  exact e.key m
theorem KT.has (e : EncOk enc) (t : KT enc kvs S) (l : α) : (valD kvs (enc l)).isSome = true ↔ S l := by
  rw [valD_some, decide_eq_true_eq]
  show enc l ∈ kys kvs ↔ _
  rw [t.mem]
  exact ⟨fun ⟨m, h, q⟩ => (e.inj _ _ q) ▸ h, fun h => ⟨l, h, rfl⟩⟩
theorem encL_ok : EncOk encL := ⟨fun _ _ h => encL_inj.mp h, encL_t⟩
/-- the state while a table is filled: the names, the memory, the table, what may be in it -/
structure St (R : Fw.Env → Prop) (p : Addr) (M : Mem) (enc : α → D) (U : List α) (S : α → Prop) (ρ : Fw.Env) (M' : Mem) : Prop where
  env : R ρ
  sub : SubM M M'
  tab : ∃ kvs t, M' p = some (.dict kvs t) ∧ KT enc kvs S
  bnd : ∀ l, S l → l ∈ U
theorem St.congr {R : Fw.Env → Prop} {p : Addr} {M : Mem} {U : List α} {ρ : Fw.Env} {M' : Mem} (s : St R p M enc U S ρ M') (h : ∀ l, S l ↔ S' l) : St R p M enc U S' ρ M' :=
  ⟨s.env, s.sub, let ⟨k, t, e, q⟩ := s.tab; ⟨k, t, e, q.congr h⟩, fun l hl => s.bnd l ((h l).mpr hl)⟩
theorem St.env' {R R' : Fw.Env → Prop} {p : Addr} {M : Mem} {U : List α} {ρ : Fw.Env} {M' : Mem} (s : St R p M enc U S ρ M') (h : ∀ ρ, R ρ → R' ρ) : St R' p M enc U S ρ M' := ⟨h ρ s.env, s.sub, s.tab, s.bnd⟩
/-- one more key -/
theorem St.put {R R' : Fw.Env → Prop} {p : Addr} {M : Mem} {U : List α} {ρ ρ' : Fw.Env} {M' : Mem} {l : α} {v : D} {Q : Mem → Prop} (e : EncOk enc) (hU : U.length ≤ 100000) (hp : M p = none) (s : St R p M enc U S ρ M') (hl : l ∈ U) (hr : R' ρ')
    (k : ∀ M'', St R' p M enc U (fun m => S m ∨ m = l) ρ' M'' → Q M'') : dSetA (.ref p) (enc l) v M' Q := by
  obtain ⟨kvs, t, hm, kt⟩ := s.tab
  rw [y_putD hm]
  have h5 := szHun
  have := kt.len s.bnd
  exact ⟨kt.ok e l, by omega, fun t => k _ ⟨hr, s.sub.set hp, ⟨_, _, mset_same, kt.put⟩, fun m hm => hm.elim (s.bnd m) fun e => e ▸ hl⟩⟩
/-- a loop that fills a table -/
theorem fill_map {β : Type} {stab : Mem → Prop} {tg : Tg} {wb : WS} {E : DEnds} {xs : List β} {R : Fw.Env → Prop} {p : Addr} {M : Mem} {U : List α} {ρ : Fw.Env} {M' : Mem} (encX : β → D) (Add : β → α → Prop) (hst : ∀ M', SubM M M' → stab M') (h0 : St R p M enc U S ρ M')
    (turn : ∀ x ∈ xs, ∀ S' ρ M', St R p M enc U S' ρ M' → ∀ N : Fw.Env → Mem → Prop, (∀ ρ M', St R p M enc U (fun l => S' l ∨ Add x l) ρ M' → N ρ M') → wTg tg (encX x) ρ fun ρ1 => wb { nx := N, ct := N, bk := E.nx, rt := E.rt } ρ1 M')
    (fin : ∀ ρ M', St R p M enc U (fun l => S l ∨ ∃ x ∈ xs, Add x l) ρ M' → E.nx ρ M') : loopD stab tg wb (xs.map encX) E ρ M' := by
  refine loop_map encX (fun done ρ M' => St R p M enc U (fun l => S l ∨ ∃ x ∈ done, Add x l) ρ M') (h0.congr fun l => by simp) ?_ ?_
  · intro done x rest hx ρ M' s N hN
    refine ⟨ρ, M', .refl, .refl, hst _ s.sub, turn x (by rw [hx]; simp) _ ρ M' s N fun ρ2 M2 s2 => hN ρ2 M2 (s2.congr fun l => ?_)⟩
    rw [or_assoc]
    refine or_congr Iff.rfl ?_
    constructor
    · rintro (⟨y, h1, h2⟩ | h)
      · exact ⟨y, by simp [h1], h2⟩
      · exact ⟨x, by simp, h⟩
    · rintro ⟨y, h1, h2⟩
      rw [List.mem_append, List.mem_singleton] at h1
      rcases h1 with h1 | rfl
      · exact .inl ⟨y, h1, h2⟩
      · exact .inr h2
  · intro ρ M' s
    exact ⟨ρ, M', .refl, .refl, hst _ s.sub, fin ρ M' s⟩
theorem fill_range {stab : Mem → Prop} {tg : Tg} {wb : WS} {E : DEnds} {lo n : Nat} {R : Fw.Env → Prop} {p : Addr} {M : Mem} {U : List α} {ρ : Fw.Env} {M' : Mem} (Add : Nat → α → Prop) (hst : ∀ M', SubM M M' → stab M') (h0 : St R p M enc U S ρ M')
    (turn : ∀ i, lo ≤ i → i < lo + n → ∀ S' ρ M', St R p M enc U S' ρ M' → ∀ N : Fw.Env → Mem → Prop, (∀ ρ M', St R p M enc U (fun l => S' l ∨ Add i l) ρ M' → N ρ M') → wTg tg (.int (i : Int)) ρ fun ρ1 => wb { nx := N, ct := N, bk := E.nx, rt := E.rt } ρ1 M')
    (fin : ∀ ρ M', St R p M enc U (fun l => S l ∨ ∃ i, lo ≤ i ∧ i < lo + n ∧ Add i l) ρ M' → E.nx ρ M') : loopD stab tg wb (ranged (lo : Int) n) E ρ M' := by
  have e : ranged (lo : Int) n = (List.range n).map fun i : Nat => D.int ((lo + i : Nat) : Int) := by unfold ranged; simp
  rw [e]
  refine fill_map (fun i : Nat => D.int ((lo + i : Nat) : Int)) (fun i => Add (lo + i)) hst h0 (fun i hi S' ρ M' s N hN => turn (lo + i) (by omega) (by rw [List.mem_range] at hi; omega) S' ρ M' s N hN) fun ρ M' s => fin ρ M' (s.congr fun l => or_congr Iff.rfl ?_)
  constructor
  · rintro ⟨i, h1, h2⟩; rw [List.mem_range] at h1; exact ⟨lo + i, by omega, by omega, h2⟩
  · rintro ⟨i, h1, h2, h3⟩; exact ⟨i - lo, by rw [List.mem_range]; omega, by rw [show lo + (i - lo) = i by omega]; exact h3⟩
theorem St.start {R : Fw.Env → Prop} {p : Addr} {M : Mem} {U : List α} {ρ : Fw.Env} {t : Tk} (hr : R ρ) (hp : M p = none) : St R p M enc U (fun _ => False) ρ (mset M p (.dict [] t)) := ⟨hr, SubM.new hp, ⟨_, _, mset_same, KT.nil⟩, fun _ h => h.elim⟩
end
end Fw

set_option Elab.async false
set_option linter.all false
set_option maxRecDepth 100000
set_option maxHeartbeats 4000000
/-! FwSortK: sorted(.., key=f), f a def -/
namespace Fw
open PySem PySem.Spec PyProof.Rows L2
section
variable {X : Cx} {pins : List (Addr × Obj)} {σ : L2.St} {H : Hp} {s : Shared}
/-- an untracked object of one's own is tracked -/
theorem turnedAt {h' : Heap} {t' : Nat} {ch : List Addr} {T : Addr} {ob : HO} (I : Inv X pins σ H s) (k : ∀ b o, b ∉ ch → s.heap.get? b = some o → h'.get? b = some o) (hf : ∀ b ∈ ch, FpOk X pins H b) (hT : T ∈ ch)
    (new : ObjOk X.prog X.w (upd H T ob) h' T ob) : Inv X pins σ (upd H T ob) { s with heap := h', toks := t' } := by
  have hn : H T = none := (hf T hT).1
  have nit : ∀ b u, H b = some u → b ∉ ch := fun b u e z => by
    have q := (hf b z).1
    rw [q] at e; cases e
  refine I.step (g' := s.gens) (d' := s.drawn) (ch := ch) (fun b hb => ⟨(hf b hb).2.2.2.1, (hf b hb).2.1, (hf b hb).2.2.2.2.1, (hf b hb).2.2.2.2.2⟩) (fun b o _ _ hc e _ => k b o hc e) (fun b o _ _ hc e _ => ⟨o.slots, k b o hc e⟩)
    (fun b o hc e n => ?_) (fun b o hc e => ⟨o, k b o hc e⟩) (fun b xs e => ?_) (fun b o u e => ?_) (fun b ps e => ⟨#[], ?_⟩) (fun m hm => ?_) (fun b u e => ?_) I.bare
  · rw [upd_ne (fun z => hc (by rw [z]; exact hT))]; exact n
  · rw [upd_ne (ne_of_none e hn)]; exact e
  · rw [upd_ne (ne_of_none e hn)]; exact e
  · rw [upd_ne (ne_of_none e hn), e]; simp
  · obtain ⟨o, es, ep, ho, r⟩ := hm
    exact ⟨o, es, ep, k _ o (fun z => (hf _ z).2.1 rfl) ho, r⟩
  · by_cases hb : b = T
    · subst hb; rw [upd_same] at e; cases e; exact new
    · rw [upd_ne hb] at e
      exact (I.hok b u e).stay (fun c v q1 q => k c v (by rcases q1 with z | z; (rw [z]; exact nit b u e); exact nit c _ z) q) (fun c q => by rw [upd_ne (ne_of_none q hn)]; exact q) fun c xs q => by rw [upd_ne (ne_of_none q hn)]; exact q
theorem fp_to {H' : Hp} {b : Addr} (f : FpOk X pins H b) (h : H' b = none) : FpOk X pins H' b := ⟨h, f.2⟩
/-- the key function's promise, where it is used -/
def KeyFn (X : Cx) (f : Addr) (M : Mem) (xs : List D) (key : D → D) : Prop :=
  ∀ (pins : List (Addr × Obj)) (σ : L2.St) (H : Hp) (s : Shared) (v : V) (u : Value) (d : D), d ∈ xs → Inv X pins σ H s → MRel X.prog X.w X.K H M → Rep X.prog X.w X.K H d v → RelV v u →
    wpAny (model X.prog X.w) X.A.in1.in1 (call (.ref f) [u]) (EP X pins σ fun v' H' => Rep X.prog X.w X.K H' (key d) v' ∧ MRel X.prog X.w X.K H' M ∧ Keep H M H' M) (fun _ _ => False) s
theorem key_rest {f a kS : Addr} {e1 : Nat} {us : List Value} {xs : List D} {key : D → D} {M : Mem} {P : PySem.Fin → Shared → Prop} {E : Value → Shared → Prop} (hu : X.A.units + 64 < cLine) (I : Inv X pins σ H s) (m : MRel X.prog X.w X.K H M) (kf : KeyFn X f M xs key)
    (ea : PySem.W.EachIs (RD X H) us xs) (hz : us.length ≤ sizeLine) (so : SortOk (xs.map key)) (fa : FpOk X pins H a) (fk : FpOk X pins H kS) (hka : kS ≠ a) (na : s.heap.get? a = some (seqObj "list" #[] e1)) (nk : s.heap.get? kS = some (seqObj "list" #[] 0))
    (h : ∀ s' H' vs, Inv X pins σ (upd H' a (.lst vs)) s' → MRel X.prog X.w X.K H' M → Keep H M H' M → H' a = none → Reps X.prog X.w X.K H' (xs.mergeSort (PySem.W.dataLe false fun d => (key d).pyd)) vs → P (.done (.ret .none)) s') :
    wpAny (model X.prog X.w) X.A.in1.in1 (ksk_rest a (.ref f) false us.toArray e1 (.ref kS)) P E s := by
  have hl := ea.length
  unfold ksk_rest
  refine wpAny_bind (wpAny_rule ?_)
  first
    | rw [List.forIn_toArray]
    | (rw [← Array.forIn_toList]; simp only [List.toList_toArray])
    | rw [← Array.forIn_toList]
  refine wpAny_bind (ksk_fold (fun i s' => ∃ H' kA e, Inv X pins σ H' s' ∧ MRel X.prog X.w X.K H' M ∧ Keep H M H' M ∧ FpOk X pins H' a ∧ FpOk X pins H' kS ∧ s'.heap.get? kS = some (seqObj "list" kA e) ∧ s'.heap.get? a = some (seqObj "list" #[] e1) ∧ PySem.W.EachIs (RD X H') kA.toList ((xs.take i).map key)) us 0 s
    ⟨H, #[], 0, I, m, .refl, fa, fk, nk, na, by rw [List.take_zero]; exact PySem.W.EachIs.nil⟩ ?step ?done)
  case step =>
    rintro j x s' hx ⟨H', kA, e, I', m', k', fa', fk', nk', na', hk⟩
    simp only [Nat.zero_add] at hk ⊢
    have hj : j < us.length := (List.getElem?_eq_some_iff.mp hx).1
    obtain ⟨d, hd⟩ : ∃ d, xs[j]? = some d := ⟨_, List.getElem?_eq_getElem (by omega)⟩
    have hz2 : kA.size ≤ us.length := by
      have h1 := hk.length
      rw [Array.length_toList, List.length_map, List.length_take] at h1
      omega
    obtain ⟨v, rv, rx⟩ : RD X H x d := ea.zip (x, d) (List.mem_of_getElem? (i := j) (by rw [List.getElem?_zip_eq_some]; exact ⟨hx, hd⟩))
    have rv' := Rep.keep (k'.tup m) _ _ rv
    have Ip := I'.pinned (fp := [a, kS]) (fun b hb => by
      rcases List.mem_cons.mp hb with rfl | hb
      · exact fa'
      · rw [List.mem_singleton] at hb; subst hb; exact fk') (fun b hb => by
      rcases List.mem_cons.mp hb with rfl | hb
      · exact ⟨_, na', fun v => nofun⟩
      · rw [List.mem_singleton] at hb; subst hb; exact ⟨_, nk', fun v => nofun⟩)
    refine wpAny_bind (wpAny_attempt (wpAny_mono (kf _ σ H' s' v x d (List.mem_of_getElem? hd) Ip m' rv' rx) (fun w s'' he => ?_) fun _ _ hF => hF.elim))
    obtain ⟨v2, H2, I2, r2, q1, m2, k2⟩ := he
    have pa := I2.pin (a, seqObj "list" #[] e1) (List.mem_append_right _ (List.mem_append_right _ (mem_pinsAt (by simp) na')))
    have pk := I2.pin (kS, seqObj "list" kA e) (List.mem_append_right _ (List.mem_append_right _ (mem_pinsAt (by simp) nk')))
    have I3 : Inv X pins σ H2 s'' := I2.unpinned
    try dsimp only
    have fa2 := fp_to fa' pa.2.1
    have fk2 := fp_to fk' pk.2.1
    have s1 := Heap.SameBut.update s''.heap kS (Obj.mapSeq (·.push w))
    obtain ⟨c2, hc2⟩ : ∃ c2, (s''.heap.update kS (Obj.mapSeq (·.push w))).get? kS = some (seqObj "list" (kA.push w) c2) := ⟨_, get?_update_seq pk.1 (·.push w)⟩
    have ek : (xs.take (j + 1)).map key = (xs.take j).map key ++ [key d] := by rw [List.take_add_one, hd]; simp
    have eA : (kA.push w).toList = kA.toList ++ [w] := by simp
    obtain ⟨f0, f1, f2, f3, f4, f5⟩ := fk2
    refine wpAny_bind (listUpdate_at pk.1 rfl ?_ (Nat.le_trans hz2 hz) (Nat.le_trans (Nat.le_of_eq (Array.size_push ..)) (Nat.succ_le_succ (Nat.le_trans hz2 hz))))
    refine wpAny_pure ⟨rfl, H2, kA.push w, c2, I3.turned (t' := s''.toks) (fun b o hb e => (s1.2 b hb).trans e) f0 f1 f3 f4 f5, m2, k'.trans k2, fa2, ⟨f0, f1, f2, f3, f4, f5⟩, hc2, (s1.2 a hka.symm).trans pa.1, ?_⟩
    rw [eA, ek]
    refine PySem.W.each_snoc (R := RD X H2) ⟨v2, q1, r2⟩ (hk.mono fun u d ⟨v, h1, h2⟩ => ⟨v, Rep.keep (k2.tup m') _ _ h1, h2⟩)
  case done =>
    rintro s' ⟨H', kA, e, I', m', k', fa', fk', nk', na', hk⟩
    have e3 : xs.take (0 + us.length) = xs := List.take_of_length_le (by omega)
    rw [e3] at hk
    obtain ⟨ps, h1, al, sb, dp⟩ := so
    have em : (xs.map key).map D.pyd = ps := pys_map h1
    have em2 : xs.map (fun d => (key d).pyd) = ps := by rw [← em, List.map_map]; rfl
    have hk2 := each_reads I' h1 hk
    have hk3 : PySem.W.EachIs (fun v k => ∃ as, Reads s'.heap v k as) kA.toList ps := by
      rw [← em]
      exact PySem.W.each_map D.pyd (hk2.mono fun u d q => ⟨[], q⟩)
    have hsz : kA.size = us.length := by
      have h1 := hk.length
      rw [Array.length_toList, List.length_map] at h1
      omega
    try dsimp only
    refine wpAny_bind (listItems_at nk' rfl ?_)
    have sbu := Heap.SameBut.update s'.heap kS (fun o => { o with data := .freed })
    have gone : (s'.heap.update kS (fun o => { o with data := .freed })).get? kS = none := by
      have h2 := nk'
      revert h2
      cases s'.heap with
      | mk objs life =>
        simp only [Heap.update, Heap.get?, Array.getElem?_modify]
        cases objs[kS]? <;> simp
    refine PySem.W.keyH_end (κ := PySem.W.dataKind s'.heap ps) (h₁ := s'.heap.update kS (fun o => { o with data := .freed })) (fun b o hb q => ?_) gone nk' na' hka (PySem.W.SortsAt.data hk3 al sb fun d hd => ?_) hsz hz fun h3 tk3 c k3 n3 => ?_
    · by_cases hbk : b = kS
      · subst hbk; rw [gone] at q; cases q
      · rw [← sbu.2 b hbk]; exact q
    · have := dp d hd
      show X.A.units + 1 + 1 + d.depth < cLine
      omega
    · have eo := PySem.W.keyedOut_each (R := RD X H') (bs := xs) (vs := us) (rev := false) (fun d => (key d).pyd) (out := PySem.W.sortVals (PySem.W.dataKind s'.heap ps) false kA.toList us) ⟨s'.heap, kA.toList, by rw [em2]; exact al, by rw [em2], by rw [em2]; exact hk3⟩ (ea.mono fun u d ⟨v, h1, h2⟩ => ⟨v, Rep.keep (k'.tup m) _ _ h1, h2⟩)
      obtain ⟨vs, r1, r2⟩ := of_each eo
      have hlo : (PySem.W.sortVals (PySem.W.dataKind s'.heap ps) false kA.toList us).length = us.length := PySem.W.sortVals_length false (by rw [Array.length_toList]; exact hsz)
      refine h _ H' vs (turnedAt (ch := [a, kS]) I' (fun b o hb q => ?_) (fun b hb => ?_) (by simp) ?_) m' k' fa'.1 r1
      · rw [List.mem_cons, List.mem_singleton, not_or] at hb
        exact k3 b o hb.1 ((sbu.2 b hb.2).trans q)
      · rcases List.mem_cons.mp hb with rfl | hb
        · exact fa'
        · rw [List.mem_singleton] at hb; subst hb; exact fk'
      · exact ⟨by rw [r2.length, hlo]; exact hz, _, c, r2, n3⟩
/-- the new list's own sort -/
theorem key_tree {f : Addr} {us : List Value} {xs : List D} {key : D → D} {M : Mem} {R : Value → Shared → Prop} {E : Value → Shared → Prop} (hu : X.A.units + 64 < cLine) (I : Inv X pins σ H s) (m : MRel X.prog X.w X.K H M) (kf : KeyFn X f M xs key)
    (ea : PySem.W.EachIs (RD X H) us xs) (hz : us.length ≤ sizeLine) (so : SortOk (xs.map key))
    (h : ∀ s' H' vs, Inv X pins σ (upd H' s.heap.objs.size (.lst vs)) s' → MRel X.prog X.w X.K H' M → Keep H M H' M → H' s.heap.objs.size = none → Reps X.prog X.w X.K H' (xs.mergeSort (PySem.W.dataLe false fun d => (key d).pyd)) vs → R .none s') :
    wpAny (model X.prog X.w) X.A.in1 (call (.builtin "list.sort") [.ref s.heap.objs.size] [(Str.ofString "key", .ref f)]) R E { s with heap := s.heap.push { cls := .type "list", data := .seq us.toArray } } := by
  have ho : (s.heap.push { cls := .type "list", data := .seq us.toArray }).get? s.heap.objs.size = some (seqObj "list" us.toArray 0) := Heap.get?_push_size _ rfl
  have kp : ∀ b o, s.heap.get? b = some o → (s.heap.push { cls := .type "list", data := .seq us.toArray }).get? b = some o := fun b o q => Heap.get?_push_of_some _ q
  have hne : ∀ b o, s.heap.get? b = some o → b ≠ s.heap.objs.size := fun b o q => Nat.ne_of_lt (Heap.lt_size q)
  have hsz : s.heap.objs.size ≤ s.heap.objs.size := Nat.le_refl _
  generalize hg : s.heap.push { cls := .type "list", data := .seq us.toArray } = g at ho kp ⊢
  have hgs : g.objs.size = s.heap.objs.size + 1 := by rw [← hg]; exact Heap.size_push ..
  refine PyProof.Rows.wpAny_call_entry_kw PyProof.Rows.slot_list_sort ⟨_, ho, rfl⟩ PyProof.Rows.entry_list_sort ?_ (ksk_l1 _ _)
  rw [ksk_t1]
  have ha : s.heap.objs.size < g.objs.size := by omega
  obtain ⟨e1, ho1⟩ : ∃ e1, (g.update s.heap.objs.size (Obj.mapSeq fun _ => (#[] : Array Value))).get? s.heap.objs.size = some (seqObj "list" #[] e1) := ⟨_, get?_update_seq ho fun _ => #[]⟩
  have hkS : ((g.update s.heap.objs.size (Obj.mapSeq fun _ => (#[] : Array Value))).push (seqObj "tuple" us.toArray 0)).objs.size = g.objs.size + 1 := by rw [size_push', Heap.size_update]
  unfold ksk_tree
  refine wpAny_bind (listItems_at ho rfl ?_)
  refine wpAny_bind (listUpdate_at ho rfl ?_ (by rw [List.size_toArray]; exact hz) (Nat.zero_le _))
  refine wpAny_bind (seqEpoch_at ho1 rfl ?_)
  refine wpAny_bind (wpAny_newTuple ?_ (by show us.length ≤ _; exact hz))
  refine wpAny_bind (wpAny_newList ?_ (Nat.zero_le _))
  refine wpAny_holding ?_
  have k2 : ∀ b o, s.heap.get? b = some o → (PySem.W.sortingHeap g s.heap.objs.size us).get? b = some o := fun b o q => PySem.W.sortingHeap_old (hne b o q) (kp b o q)
  have I1 : Inv X pins σ H { s with heap := PySem.W.sortingHeap g s.heap.objs.size us, toks := s.toks } := I.kept k2
  have na : H s.heap.objs.size = none := I.hok.fresh hsz
  have nk : H ((g.update s.heap.objs.size (Obj.mapSeq fun _ => (#[] : Array Value))).push (seqObj "tuple" us.toArray 0)).objs.size = none := I.hok.fresh (by rw [hkS]; omega)
  have hk1 : s.heap.objs.size ≤ ((g.update s.heap.objs.size (Obj.mapSeq fun _ => (#[] : Array Value))).push (seqObj "tuple" us.toArray 0)).objs.size := by rw [hkS]; omega
  have hk2 : ((g.update s.heap.objs.size (Obj.mapSeq fun _ => (#[] : Array Value))).push (seqObj "tuple" us.toArray 0)).objs.size ≠ s.heap.objs.size := by rw [hkS]; omega
  have ff : ∀ b, s.heap.objs.size ≤ b → H b = none → FpOk X pins H b := fun b h1 h2 => I.fpOk h1 h2
  refine key_rest (s := { s with heap := PySem.W.sortingHeap g s.heap.objs.size us, toks := s.toks }) hu I1 m kf ea hz so (ff _ hsz na) (ff _ hk1 nk) hk2 (Heap.get?_push_of_some _ (Heap.get?_push_of_some _ ho1)) (Heap.get?_push_size _ rfl) fun s' H' vs I' m' kk n r => ⟨.none, rfl, h s' H' vs I' m' kk n r⟩
/-! ### sorted(d, key=f) -/
def seqD (d : D) (M : Mem) : Option (List D) := match d with
  | .ref a => match M a with
    | some (.lst xs) => some xs
    | some (.dict kvs _) => some (kvs.map (·.1))
    | _ => none
  | .fl xs => some xs
  | .fd ks es => some ((ks.zip es).map (·.1))
  | _ => none
def wSortK (sp : List D → Mem → DK → Prop) (we : WE) : WE := fun ρ M Q => we ρ M fun d M1 => ∃ xs, ∃ key : D → D, seqD d M1 = some xs ∧ SortOk (xs.map key) ∧ (∀ x ∈ xs, ∀ Q' : DK, Q' (key x) M1 → sp [x] M1 Q') ∧ ∀ p, M1 p = none → Q (.ref p) (mset M1 p (.lst (xs.mergeSort (PySem.W.dataLe false fun d => (key d).pyd))))
theorem sortedK_run {f : Addr} {xs : List D} {us : List Value} {r : Value} {key : D → D} {M : Mem} {Q : VK} {Q' : DK} (hu : X.A.units + 64 < cLine) (I : Inv X pins σ H s) (m : MRel X.prog X.w X.K H M) (kf : KeyFn X f M xs key) (ea : PySem.W.EachIs (RD X H) us xs) (ok : SortOk (xs.map key)) (hz : us.length ≤ sizeLine)
    (hcol : ∀ (R : List Value → Shared → Prop) (E' : Value → Shared → Prop), (∀ (h' : Heap) (tk : Nat), (∀ b o, s.heap.get? b = some o → h'.get? b = some o) → R us { s with heap := h', toks := tk }) → wpAny (model X.prog X.w) X.A.in1 (collect r) R E' s)
    (q : ∀ p, M p = none → Q' (.ref p) (mset M p (.lst (xs.mergeSort (PySem.W.dataLe false fun d => (key d).pyd))))) (k : ∀ v H' d' M', Rep X.prog X.w X.K H' d' v → MRel X.prog X.w X.K H' M' → Keep H M H' M' → Q' d' M' → Q v H') :
    wpAny (model X.prog X.w) X.A (call (.builtin "sorted") [r] [(Str.ofString "key", .ref f)]) (EP X pins σ Q) X.xe s := by
  refine sorted_gen (ksk_s1 _ _) hz hcol fun E' h' tk hk => ?_
  have I0 : Inv X pins σ H { s with heap := h', toks := tk } := I.kept hk
  refine key_tree (s := { s with heap := h', toks := tk }) hu I0 m kf ea hz ok fun s' H' vs I' m' k' n r => ?_
  obtain ⟨m2, k2, n2⟩ := m'.alloc (o := .lst vs) (mo := .lst (xs.mergeSort (PySem.W.dataLe false fun d => (key d).pyd))) n fun t => ⟨_, upd_same, Reps.keep t _ _ r⟩
  exact ⟨.ref h'.objs.size, _, I', rfl, k _ _ (.ref h'.objs.size) _ rfl m2 (k'.trans k2) (q _ n2)⟩
/-- the key's promise, of a def -/
theorem key_fn {k : Nat} {x : Str} {sp : DSp} {M : Mem} {xs : List D} {key : D → D} {f : Addr} (c : CalD X.prog X.w X.K X.mg X.base k x sp) (hr : Room (k + 2) X.A) (hm : X.mg x = some (.ref f)) (h : ∀ d ∈ xs, ∀ Q' : DK, Q' (key d) M → sp [d] M Q') : KeyFn X f M xs key := by
  obtain ⟨f', fd, ps, ds, F, hm', kp, b, dv⟩ := c.ex
  rw [hm] at hm'
  cases hm'
  cases dv
  intro pins σ H s v u d hd I m rd rv
  have hsp : lSp X.prog X.w X.K sp [v] H (fun v' H' => Rep X.prog X.w X.K H' (key d) v' ∧ MRel X.prog X.w X.K H' M ∧ Keep H M H' M) C8.E0 := ⟨[d], M, fun d' M' => d' = key d ∧ M' = M, .cons rd rfl, m, h d hd _ ⟨rfl, rfl⟩, fun v' H' d' M' r' m' k' ⟨e1, e2⟩ => by subst e1 e2; exact ⟨r', m', k'⟩⟩
  have hl : ([u] ++ ([] : List Value)).length = ps.length := F.len _ _ _ _ hsp
  refine wpAny_call (codeAny_mono (F.run X.A.in1.in1 X.stack s H ⟨[u], []⟩ ([u] ++ []) [v] _ C8.E0 hr.in1.in1 I.env0.in1.in1 (b s [u] I.kIn hl) (.cons rv .nil) hsp) fun r s' hq => ?_)
  cases r with
  | error e => exact hq
  | ok fl =>
    cases fl with
    | ret u => exact I.after hq
    | next => exact False.elim hq
    | brk => exact False.elim hq
    | cont => exact False.elim hq
theorem seq_rd {H : Hp} {M : Mem} {d : D} {x : V} {ds : List D} (m : MRel X.prog X.w X.K H M) (r : Rep X.prog X.w X.K H d x) (h : seqD d M = some ds) : ∃ a, x = .ref a ∧ ((∃ vs, SqL X.K H a vs ∧ Reps X.prog X.w X.K H ds vs) ∨ ∃ kvs t, RDict X H a kvs t ∧ ds = kvs.map (·.1)) := by
  have hi : itemsD d M = some ds := by
    cases d with
    | tup ys => cases h
    | _ => exact h
  obtain ⟨a, e, hr⟩ := items_rd m r hi
  rcases hr with ⟨vs, _, _, ed⟩ | hr
  · rw [ed] at h; cases h
  · exact ⟨a, e, hr⟩
theorem xSortK {k : Nat} {x : Str} {sp : DSp} {e : Expr} {we : WE} {p p2 pk pos : Pos} (hm : X.mg "sorted" = none) (c : CalD X.prog X.w X.K X.mg X.base k x sp) (hr2 : Room (k + 2) X.A) (he : DEx X e we) (hc : X.calm = true := by rfl) (hg : Gl X "sorted" := by rfl) (hgx : Gl X x := by rfl) (hdx : (x == ("__debug__" : Str)) = false := by decide)
    (hs : starEach [e] X.env = (false, eval e X.env) :: starEach [] X.env := by rfl)
    (h1 : backTo pos (starEach [e] X.env) = (false, eval e X.env) :: backTo pos (starEach [] X.env) := by rfl) (h2 : (backTo pos (starEach [e] X.env)).any (·.1) = false := by rfl)
    (h3 : (backToKw pos (keywordEach [⟨some (Str.ofString "key"), .Name x p2, pk⟩] X.env)).all (·.1.isSome) = true := by rfl) (h4 : (backToKw pos (keywordEach [⟨some (Str.ofString "key"), .Name x p2, pk⟩] X.env)).any (·.1.isNone) = false := by rfl) (h5 : (backToKw pos (keywordEach [⟨some (Str.ofString "key"), .Name x p2, pk⟩] X.env)).filterMap (·.1) = [Str.ofString "key"] := by rfl) :
    DEx X (.Call (.Name "sorted" p) [e] [⟨some (Str.ofString "key"), .Name x p2, pk⟩] pos) (wSortK sp we) := by
  obtain ⟨f, fd, ps, ds, F, hmx, kp, b, dv⟩ := c.ex
  refine pe_imp (pe_callBK (ks := [Str.ofString "key"]) (r := fun vs zs H Q => zs = [.ref f] ∧ rOfL X (fun ds M Q => ∃ d, ds = [d] ∧ ∃ xs, ∃ key : D → D, seqD d M = some xs ∧ SortOk (xs.map key) ∧ (∀ x ∈ xs, ∀ Q' : DK, Q' (key x) M → sp [x] M Q') ∧ ∀ p, M p = none → Q (.ref p) (mset M p (.lst (xs.mergeSort (PySem.W.dataLe false fun d => (key d).pyd))))) vs H Q) ?_ hg hm bt_sorted (pa_cons he pa_nil hs) (pk_cons (pe_glob (v := .ref f) hgx hmx rfl hdx) pk_nil) (by decide) (by decide) h1 h2 h3 h4 h5) ?_
  · intro pins s σ H vs zs us ws Q I rv rz ⟨ez, hq⟩
    subst ez
    obtain ⟨w1, rfl, e1⟩ := vals1 rz
    cases (show w1 = Value.ref f from e1)
    obtain ⟨M, ds, Q', m, rs, ⟨d, rfl, xs, key, hs, so, hk, q⟩, k⟩ := hq
    obtain ⟨v, rfl, rd⟩ := reps1 rs
    obtain ⟨u, rfl, ru⟩ := vals1 rv
    have kf := key_fn c hr2 hmx hk
    obtain ⟨a, rfl, hr⟩ := seq_rd m rd hs
    cases (show u = Value.ref a from ru)
    rcases hr with ⟨vs, hl, r⟩ | ⟨kvs, t, ce, rfl⟩
    · obtain ⟨its, rv, pl, hz⟩ := I.list hl
      have l := rv.length
      exact sortedK_run hr2.units I m kf (each_of r rv) so (by omega) (fun R E' h => collect_kept_list pl.isList (by omega) h) q k
    · obtain ⟨o, ho, hx, hd⟩ := dict_raw I ce
      obtain ⟨ea, hz⟩ := keys_each ce
      exact sortedK_run hr2.units I m kf ea so (by rw [List.length_map, Array.length_toList]; exact hz) (fun R E' h => collect_kept_dict (I.ok.hd hc) (dict_neq ce) ho hx hd hz h) q k
  · intro σ H Q ⟨ρ, M, Q', R, q, k⟩
    exact ⟨ρ, M, _, R, q, fun v H1 d M1 r1 m1 k1 ⟨xs, key, h1, h2, h3, h4⟩ => ⟨rfl, M1, [d], Q', m1, .cons r1 rfl, ⟨d, rfl, xs, key, h1, h2, h3, h4⟩, fun v H2 d2 M2 r2 m2 k2 q2 => k v H2 d2 M2 r2 m2 (k1.trans k2) q2⟩⟩
end
end Fw

set_option Elab.async false
set_option linter.all false
set_option maxRecDepth 100000
set_option maxHeartbeats 4000000
/-! FwForL: for a, b in a list of lists -/
namespace Fw
open PySem PySem.Spec PyProof.Rows L2
def loopL (stab : Mem → Prop) (is : List Nat) (wb : WS) : List D → DEnds → Env → Mem → Prop
  | [], E, ρ, M => ∃ ρ0 M0, SubE ρ0 ρ ∧ SubM M0 M ∧ stab M0 ∧ E.nx ρ0 M0
  | x :: xs, E, ρ, M => ∃ ρ0 M0 a ds, SubE ρ0 ρ ∧ SubM M0 M ∧ stab M0 ∧ x = .ref a ∧ M0 a = some (.lst ds) ∧ ds.length = is.length ∧ wb { nx := loopL stab is wb xs E, ct := loopL stab is wb xs E, bk := E.nx, rt := E.rt } (setL is ds ρ0) M0
def wForL (wi : WI) (is : List Nat) (wb : WS) : WS := fun E ρ M => wi ρ M fun src M1 => loopL src.stab is wb src.items E ρ M1
@[simp] theorem y_forL {wi : WI} {is : List Nat} {w : WS} {E : DEnds} {ρ : Env} {M : Mem} : wForL wi is w E ρ M = wi ρ M fun src M1 => loopL src.stab is w src.items E ρ M1 := rfl
section
variable {X : Cx}
theorem ds_forL {tg iter : Expr} {body : List Stmt} {pos : Pos} {wi : WI} {is : List Nat} {wb : WS} (hp : PassesOwn (model X.prog X.w) X.A X.env X.xe) (hc : X.calm = true) (hi : DI X tg iter wi) (hg : PG X tg (gLst X.K is.length (lvT is))) (hb : DSs X body wb)
    (hs : ∀ x, foldedSetIterable iter X.env x = pure x) : DSt X (.For tg iter body [] pos) (wForL wi is wb) := ps_imp (ps_for hp hc hi hg hb hs) fun D σ H ⟨ρ, M, D', R, q, le⟩ =>
  ⟨ρ, M, _, R, q, fun J H1 src M1 m1 k1 ok q1 => by
    refine ⟨fun i m σ H => m = src.items.length - i ∧ i ≤ src.items.length ∧ ∃ ρ M, Rl X σ H ρ M ∧ Keep H1 M1 H M ∧ loopL src.stab is wb (src.items.drop i) D' ρ M, ⟨_, rfl, Nat.zero_le _, ρ, M1, R.next m1 k1, .refl, by rw [List.drop_zero]; exact q1⟩, ?_⟩
    rintro i m σ H ⟨rfl, hi, ρ, M, R2, k2, q2⟩
    by_cases hlt : i < src.items.length
    · rw [drop_cons hlt] at q2
      obtain ⟨ρ0, M0, a, ds, s1, s2, st, ex, ha, hl, q2⟩ := q2
      have R3 := R2.sub s1 s2
      have k3 : Keep H1 M1 H M0 := k2.subR s2
      refine .inr ⟨ok.go i H M0 R3.mem k3 st hlt, fun σ' H' => ∃ ρ' M', Rl X σ' H' ρ' M' ∧ Keep H1 M1 H' M' ∧ loopL src.stab is wb (src.items.drop (i + 1)) D' ρ' M', fun σ' H' p => ⟨_, by omega, rfl, hlt, p⟩, fun x H' y => ?_⟩
      obtain ⟨d, hd, rd, m', k'⟩ := ok.yld i H M0 x H' R3.mem k3 st hlt y
      rw [List.getElem?_eq_getElem hlt] at hd
      cases hd
      rw [ex] at rd
      cases (show x = .ref a from rd)
      obtain ⟨vs, hh, rs⟩ := m' a _ ha
      have k4 : Keep H1 M1 H' M0 := k3.trans k'
      have rl := rs.length
      refine ⟨a, vs, rfl, .of hh, by omega, by omega, ?_⟩
      exact ⟨_, M0, _, (R3.next m' k').setL rs, q2, ⟨fun σ' H'' ρ' M' r k q => ⟨ρ', M', r, k4.trans k, q⟩, fun v H'' d M' r m k q => le.rt _ _ _ _ r m (k1.trans (k4.trans k)) q, fun σ' H'' ρ' M' r k q => le.nx _ _ _ _ r (k1.trans (k4.trans k)) q, fun σ' H'' ρ' M' r k q => ⟨ρ', M', r, k4.trans k, q⟩⟩⟩
    · have e : i = src.items.length := by omega
      subst e
      rw [List.drop_length] at q2
      obtain ⟨ρ0, M0, s1, s2, st, q2⟩ := q2
      have R3 := R2.sub s1 s2
      have k3 : Keep H1 M1 H M0 := k2.subR s2
      exact .inl ⟨ok.stop H M0 R3.mem k3 st, le.nx _ _ _ _ R3 (k1.trans k3) q2⟩⟩
theorem sForL {tg iter : Expr} {body : List Stmt} {pos : Pos} {wi : WI} {is : List Nat} {wb : WS} (hi : DI X tg iter wi) (hg : PG X tg (gLst X.K is.length (lvT is))) (hb : DSs X body wb) (hp : PassesOwn (model X.prog X.w) X.A X.env X.xe := by exact PySem.PassesOwn.never) (hc : X.calm = true := by rfl) (hs : ∀ x, foldedSetIterable iter X.env x = pure x := by intro _; rfl) : DSt X (.For tg iter body [] pos) (wForL wi is wb) := ds_forL hp hc hi hg hb hs
theorem gL {ts : List Expr} {j : Nat} {is : List Nat} {pos : Pos} (h : PGs X ts (lvT is)) (hc : X.calm = true := by rfl) (hn : (assignEach ts X.env).length = is.length := by rfl) (hst : (assignEach ts X.env).findIdx? (·.1) = none := by rfl) : PG X (.Tuple ts j pos) (gLst X.K is.length (lvT is)) := pg_lst hc h hn hst
end
theorem loop_mapL' {stab : Mem → Prop} {is : List Nat} {wb : WS} {E : DEnds} {xs : List D} (I : List D → Env → Mem → Prop)
    (turn : ∀ done x rest, xs = done ++ x :: rest → ∀ ρ M, I done ρ M → ∀ N : Env → Mem → Prop, (∀ ρ M, I (done ++ [x]) ρ M → N ρ M) → ∃ ρ0 M0 a ds, SubE ρ0 ρ ∧ SubM M0 M ∧ stab M0 ∧ x = .ref a ∧ M0 a = some (.lst ds) ∧ ds.length = is.length ∧ wb { nx := N, ct := N, bk := E.nx, rt := E.rt } (setL is ds ρ0) M0)
    (fin : ∀ ρ M, I xs ρ M → ∃ ρ0 M0, SubE ρ0 ρ ∧ SubM M0 M ∧ stab M0 ∧ E.nx ρ0 M0) : ∀ (ys done : List D), xs = done ++ ys → ∀ ρ M, I done ρ M → loopL stab is wb ys E ρ M
  | [], done, h, ρ, M, hi => by rw [List.append_nil] at h; subst h; exact fin ρ M hi
  | y :: ys, done, h, ρ, M, hi => by
    obtain ⟨ρ0, M0, a, ds, s1, s2, st, e1, e2, e3, q⟩ := turn done y ys h ρ M hi (loopL stab is wb ys E) fun ρ M hi => loop_mapL' I turn fin ys (done ++ [y]) (by rw [h]; simp) ρ M hi
    exact ⟨ρ0, M0, a, ds, s1, s2, st, e1, e2, e3, q⟩
theorem loop_L {stab : Mem → Prop} {is : List Nat} {wb : WS} {E : DEnds} {xs : List D} {ρ : Env} {M : Mem} (I : List D → Env → Mem → Prop) (h0 : I [] ρ M)
    (turn : ∀ done x rest, xs = done ++ x :: rest → ∀ ρ M, I done ρ M → ∀ N : Env → Mem → Prop, (∀ ρ M, I (done ++ [x]) ρ M → N ρ M) → ∃ ρ0 M0 a ds, SubE ρ0 ρ ∧ SubM M0 M ∧ stab M0 ∧ x = .ref a ∧ M0 a = some (.lst ds) ∧ ds.length = is.length ∧ wb { nx := N, ct := N, bk := E.nx, rt := E.rt } (setL is ds ρ0) M0)
    (fin : ∀ ρ M, I xs ρ M → ∃ ρ0 M0, SubE ρ0 ρ ∧ SubM M0 M ∧ stab M0 ∧ E.nx ρ0 M0) : loopL stab is wb xs E ρ M := loop_mapL' I turn fin xs [] rfl ρ M h0
end Fw

set_option Elab.async false
set_option linter.all false
set_option maxRecDepth 100000
set_option maxHeartbeats 4000000
/-! FwHead: the head's facts, no list of the module's own; the script -/
namespace Fw
open PySem PySem.Spec PyProof.Rows L2

def isLst (o : Obj) : Bool := match o.cls with
  | .type c => decide (c = "list")
  | _ => false
def noLst (K : PySem.W.Frag) : Bool := K.all fun p => !isLst p.2
theorem noLst_ok {K : PySem.W.Frag} (h : noLst K = true) {a : Addr} {o : Obj} (e : K.lookup a = some o) (hc : o.cls = .type "list") : False := by
  have m : (a, o) ∈ K := by
    have : ∀ L : List (Addr × Obj), L.lookup a = some o → (a, o) ∈ L := fun L => by
      induction L with
      | nil => intro z; cases z
      | cons p r ih =>
        intro z
        obtain ⟨b, q⟩ := p
        rw [List.lookup_cons] at z
        cases c : a == b with
        | true => rw [c] at z; cases z; rw [eq_of_beq c]; exact List.mem_cons_self
        | false => rw [c] at z; exact List.mem_cons_of_mem _ (ih z)
    exact this K e
  have h1 := List.all_eq_true.mp h _ m
  simp only at h1
  unfold isLst at h1
  rw [hc] at h1
  simp at h1
def obsB (fa : List He.Fa) (fn : List He.DefD) (K : PySem.W.Frag) : Bool × He.AlD := (noLst K, He.obsD fa fn K)
def obsN (n : Nat) (fa : List He.Fa) (fn : List He.DefD) (g : Addr → Option Obj) : Bool × He.AlD := obsB fa fn (He.frG g (He.asD g n))
def hookN (n : Nat) (fa : List He.Fa) (fn : List He.DefD) : PySem.W.Hook where
  α := Bool × He.AlD
  obs := fun s => obsN n fa fn s.heap.get?
  val := fun _ => (true, He.valD fn)
  says := fun _ h => ∃ K : PySem.W.Frag, K.In h ∧ noLst K = true ∧ He.SaysD fa fn K
  of := fun _ _ e => ⟨_, He.frG_in, congrArg (fun z : Bool × He.AlD => z.1) e, congrArg (fun z : Bool × He.AlD => z.2) e⟩
  keeps := fun _ _ _ ⟨K, hK, c⟩ k => ⟨K, PySem.W.Frag.In.keeps hK k, c⟩
theorem obsN_eq {n : Nat} {fa : List He.Fa} {fn : List He.DefD} {g : Addr → Option Obj} {s : Shared} (h : ∀ a, g a = s.heap.get? a) : obsN n fa fn g = (hookN n fa fn).obs s := by
  have e : g = s.heap.get? := funext h
  rw [e] <;> rfl

theorem MetD.mono {P : Program} {w : World} {K : PySem.W.Frag} {mg : Str → Option Value} {base : Heap} {C : Addr} {m : Str} {sp : DSp} {j k : Nat} (c : MetD P w K mg base j C m sp) (h : j ≤ k) : MetD P w K mg base k C m sp :=
  let ⟨f, fd, ps, ds, c1, c2, F, b, d⟩ := c.ex; ⟨f, fd, ps, ds, c1, c2, F.mono h, b, d⟩
theorem MakD.mono {P : Program} {w : World} {K : PySem.W.Frag} {mg : Str → Option Value} {base : Heap} {C : Addr} {x : Str} {sp : DSp} {j k : Nat} (c : MakD P w K mg base j x C sp) (h : j ≤ k) : MakD P w K mg base k x C sp :=
  let ⟨f, fd, ps, ds, c1, F, c2, b, d⟩ := c.ex; ⟨f, fd, ps, ds, c1, F.mono h, c2, b, d⟩
theorem vac {X : Cx} {st : List Stmt} : DSs X st fun _ _ _ => False := ⟨fun _ _ _ _ _ _ ⟨_, _, _, _, f, _⟩ => f.elim⟩

def sp_law : DSp := fun ds M Q => ∃ ns : List Int, ds = [.fl (ns.map D.int)] ∧ ∀ M', Q (.bl true) M'
theorem sp_script {P : Program} {w : World} {K : PySem.W.Frag} {H : Hp} {a : Addr} {ns : List Int} {E : XK} (nl : noLst K = true) (hO : Only H) (hS : SqL K H a (ns.map V.int)) : lSp P w K sp_law [.ref a] H (fun v _ => v = .bl true) E := by
  have hf : FzL H a (ns.map V.int) := by
    rcases hS with (r | r) | ⟨o, _, _, e, hc, _⟩
    · rcases hO a with z | ⟨o, xs, z⟩
      · rw [r] at z; cases z
      · rw [r] at z; cases z
    · exact r
    · exact (noLst_ok nl e hc).elim
  exact ⟨[.fl (ns.map D.int)], fun _ => none, fun d _ => d = .bl true, .cons ⟨a, _, rfl, hf, Reps.ints⟩ .nil, (fun b mo e => by cases e), ⟨ns, rfl, fun _ => rfl⟩, (fun v H' d M' r _ _ q => by
    have q : d = .bl true := q
    subst q
    exact r)⟩
end Fw

set_option Elab.async false
set_option linter.all false
set_option maxRecDepth 100000
set_option maxHeartbeats 4000000
/-! printed by gen.py: the walks of fractionwords_k88_whole_moves_keep_holdi -/
namespace F83
open PySem PySem.Spec PyProof.Rows L2 Fw
def top (i : Nat) : Stmt := PySem.Challenge.pw_fractionwords_k88_whole_moves_keep_holdi.main.body.getD i (.Pass ⟨0, 0, 0, 0⟩)
def mth (i j : Nat) : Stmt := (C8.clsBody (top i)).getD j (.Pass ⟨0, 0, 0, 0⟩)
structure G (K : PySem.W.Frag) (mg : PySem.Str → Option Value) (C_Truth : Addr) : Prop where
  b_abs : mg "abs" = none
  b_all : mg "all" = none
  b_any : mg "any" = none
  b_bool : mg "bool" = none
  b_int : mg "int" = none
  b_isinstance : mg "isinstance" = none
  b_len : mg "len" = none
  b_list : mg "list" = none
  b_max : mg "max" = none
  b_min : mg "min" = none
  b_range : mg "range" = none
  b_reversed : mg "reversed" = none
  b_sorted : mg "sorted" = none
  b_str : mg "str" = none
  b_tuple : mg "tuple" = none
  c_LETTERS : ∃ t, mg "LETTERS" = some (.str "abcdefghijklmnopqrstuvwxyz" t)
  c_DIGITS : ∃ t, mg "DIGITS" = some (.str "0123456789" t)
  c_MOST_IN_NAME : ∃ t, mg "MOST_IN_NAME" = some (.int 8 t)
  c_MOST_IN_NUMBER : ∃ t, mg "MOST_IN_NUMBER" = some (.int 6 t)
  c_MOST_LINES : ∃ t, mg "MOST_LINES" = some (.int 100 t)
  c_MOST_MARKS : ∃ t, mg "MOST_MARKS" = some (.int 80 t)
  c_LAST_MARK : ∃ t, mg "LAST_MARK" = some (.int 999999 t)
  cls_Truth : Cls K C_Truth
  n_Truth_banned : NoAttr K C_Truth "banned"
  n_Truth_bans : NoAttr K C_Truth "bans"
/-! is_atom_number -/
abbrev st_is_atom_number : Stmt := top 5
abbrev sc_is_atom_number : Scope := defScope st_is_atom_number
abbrev nm_is_atom_number : List PySem.Str := [("text" : PySem.Str), ("char" : PySem.Str)]
abbrev ps_is_atom_number : List PySem.Str := [("text" : PySem.Str)]
theorem nd_is_atom_number : nm_is_atom_number.Nodup := by decide +kernel
theorem fs_is_atom_number : FnScope nm_is_atom_number ps_is_atom_number sc_is_atom_number := ⟨rfl, rfl, rfl, nd_is_atom_number, rfl, by decide +kernel, by decide +kernel⟩
def w_is_atom_number : WS :=
  (wSeq (wIf (wOrT (wNotT (wB (wChain dLe dLe (wC (.int 1)) (wCall dLen (wCons (wVar 0) wNil)) (wC (.int 6))))) (wB (wBin (dEq id) (wBin dIxA (wVar 0) (wC (.int 0))) (wC (.str "0"))))) (wRet (wC (.bl false))) wNext)
    (wRet (wCall (dAll fun bs => bs.all id) (wCons (wLcF (wIt (wVar 0)) (.nm 1) [1] wYes (wBin (dIn id) (wVar 1) (wC (.str "0123456789")))) wNil))))
theorem b_is_atom_number {P : Program} {w : World} {K : PySem.W.Frag} {mg : PySem.Str → Option Value} {base : Heap} {k : Nat} {f : Addr} {C_Truth : Addr} (g : G K mg C_Truth) (cdv : Value) (A : Around) (outer : List PySem.Env) (s : Shared) (H : Hp) (E : XK) (hr : Room k (A.deeper (envOfC "is_atom_number" sc_is_atom_number s.heap.objs.size f cdv))) :
    DSs (cx P w K mg base nm_is_atom_number "is_atom_number" sc_is_atom_number f cdv A outer s H E) (defBody st_is_atom_number) (w_is_atom_number) :=
  (dss_cons (ds_if (tW (dw_or (dt_not (tLeLe xInt (xBi call_lenR lift_len boot_len g.b_len (xArg (xV 0) da_nil)) (xGI g.c_MOST_IN_NUMBER))) (dw_or1 (tEq hr (xIx hr (xV 0) xInt) xStr)))) (dss_one (ds_ret xBl)) dss_nil)
    (dss_one (ds_ret (xBi (cr_all rfl) lift_all bt_all g.b_all (xArg (xLcF (own := [(("char" : PySem.Str), 1)]) nd_is_atom_number (show BlkOk nm_is_atom_number sc_is_atom_number _ [(("char" : PySem.Str), 1)] from blk (by decide +kernel)) (di_expr (xV 0)) (fun _ _ _ _ _ => (gN 1 nd_is_atom_number)) (fun _ _ _ _ _ => dts_nil) (fun _ _ _ _ _ => (xIn hr (xV 1) (xGS g.c_DIGITS)))) da_nil)))))
/-! is_atom -/
abbrev st_is_atom : Stmt := top 6
abbrev sc_is_atom : Scope := defScope st_is_atom
abbrev nm_is_atom : List PySem.Str := [("thing" : PySem.Str), ("base" : PySem.Str), ("dot" : PySem.Str), ("number" : PySem.Str), ("char" : PySem.Str)]
abbrev ps_is_atom : List PySem.Str := [("thing" : PySem.Str)]
theorem nd_is_atom : nm_is_atom.Nodup := by decide +kernel
theorem fs_is_atom : FnScope nm_is_atom ps_is_atom sc_is_atom := ⟨rfl, rfl, rfl, nd_is_atom, rfl, by decide +kernel, by decide +kernel⟩
def w_is_atom (sp_is_atom_number : DSp) : WS :=
  (wSeq (wIf (wNotT (wTru (wIsi .str (wVar 0)))) (wRet (wC (.bl false))) wNext)
    (wSeq (wAsg (.tp [1, 2, 3]) (wPtn (wVar 0) (wC (.str "."))))
    (wSeq (wIf (wOrT (wNotT (wB (wChain dLe dLe (wC (.int 1)) (wCall dLen (wCons (wVar 1) wNil)) (wC (.int 8))))) (wB (wBin (dIn not) (wBin dIxA (wVar 1) (wC (.int 0))) (wC (.str "abcdefghijklmnopqrstuvwxyz"))))) (wRet (wC (.bl false))) wNext)
    (wSeq (wIf (wNotT (wTru (wCall (dAll fun bs => bs.all id) (wCons (wLcF (wIt (wVar 1)) (.nm 4) [4] wYes (wOrV (wBin (dIn id) (wVar 4) (wC (.str "abcdefghijklmnopqrstuvwxyz"))) (wBin (dIn id) (wVar 4) (wC (.str "0123456789"))))) wNil)))) (wRet (wC (.bl false))) wNext)
    (wRet (wOrV (wBin (dEq id) (wVar 2) (wC (.str ""))) (wCall sp_is_atom_number (wCons (wVar 3) wNil))))))))
theorem b_is_atom {P : Program} {w : World} {K : PySem.W.Frag} {mg : PySem.Str → Option Value} {base : Heap} {k : Nat} {f : Addr} {C_Truth : Addr} (g : G K mg C_Truth) {sp_is_atom_number : DSp} (h_is_atom_number : CalD P w K mg base k "is_atom_number" sp_is_atom_number) (cdv : Value) (A : Around) (outer : List PySem.Env) (s : Shared) (H : Hp) (E : XK) (hr : Room k (A.deeper (envOfC "is_atom" sc_is_atom s.heap.objs.size f cdv))) :
    DSs (cx P w K mg base nm_is_atom "is_atom" sc_is_atom f cdv A outer s H E) (defBody st_is_atom) (w_is_atom sp_is_atom_number) :=
  (dss_cons (ds_if (dt_not (tV (xIsi .str g.b_isinstance g.b_str (xV 0)))) (dss_one (ds_ret xBl)) dss_nil)
    (dss_cons (sAsg (de_partition (xV 0) xStr) (gG (pgs1 (gN 1 nd_is_atom) (pgs1 (gN 2 nd_is_atom) (pgs1 (gN 3 nd_is_atom) pgs0)))))
    (dss_cons (ds_if (tW (dw_or (dt_not (tLeLe xInt (xBi call_lenR lift_len boot_len g.b_len (xArg (xV 1) da_nil)) (xGI g.c_MOST_IN_NAME))) (dw_or1 (tNIn hr (xIx hr (xV 1) xInt) (xGS g.c_LETTERS))))) (dss_one (ds_ret xBl)) dss_nil)
    (dss_cons (ds_if (dt_not (tV (xBi (cr_all rfl) lift_all bt_all g.b_all (xArg (xLcF (own := [(("char" : PySem.Str), 4)]) nd_is_atom (show BlkOk nm_is_atom sc_is_atom _ [(("char" : PySem.Str), 4)] from blk (by decide +kernel)) (di_expr (xV 1)) (fun _ _ _ _ _ => (gN 4 nd_is_atom)) (fun _ _ _ _ _ => dts_nil) (fun _ _ _ _ _ => (de_or (xIn hr (xV 4) (xGS g.c_LETTERS)) (de_one (xIn hr (xV 4) (xGS g.c_DIGITS)))))) da_nil)))) (dss_one (ds_ret xBl)) dss_nil)
    (dss_one (ds_ret (de_or (xEq hr (xV 2) xStr) (de_one (xF h_is_atom_number hr (xArg (xV 3) da_nil))))))))))
/-! is_line -/
abbrev st_is_line : Stmt := top 11
abbrev sc_is_line : Scope := defScope st_is_line
abbrev nm_is_line : List PySem.Str := [("thing" : PySem.Str), ("mark" : PySem.Str)]
abbrev ps_is_line : List PySem.Str := [("thing" : PySem.Str)]
theorem nd_is_line : nm_is_line.Nodup := by decide +kernel
theorem fs_is_line : FnScope nm_is_line ps_is_line sc_is_line := ⟨rfl, rfl, rfl, nd_is_line, rfl, by decide +kernel, by decide +kernel⟩
def w_is_line_1 : WS :=
  (wIf (wOrT (wNotT (wTru (wIsi .int (wVar 1)))) (wOrT (wTru (wIsi .bool (wVar 1))) (wNotT (wB (wChain dLe dLe (wC (.int 0)) (wVar 1) (wC (.int 999999))))))) (wRet (wC (.bl false))) wNext)
def w_is_line : WS :=
  (wSeq (wIf (wOrT (wNotT (wTru (wIsi .tuple (wVar 0)))) (wNotT (wB (wChain dLe dLe (wC (.int 1)) (wCall dLen (wCons (wVar 0) wNil)) (wC (.int 80)))))) (wRet (wC (.bl false))) wNext)
    (wSeq (wFor (wIt (wVar 0)) (.nm 1) (w_is_line_1))
    (wRet (wC (.bl true)))))
theorem b_is_line {P : Program} {w : World} {K : PySem.W.Frag} {mg : PySem.Str → Option Value} {base : Heap} {k : Nat} {f : Addr} {C_Truth : Addr} (g : G K mg C_Truth) (cdv : Value) (A : Around) (outer : List PySem.Env) (s : Shared) (H : Hp) (E : XK) (hr : Room k (A.deeper (envOfC "is_line" sc_is_line s.heap.objs.size f cdv))) :
    DSs (cx P w K mg base nm_is_line "is_line" sc_is_line f cdv A outer s H E) (defBody st_is_line) (w_is_line) :=
  (dss_cons (ds_if (tW (dw_or (dt_not (tV (xIsi .tuple g.b_isinstance g.b_tuple (xV 0)))) (dw_or1 (dt_not (tLeLe xInt (xBi call_lenR lift_len boot_len g.b_len (xArg (xV 0) da_nil)) (xGI g.c_MOST_MARKS)))))) (dss_one (ds_ret xBl)) dss_nil)
    (dss_cons (sFor (di_expr (xV 0)) (gN 1 nd_is_line) (dss_one (ds_if (tW (dw_or (dt_not (tV (xIsi .int g.b_isinstance g.b_int (xV 1)))) (dw_or (tV (xIsi .bool g.b_isinstance g.b_bool (xV 1))) (dw_or1 (dt_not (tLeLe xInt (xV 1) (xGI g.c_LAST_MARK))))))) (dss_one (ds_ret xBl)) dss_nil)))
    (dss_one (ds_ret xBl))))
/-! are_unlike_lines -/
abbrev st_are_unlike_lines : Stmt := top 12
abbrev sc_are_unlike_lines : Scope := defScope st_are_unlike_lines
abbrev nm_are_unlike_lines : List PySem.Str := [("thing" : PySem.Str), ("line" : PySem.Str), ("found" : PySem.Str)]
abbrev ps_are_unlike_lines : List PySem.Str := [("thing" : PySem.Str)]
theorem nd_are_unlike_lines : nm_are_unlike_lines.Nodup := by decide +kernel
theorem fs_are_unlike_lines : FnScope nm_are_unlike_lines ps_are_unlike_lines sc_are_unlike_lines := ⟨rfl, rfl, rfl, nd_are_unlike_lines, rfl, by decide +kernel, by decide +kernel⟩
def w_are_unlike_lines_1 (sp_is_line : DSp) : WS :=
  (wPut (wC (.bl true)) (wVar 2) (wVar 1))
def w_are_unlike_lines (sp_is_line : DSp) : WS :=
  (wSeq (wIf (wOrT (wNotT (wTru (wIsi .tuple (wVar 0)))) (wNotT (wTru (wCall (dAll fun bs => bs.all id) (wCons (wLcF (wIt (wVar 0)) (.nm 1) [1] wYes (wCall sp_is_line (wCons (wVar 1) wNil))) wNil))))) (wRet (wC (.bl false))) wNext)
    (wSeq (wSet 2 wDnew)
    (wSeq (wFor (wIt (wVar 0)) (.nm 1) (w_are_unlike_lines_1 sp_is_line))
    (wRet (wBin (dEq id) (wCall dLen (wCons (wVar 2) wNil)) (wCall dLen (wCons (wVar 0) wNil)))))))
theorem b_are_unlike_lines {P : Program} {w : World} {K : PySem.W.Frag} {mg : PySem.Str → Option Value} {base : Heap} {k : Nat} {f : Addr} {C_Truth : Addr} (g : G K mg C_Truth) {sp_is_line : DSp} (h_is_line : CalD P w K mg base k "is_line" sp_is_line) (cdv : Value) (A : Around) (outer : List PySem.Env) (s : Shared) (H : Hp) (E : XK) (hr : Room k (A.deeper (envOfC "are_unlike_lines" sc_are_unlike_lines s.heap.objs.size f cdv))) :
    DSs (cx P w K mg base nm_are_unlike_lines "are_unlike_lines" sc_are_unlike_lines f cdv A outer s H E) (defBody st_are_unlike_lines) (w_are_unlike_lines sp_is_line) :=
  (dss_cons (ds_if (tW (dw_or (dt_not (tV (xIsi .tuple g.b_isinstance g.b_tuple (xV 0)))) (dw_or1 (dt_not (tV (xBi (cr_all rfl) lift_all bt_all g.b_all (xArg (xLcF (own := [(("line" : PySem.Str), 1)]) nd_are_unlike_lines (show BlkOk nm_are_unlike_lines sc_are_unlike_lines _ [(("line" : PySem.Str), 1)] from blk (by decide +kernel)) (di_expr (xV 0)) (fun _ _ _ _ _ => (gN 1 nd_are_unlike_lines)) (fun _ _ _ _ _ => dts_nil) (fun _ _ _ _ _ => (xF h_is_line hr (xArg (xV 1) da_nil)))) da_nil))))))) (dss_one (ds_ret xBl)) dss_nil)
    (dss_cons (sSet 2 nd_are_unlike_lines de_dnew)
    (dss_cons (sFor (di_expr (xV 0)) (gN 1 nd_are_unlike_lines) (dss_one (sPut hr xBl (xV 2) (xV 1))))
    (dss_one (ds_ret (xEq hr (xBi call_lenR lift_len boot_len g.b_len (xArg (xV 2) da_nil)) (xBi call_lenR lift_len boot_len g.b_len (xArg (xV 0) da_nil))))))))
/-! is_ban_list -/
abbrev st_is_ban_list : Stmt := top 13
abbrev sc_is_ban_list : Scope := defScope st_is_ban_list
abbrev nm_is_ban_list : List PySem.Str := [("thing" : PySem.Str), ("met" : PySem.Str), ("count" : PySem.Str), ("pair" : PySem.Str), ("atom" : PySem.Str), ("lines" : PySem.Str)]
abbrev ps_is_ban_list : List PySem.Str := [("thing" : PySem.Str)]
theorem nd_is_ban_list : nm_is_ban_list.Nodup := by decide +kernel
theorem fs_is_ban_list : FnScope nm_is_ban_list ps_is_ban_list sc_is_ban_list := ⟨rfl, rfl, rfl, nd_is_ban_list, rfl, by decide +kernel, by decide +kernel⟩
def w_is_ban_list_1 (sp_is_atom sp_are_unlike_lines : DSp) : WS :=
  (wSeq (wIf (wOrT (wNotT (wTru (wIsi .tuple (wVar 3)))) (wB (wBin (dEq not) (wCall dLen (wCons (wVar 3) wNil)) (wC (.int 2))))) (wRet (wC (.bl false))) wNext)
    (wSeq (wAsg (.tp [4, 5]) (wVar 3))
    (wSeq (wIf (wOrT (wNotT (wTru (wCall sp_is_atom (wCons (wVar 4) wNil)))) (wOrT (wB (wBin (dIn id) (wVar 4) (wVar 1))) (wNotT (wTru (wCall sp_are_unlike_lines (wCons (wVar 5) wNil)))))) (wRet (wC (.bl false))) wNext)
    (wSeq (wPut (wC (.bl true)) (wVar 1) (wVar 4))
    (wAug 2 dIAdd (wCall dLen (wCons (wVar 5) wNil)))))))
def w_is_ban_list (sp_is_atom sp_are_unlike_lines : DSp) : WS :=
  (wSeq (wIf (wOrT (wNotT (wTru (wIsi .tuple (wVar 0)))) (wB (wBin dGt (wCall dLen (wCons (wVar 0) wNil)) (wC (.int 100))))) (wRet (wC (.bl false))) wNext)
    (wSeq (wSet 1 wDnew)
    (wSeq (wSet 2 (wC (.int 0)))
    (wSeq (wFor (wIt (wVar 0)) (.nm 3) (w_is_ban_list_1 sp_is_atom sp_are_unlike_lines))
    (wRet (wBin dLe (wVar 2) (wC (.int 100))))))))
theorem b_is_ban_list {P : Program} {w : World} {K : PySem.W.Frag} {mg : PySem.Str → Option Value} {base : Heap} {k : Nat} {f : Addr} {C_Truth : Addr} (g : G K mg C_Truth) {sp_is_atom sp_are_unlike_lines : DSp} (h_is_atom : CalD P w K mg base k "is_atom" sp_is_atom) (h_are_unlike_lines : CalD P w K mg base k "are_unlike_lines" sp_are_unlike_lines) (cdv : Value) (A : Around) (outer : List PySem.Env) (s : Shared) (H : Hp) (E : XK) (hr : Room k (A.deeper (envOfC "is_ban_list" sc_is_ban_list s.heap.objs.size f cdv))) :
    DSs (cx P w K mg base nm_is_ban_list "is_ban_list" sc_is_ban_list f cdv A outer s H E) (defBody st_is_ban_list) (w_is_ban_list sp_is_atom sp_are_unlike_lines) :=
  (dss_cons (ds_if (tW (dw_or (dt_not (tV (xIsi .tuple g.b_isinstance g.b_tuple (xV 0)))) (dw_or1 (tGt (xBi call_lenR lift_len boot_len g.b_len (xArg (xV 0) da_nil)) (xGI g.c_MOST_LINES))))) (dss_one (ds_ret xBl)) dss_nil)
    (dss_cons (sSet 1 nd_is_ban_list de_dnew)
    (dss_cons (sSet 2 nd_is_ban_list xInt)
    (dss_cons (sFor (di_expr (xV 0)) (gN 3 nd_is_ban_list) (dss_cons (ds_if (tW (dw_or (dt_not (tV (xIsi .tuple g.b_isinstance g.b_tuple (xV 3)))) (dw_or1 (tNe hr (xBi call_lenR lift_len boot_len g.b_len (xArg (xV 3) da_nil)) xInt)))) (dss_one (ds_ret xBl)) dss_nil)
    (dss_cons (sAsg (xV 3) (gG (pgs1 (gN 4 nd_is_ban_list) (pgs1 (gN 5 nd_is_ban_list) pgs0))))
    (dss_cons (ds_if (tW (dw_or (dt_not (tV (xF h_is_atom hr (xArg (xV 4) da_nil)))) (dw_or (tIn hr (xV 4) (xV 1)) (dw_or1 (dt_not (tV (xF h_are_unlike_lines hr (xArg (xV 5) da_nil)))))))) (dss_one (ds_ret xBl)) dss_nil)
    (dss_cons (sPut hr xBl (xV 1) (xV 4))
    (dss_one (sAugAdd 2 nd_is_ban_list (xBi call_lenR lift_len boot_len g.b_len (xArg (xV 5) da_nil)))))))))
    (dss_one (ds_ret (xLe (xV 2) (xGI g.c_MOST_LINES))))))))
/-! atom_banned -/
abbrev st_atom_banned : Stmt := top 14
abbrev sc_atom_banned : Scope := defScope st_atom_banned
abbrev nm_atom_banned : List PySem.Str := [("bans" : PySem.Str), ("atom" : PySem.Str), ("found" : PySem.Str), ("other" : PySem.Str), ("lines" : PySem.Str), ("line" : PySem.Str)]
abbrev ps_atom_banned : List PySem.Str := [("bans" : PySem.Str), ("atom" : PySem.Str)]
theorem nd_atom_banned : nm_atom_banned.Nodup := by decide +kernel
theorem fs_atom_banned : FnScope nm_atom_banned ps_atom_banned sc_atom_banned := ⟨rfl, rfl, rfl, nd_atom_banned, rfl, by decide +kernel, by decide +kernel⟩
def w_atom_banned_1 : WS :=
  (wPut (wC (.bl true)) (wVar 2) (wVar 5))
def w_atom_banned_2 : WS :=
  (wIf (wB (wBin (dEq id) (wVar 3) (wVar 1))) (wFor (wIt (wVar 4)) (.nm 5) (w_atom_banned_1)) wNext)
def w_atom_banned : WS :=
  (wSeq (wSet 2 wDnew)
    (wSeq (wFor (wIt (wVar 0)) (.tp [3, 4]) (w_atom_banned_2))
    (wRet (wVar 2))))
theorem b_atom_banned {P : Program} {w : World} {K : PySem.W.Frag} {mg : PySem.Str → Option Value} {base : Heap} {k : Nat} {f : Addr} {C_Truth : Addr} (g : G K mg C_Truth) (cdv : Value) (A : Around) (outer : List PySem.Env) (s : Shared) (H : Hp) (E : XK) (hr : Room k (A.deeper (envOfC "atom_banned" sc_atom_banned s.heap.objs.size f cdv))) :
    DSs (cx P w K mg base nm_atom_banned "atom_banned" sc_atom_banned f cdv A outer s H E) (defBody st_atom_banned) (w_atom_banned) :=
  (dss_cons (sSet 2 nd_atom_banned de_dnew)
    (dss_cons (sFor (di_expr (xV 0)) (gG (pgs1 (gN 3 nd_atom_banned) (pgs1 (gN 4 nd_atom_banned) pgs0))) (dss_one (ds_if (tEq hr (xV 3) (xV 1)) (dss_one (sFor (di_expr (xV 4)) (gN 5 nd_atom_banned) (dss_one (sPut hr xBl (xV 2) (xV 5))))) dss_nil)))
    (dss_one (ds_ret (xV 2)))))
/-! over_banned -/
abbrev st_over_banned : Stmt := top 15
abbrev sc_over_banned : Scope := defScope st_over_banned
abbrev nm_over_banned : List PySem.Str := [("result" : PySem.Str), ("argument" : PySem.Str), ("found" : PySem.Str), ("line" : PySem.Str), ("cut" : PySem.Str)]
abbrev ps_over_banned : List PySem.Str := [("result" : PySem.Str), ("argument" : PySem.Str)]
theorem nd_over_banned : nm_over_banned.Nodup := by decide +kernel
theorem fs_over_banned : FnScope nm_over_banned ps_over_banned sc_over_banned := ⟨rfl, rfl, rfl, nd_over_banned, rfl, by decide +kernel, by decide +kernel⟩
def w_over_banned_1 : WS :=
  (wIf (wB (wBin (dIn not) (wSl (wVar 3) (wPart (wVar 4)) wNoPart) (wVar 1))) (wPut (wC (.bl true)) (wVar 2) (wSl (wVar 3) wNoPart (wPart (wVar 4)))) wNext)
def w_over_banned_2 : WS :=
  (wFor (wRange2 (wC (.int 1)) (wCall dLen (wCons (wVar 3) wNil))) (.nm 4) (w_over_banned_1))
def w_over_banned : WS :=
  (wSeq (wSet 2 wDnew)
    (wSeq (wFor (wIt (wVar 0)) (.nm 3) (w_over_banned_2))
    (wRet (wVar 2))))
theorem b_over_banned {P : Program} {w : World} {K : PySem.W.Frag} {mg : PySem.Str → Option Value} {base : Heap} {k : Nat} {f : Addr} {C_Truth : Addr} (g : G K mg C_Truth) (cdv : Value) (A : Around) (outer : List PySem.Env) (s : Shared) (H : Hp) (E : XK) (hr : Room k (A.deeper (envOfC "over_banned" sc_over_banned s.heap.objs.size f cdv))) :
    DSs (cx P w K mg base nm_over_banned "over_banned" sc_over_banned f cdv A outer s H E) (defBody st_over_banned) (w_over_banned) :=
  (dss_cons (sSet 2 nd_over_banned de_dnew)
    (dss_cons (sFor (di_expr (xV 0)) (gN 3 nd_over_banned) (dss_one (sFor (iR2 g.b_range xInt (xBi call_lenR lift_len boot_len g.b_len (xArg (xV 3) da_nil))) (gN 4 nd_over_banned) (dss_one (ds_if (tNIn hr (de_slice (xV 3) (do_some (xV 4)) do_none) (xV 1)) (dss_one (sPut hr xBl (xV 2) (de_slice (xV 3) do_none (do_some (xV 4))))) dss_nil)))))
    (dss_one (ds_ret (xV 2)))))
/-! under_banned -/
abbrev st_under_banned : Stmt := top 16
abbrev sc_under_banned : Scope := defScope st_under_banned
abbrev nm_under_banned : List PySem.Str := [("argument" : PySem.Str), ("result" : PySem.Str), ("found" : PySem.Str), ("line" : PySem.Str), ("cut" : PySem.Str)]
abbrev ps_under_banned : List PySem.Str := [("argument" : PySem.Str), ("result" : PySem.Str)]
theorem nd_under_banned : nm_under_banned.Nodup := by decide +kernel
theorem fs_under_banned : FnScope nm_under_banned ps_under_banned sc_under_banned := ⟨rfl, rfl, rfl, nd_under_banned, rfl, by decide +kernel, by decide +kernel⟩
def w_under_banned_1 : WS :=
  (wIf (wB (wBin (dIn not) (wSl (wVar 3) wNoPart (wPart (wVar 4))) (wVar 0))) (wPut (wC (.bl true)) (wVar 2) (wSl (wVar 3) (wPart (wVar 4)) wNoPart)) wNext)
def w_under_banned_2 : WS :=
  (wFor (wRange2 (wC (.int 1)) (wCall dLen (wCons (wVar 3) wNil))) (.nm 4) (w_under_banned_1))
def w_under_banned : WS :=
  (wSeq (wSet 2 wDnew)
    (wSeq (wFor (wIt (wVar 1)) (.nm 3) (w_under_banned_2))
    (wRet (wVar 2))))
theorem b_under_banned {P : Program} {w : World} {K : PySem.W.Frag} {mg : PySem.Str → Option Value} {base : Heap} {k : Nat} {f : Addr} {C_Truth : Addr} (g : G K mg C_Truth) (cdv : Value) (A : Around) (outer : List PySem.Env) (s : Shared) (H : Hp) (E : XK) (hr : Room k (A.deeper (envOfC "under_banned" sc_under_banned s.heap.objs.size f cdv))) :
    DSs (cx P w K mg base nm_under_banned "under_banned" sc_under_banned f cdv A outer s H E) (defBody st_under_banned) (w_under_banned) :=
  (dss_cons (sSet 2 nd_under_banned de_dnew)
    (dss_cons (sFor (di_expr (xV 1)) (gN 3 nd_under_banned) (dss_one (sFor (iR2 g.b_range xInt (xBi call_lenR lift_len boot_len g.b_len (xArg (xV 3) da_nil))) (gN 4 nd_under_banned) (dss_one (ds_if (tNIn hr (de_slice (xV 3) do_none (do_some (xV 4))) (xV 0)) (dss_one (sPut hr xBl (xV 2) (de_slice (xV 3) (do_some (xV 4)) do_none))) dss_nil)))))
    (dss_one (ds_ret (xV 2)))))
/-! is_allowed_row -/
abbrev st_is_allowed_row : Stmt := top 17
abbrev sc_is_allowed_row : Scope := defScope st_is_allowed_row
abbrev nm_is_allowed_row : List PySem.Str := [("line" : PySem.Str), ("first" : PySem.Str), ("second" : PySem.Str), ("cut" : PySem.Str)]
abbrev ps_is_allowed_row : List PySem.Str := [("line" : PySem.Str), ("first" : PySem.Str), ("second" : PySem.Str)]
theorem nd_is_allowed_row : nm_is_allowed_row.Nodup := by decide +kernel
theorem fs_is_allowed_row : FnScope nm_is_allowed_row ps_is_allowed_row sc_is_allowed_row := ⟨rfl, rfl, rfl, nd_is_allowed_row, rfl, by decide +kernel, by decide +kernel⟩
def w_is_allowed_row : WS :=
  (wRet (wCall (dAll fun bs => bs.any id) (wCons (wLcF (wRange2 (wC (.int 1)) (wCall dLen (wCons (wVar 0) wNil))) (.nm 3) [3] wYes (wAndV (wBin (dIn not) (wSl (wVar 0) wNoPart (wPart (wVar 3))) (wVar 1)) (wBin (dIn not) (wSl (wVar 0) (wPart (wVar 3)) wNoPart) (wVar 2)))) wNil)))
theorem b_is_allowed_row {P : Program} {w : World} {K : PySem.W.Frag} {mg : PySem.Str → Option Value} {base : Heap} {k : Nat} {f : Addr} {C_Truth : Addr} (g : G K mg C_Truth) (cdv : Value) (A : Around) (outer : List PySem.Env) (s : Shared) (H : Hp) (E : XK) (hr : Room k (A.deeper (envOfC "is_allowed_row" sc_is_allowed_row s.heap.objs.size f cdv))) :
    DSs (cx P w K mg base nm_is_allowed_row "is_allowed_row" sc_is_allowed_row f cdv A outer s H E) (defBody st_is_allowed_row) (w_is_allowed_row) :=
  (dss_one (ds_ret (xBi (cr_any rfl) lift_any bt_any g.b_any (xArg (xLcF (own := [(("cut" : PySem.Str), 3)]) nd_is_allowed_row (show BlkOk nm_is_allowed_row sc_is_allowed_row _ [(("cut" : PySem.Str), 3)] from blk (by decide +kernel)) (iR2 g.b_range xInt (xBi call_lenR lift_len boot_len g.b_len (xArg (xV 0) da_nil))) (fun _ _ _ _ _ => (gN 3 nd_is_allowed_row)) (fun _ _ _ _ _ => dts_nil) (fun _ _ _ _ _ => (de_and (xNIn hr (de_slice (xV 0) do_none (do_some (xV 3))) (xV 1)) (de_one (xNIn hr (de_slice (xV 0) (do_some (xV 3)) do_none) (xV 2)))))) da_nil))))
/-! allowed_frames -/
abbrev st_allowed_frames : Stmt := top 18
abbrev sc_allowed_frames : Scope := defScope st_allowed_frames
abbrev nm_allowed_frames : List PySem.Str := [("lines" : PySem.Str), ("first" : PySem.Str), ("second" : PySem.Str), ("found" : PySem.Str), ("line" : PySem.Str), ("start" : PySem.Str), ("stop" : PySem.Str)]
abbrev ps_allowed_frames : List PySem.Str := [("lines" : PySem.Str), ("first" : PySem.Str), ("second" : PySem.Str)]
theorem nd_allowed_frames : nm_allowed_frames.Nodup := by decide +kernel
theorem fs_allowed_frames : FnScope nm_allowed_frames ps_allowed_frames sc_allowed_frames := ⟨rfl, rfl, rfl, nd_allowed_frames, rfl, by decide +kernel, by decide +kernel⟩
def w_allowed_frames_1 (sp_is_allowed_row : DSp) : WS :=
  (wIf (wTru (wCall sp_is_allowed_row (wCons (wSl (wVar 4) (wPart (wVar 5)) (wPart (wVar 6))) (wCons (wVar 1) (wCons (wVar 2) wNil))))) (wPut (wC (.bl true)) (wVar 3) (wTup (wCons (wSl (wVar 4) wNoPart (wPart (wVar 5))) (wCons (wSl (wVar 4) (wPart (wVar 6)) wNoPart) wNil)))) wNext)
def w_allowed_frames_2 (sp_is_allowed_row : DSp) : WS :=
  (wFor (wRange2 (wBin dAdd (wVar 5) (wC (.int 2))) (wBin dAdd (wCall dLen (wCons (wVar 4) wNil)) (wC (.int 1)))) (.nm 6) (w_allowed_frames_1 sp_is_allowed_row))
def w_allowed_frames_3 (sp_is_allowed_row : DSp) : WS :=
  (wFor (wRange1 (wCall dLen (wCons (wVar 4) wNil))) (.nm 5) (w_allowed_frames_2 sp_is_allowed_row))
def w_allowed_frames (sp_is_allowed_row : DSp) : WS :=
  (wSeq (wSet 3 wDnew)
    (wSeq (wFor (wIt (wVar 0)) (.nm 4) (w_allowed_frames_3 sp_is_allowed_row))
    (wRet (wVar 3))))
theorem b_allowed_frames {P : Program} {w : World} {K : PySem.W.Frag} {mg : PySem.Str → Option Value} {base : Heap} {k : Nat} {f : Addr} {C_Truth : Addr} (g : G K mg C_Truth) {sp_is_allowed_row : DSp} (h_is_allowed_row : CalD P w K mg base k "is_allowed_row" sp_is_allowed_row) (cdv : Value) (A : Around) (outer : List PySem.Env) (s : Shared) (H : Hp) (E : XK) (hr : Room k (A.deeper (envOfC "allowed_frames" sc_allowed_frames s.heap.objs.size f cdv))) :
    DSs (cx P w K mg base nm_allowed_frames "allowed_frames" sc_allowed_frames f cdv A outer s H E) (defBody st_allowed_frames) (w_allowed_frames sp_is_allowed_row) :=
  (dss_cons (sSet 3 nd_allowed_frames de_dnew)
    (dss_cons (sFor (di_expr (xV 0)) (gN 4 nd_allowed_frames) (dss_one (sFor (iR1 g.b_range (xBi call_lenR lift_len boot_len g.b_len (xArg (xV 4) da_nil))) (gN 5 nd_allowed_frames) (dss_one (sFor (iR2 g.b_range (xAdd (xV 5) xInt) (xAdd (xBi call_lenR lift_len boot_len g.b_len (xArg (xV 4) da_nil)) xInt)) (gN 6 nd_allowed_frames) (dss_one (ds_if (tV (xF h_is_allowed_row hr (xArg (de_slice (xV 4) (do_some (xV 5)) (do_some (xV 6))) (xArg (xV 1) (xArg (xV 2) da_nil))))) (dss_one (sPut hr xBl (xV 3) (de_tup (xArg (de_slice (xV 4) do_none (do_some (xV 5))) (xArg (de_slice (xV 4) (do_some (xV 6)) do_none) da_nil))))) dss_nil)))))))
    (dss_one (ds_ret (xV 3)))))
/-! pair_banned -/
abbrev st_pair_banned : Stmt := top 19
abbrev sc_pair_banned : Scope := defScope st_pair_banned
abbrev nm_pair_banned : List PySem.Str := [("bans" : PySem.Str), ("first" : PySem.Str), ("second" : PySem.Str), ("found" : PySem.Str), ("_" : PySem.Str), ("lines" : PySem.Str), ("frames" : PySem.Str), ("line" : PySem.Str), ("start" : PySem.Str), ("stop" : PySem.Str)]
abbrev ps_pair_banned : List PySem.Str := [("bans" : PySem.Str), ("first" : PySem.Str), ("second" : PySem.Str)]
theorem nd_pair_banned : nm_pair_banned.Nodup := by decide +kernel
theorem fs_pair_banned : FnScope nm_pair_banned ps_pair_banned sc_pair_banned := ⟨rfl, rfl, rfl, nd_pair_banned, rfl, by decide +kernel, by decide +kernel⟩
def w_pair_banned_1 (sp_allowed_frames : DSp) : WS :=
  (wIf (wB (wBin (dIn not) (wTup (wCons (wSl (wVar 7) wNoPart (wPart (wVar 8))) (wCons (wSl (wVar 7) (wPart (wVar 9)) wNoPart) wNil))) (wVar 6))) (wPut (wC (.bl true)) (wVar 3) (wSl (wVar 7) (wPart (wVar 8)) (wPart (wVar 9)))) wNext)
def w_pair_banned_2 (sp_allowed_frames : DSp) : WS :=
  (wFor (wRange2 (wBin dAdd (wVar 8) (wC (.int 1))) (wBin dAdd (wCall dLen (wCons (wVar 7) wNil)) (wC (.int 1)))) (.nm 9) (w_pair_banned_1 sp_allowed_frames))
def w_pair_banned_3 (sp_allowed_frames : DSp) : WS :=
  (wFor (wRange1 (wCall dLen (wCons (wVar 7) wNil))) (.nm 8) (w_pair_banned_2 sp_allowed_frames))
def w_pair_banned_4 (sp_allowed_frames : DSp) : WS :=
  (wSeq (wSet 6 (wCall sp_allowed_frames (wCons (wVar 5) (wCons (wVar 1) (wCons (wVar 2) wNil)))))
    (wFor (wIt (wVar 5)) (.nm 7) (w_pair_banned_3 sp_allowed_frames)))
def w_pair_banned (sp_allowed_frames : DSp) : WS :=
  (wSeq (wSet 3 wDnew)
    (wSeq (wFor (wIt (wVar 0)) (.tp [4, 5]) (w_pair_banned_4 sp_allowed_frames))
    (wRet (wVar 3))))
theorem b_pair_banned {P : Program} {w : World} {K : PySem.W.Frag} {mg : PySem.Str → Option Value} {base : Heap} {k : Nat} {f : Addr} {C_Truth : Addr} (g : G K mg C_Truth) {sp_allowed_frames : DSp} (h_allowed_frames : CalD P w K mg base k "allowed_frames" sp_allowed_frames) (cdv : Value) (A : Around) (outer : List PySem.Env) (s : Shared) (H : Hp) (E : XK) (hr : Room k (A.deeper (envOfC "pair_banned" sc_pair_banned s.heap.objs.size f cdv))) :
    DSs (cx P w K mg base nm_pair_banned "pair_banned" sc_pair_banned f cdv A outer s H E) (defBody st_pair_banned) (w_pair_banned sp_allowed_frames) :=
  (dss_cons (sSet 3 nd_pair_banned de_dnew)
    (dss_cons (sFor (di_expr (xV 0)) (gG (pgs1 (gN 4 nd_pair_banned) (pgs1 (gN 5 nd_pair_banned) pgs0))) (dss_cons (sSet 6 nd_pair_banned (xF h_allowed_frames hr (xArg (xV 5) (xArg (xV 1) (xArg (xV 2) da_nil)))))
    (dss_one (sFor (di_expr (xV 5)) (gN 7 nd_pair_banned) (dss_one (sFor (iR1 g.b_range (xBi call_lenR lift_len boot_len g.b_len (xArg (xV 7) da_nil))) (gN 8 nd_pair_banned) (dss_one (sFor (iR2 g.b_range (xAdd (xV 8) xInt) (xAdd (xBi call_lenR lift_len boot_len g.b_len (xArg (xV 7) da_nil)) xInt)) (gN 9 nd_pair_banned) (dss_one (ds_if (tNIn hr (de_tup (xArg (de_slice (xV 7) do_none (do_some (xV 8))) (xArg (de_slice (xV 7) (do_some (xV 9)) do_none) da_nil))) (xV 6)) (dss_one (sPut hr xBl (xV 3) (de_slice (xV 7) (do_some (xV 8)) (do_some (xV 9))))) dss_nil))))))))))
    (dss_one (ds_ret (xV 3)))))
/-! kind_banned -/
abbrev st_kind_banned : Stmt := top 20
abbrev sc_kind_banned : Scope := defScope st_kind_banned
abbrev nm_kind_banned : List PySem.Str := [("bans" : PySem.Str), ("kind" : PySem.Str), ("sign" : PySem.Str), ("first" : PySem.Str), ("second" : PySem.Str), ("first_banned" : PySem.Str), ("second_banned" : PySem.Str)]
abbrev ps_kind_banned : List PySem.Str := [("bans" : PySem.Str), ("kind" : PySem.Str)]
theorem nd_kind_banned : nm_kind_banned.Nodup := by decide +kernel
theorem fs_kind_banned : FnScope nm_kind_banned ps_kind_banned sc_kind_banned := ⟨rfl, rfl, rfl, nd_kind_banned, rfl, by decide +kernel, by decide +kernel⟩
def w_kind_banned (sp_atom_banned sp_kind_banned sp_over_banned sp_under_banned sp_pair_banned : DSp) : WS :=
  (wSeq (wIf (wTru (wIsi .str (wVar 1))) (wRet (wCall sp_atom_banned (wCons (wVar 0) (wCons (wVar 1) wNil)))) wNext)
    (wSeq (wAsg (.tp [2, 3, 4]) (wVar 1))
    (wSeq (wSet 5 (wCall sp_kind_banned (wCons (wVar 0) (wCons (wVar 3) wNil))))
    (wSeq (wSet 6 (wCall sp_kind_banned (wCons (wVar 0) (wCons (wVar 4) wNil))))
    (wSeq (wIf (wB (wBin (dEq id) (wVar 2) (wC (.str "/")))) (wRet (wCall sp_over_banned (wCons (wVar 5) (wCons (wVar 6) wNil)))) wNext)
    (wSeq (wIf (wB (wBin (dEq id) (wVar 2) (wC (.str ">")))) (wRet (wCall sp_under_banned (wCons (wVar 5) (wCons (wVar 6) wNil)))) wNext)
    (wRet (wCall sp_pair_banned (wCons (wVar 0) (wCons (wVar 5) (wCons (wVar 6) wNil)))))))))))
theorem b_kind_banned {P : Program} {w : World} {K : PySem.W.Frag} {mg : PySem.Str → Option Value} {base : Heap} {k : Nat} {f : Addr} {C_Truth : Addr} (g : G K mg C_Truth) {sp_atom_banned sp_kind_banned sp_over_banned sp_under_banned sp_pair_banned : DSp} (h_atom_banned : CalD P w K mg base k "atom_banned" sp_atom_banned) (h_kind_banned : CalD P w K mg base k "kind_banned" sp_kind_banned) (h_over_banned : CalD P w K mg base k "over_banned" sp_over_banned) (h_under_banned : CalD P w K mg base k "under_banned" sp_under_banned) (h_pair_banned : CalD P w K mg base k "pair_banned" sp_pair_banned) (cdv : Value) (A : Around) (outer : List PySem.Env) (s : Shared) (H : Hp) (E : XK) (hr : Room k (A.deeper (envOfC "kind_banned" sc_kind_banned s.heap.objs.size f cdv))) :
    DSs (cx P w K mg base nm_kind_banned "kind_banned" sc_kind_banned f cdv A outer s H E) (defBody st_kind_banned) (w_kind_banned sp_atom_banned sp_kind_banned sp_over_banned sp_under_banned sp_pair_banned) :=
  (dss_cons (ds_if (tV (xIsi .str g.b_isinstance g.b_str (xV 1))) (dss_one (ds_ret (xF h_atom_banned hr (xArg (xV 0) (xArg (xV 1) da_nil))))) dss_nil)
    (dss_cons (sAsg (xV 1) (gG (pgs1 (gN 2 nd_kind_banned) (pgs1 (gN 3 nd_kind_banned) (pgs1 (gN 4 nd_kind_banned) pgs0)))))
    (dss_cons (sSet 5 nd_kind_banned (xF h_kind_banned hr (xArg (xV 0) (xArg (xV 3) da_nil))))
    (dss_cons (sSet 6 nd_kind_banned (xF h_kind_banned hr (xArg (xV 0) (xArg (xV 4) da_nil))))
    (dss_cons (ds_if (tEq hr (xV 2) xStr) (dss_one (ds_ret (xF h_over_banned hr (xArg (xV 5) (xArg (xV 6) da_nil))))) dss_nil)
    (dss_cons (ds_if (tEq hr (xV 2) xStr) (dss_one (ds_ret (xF h_under_banned hr (xArg (xV 5) (xArg (xV 6) da_nil))))) dss_nil)
    (dss_one (ds_ret (xF h_pair_banned hr (xArg (xV 0) (xArg (xV 5) (xArg (xV 6) da_nil))))))))))))
/-! line_key -/
abbrev st_line_key : Stmt := top 21
abbrev sc_line_key : Scope := defScope st_line_key
abbrev nm_line_key : List PySem.Str := [("line" : PySem.Str)]
abbrev ps_line_key : List PySem.Str := [("line" : PySem.Str)]
theorem nd_line_key : nm_line_key.Nodup := by decide +kernel
theorem fs_line_key : FnScope nm_line_key ps_line_key sc_line_key := ⟨rfl, rfl, rfl, nd_line_key, rfl, by decide +kernel, by decide +kernel⟩
def w_line_key : WS :=
  (wRet (wTup (wCons (wCall dLen (wCons (wVar 0) wNil)) (wCons (wVar 0) wNil))))
theorem b_line_key {P : Program} {w : World} {K : PySem.W.Frag} {mg : PySem.Str → Option Value} {base : Heap} {k : Nat} {f : Addr} {C_Truth : Addr} (g : G K mg C_Truth) (cdv : Value) (A : Around) (outer : List PySem.Env) (s : Shared) (H : Hp) (E : XK) (hr : Room k (A.deeper (envOfC "line_key" sc_line_key s.heap.objs.size f cdv))) :
    DSs (cx P w K mg base nm_line_key "line_key" sc_line_key f cdv A outer s H E) (defBody st_line_key) (w_line_key) :=
  (dss_one (ds_ret (de_tup (xArg (xBi call_lenR lift_len boot_len g.b_len (xArg (xV 0) da_nil)) (xArg (xV 0) da_nil)))))
/-! banned_lines -/
abbrev st_banned_lines : Stmt := top 22
abbrev sc_banned_lines : Scope := defScope st_banned_lines
abbrev nm_banned_lines : List PySem.Str := [("bans" : PySem.Str), ("kind" : PySem.Str)]
abbrev ps_banned_lines : List PySem.Str := [("bans" : PySem.Str), ("kind" : PySem.Str)]
theorem nd_banned_lines : nm_banned_lines.Nodup := by decide +kernel
theorem fs_banned_lines : FnScope nm_banned_lines ps_banned_lines sc_banned_lines := ⟨rfl, rfl, rfl, nd_banned_lines, rfl, by decide +kernel, by decide +kernel⟩
def w_banned_lines (sp_kind_banned sp_line_key : DSp) : WS :=
  (wRet (wCall dTuple (wCons (wSortK sp_line_key (wCall sp_kind_banned (wCons (wVar 0) (wCons (wVar 1) wNil)))) wNil)))
theorem b_banned_lines {P : Program} {w : World} {K : PySem.W.Frag} {mg : PySem.Str → Option Value} {base : Heap} {k : Nat} {f : Addr} {C_Truth : Addr} (g : G K mg C_Truth) {sp_kind_banned sp_line_key : DSp} (h_kind_banned : CalD P w K mg base (k + 2) "kind_banned" sp_kind_banned) (h_line_key : CalD P w K mg base k "line_key" sp_line_key) (cdv : Value) (A : Around) (outer : List PySem.Env) (s : Shared) (H : Hp) (E : XK) (hr : Room (k + 2) (A.deeper (envOfC "banned_lines" sc_banned_lines s.heap.objs.size f cdv))) :
    DSs (cx P w K mg base nm_banned_lines "banned_lines" sc_banned_lines f cdv A outer s H E) (defBody st_banned_lines) (w_banned_lines sp_kind_banned sp_line_key) :=
  (dss_one (ds_ret (xTy call_tuple_of lift_tuple bt_tuple g.b_tuple (xArg (xSortK g.b_sorted h_line_key hr (xF h_kind_banned hr (xArg (xV 0) (xArg (xV 1) da_nil)))) da_nil))))
/-! format_part -/
abbrev st_format_part : Stmt := top 24
abbrev sc_format_part : Scope := defScope st_format_part
abbrev nm_format_part : List PySem.Str := [("kind" : PySem.Str)]
abbrev ps_format_part : List PySem.Str := [("kind" : PySem.Str)]
theorem nd_format_part : nm_format_part.Nodup := by decide +kernel
theorem fs_format_part : FnScope nm_format_part ps_format_part sc_format_part := ⟨rfl, rfl, rfl, nd_format_part, rfl, by decide +kernel, by decide +kernel⟩
def w_format_part (sp_format_kind : DSp) : WS :=
  (wSeq (wIf (wTru (wIsi .str (wVar 0))) (wRet (wVar 0)) wNext)
    (wRet (wBin dAdd (wBin dAdd (wC (.str "(")) (wCall sp_format_kind (wCons (wVar 0) wNil))) (wC (.str ")")))))
theorem b_format_part {P : Program} {w : World} {K : PySem.W.Frag} {mg : PySem.Str → Option Value} {base : Heap} {k : Nat} {f : Addr} {C_Truth : Addr} (g : G K mg C_Truth) {sp_format_kind : DSp} (h_format_kind : CalD P w K mg base k "format_kind" sp_format_kind) (cdv : Value) (A : Around) (outer : List PySem.Env) (s : Shared) (H : Hp) (E : XK) (hr : Room k (A.deeper (envOfC "format_part" sc_format_part s.heap.objs.size f cdv))) :
    DSs (cx P w K mg base nm_format_part "format_part" sc_format_part f cdv A outer s H E) (defBody st_format_part) (w_format_part sp_format_kind) :=
  (dss_cons (ds_if (tV (xIsi .str g.b_isinstance g.b_str (xV 0))) (dss_one (ds_ret (xV 0))) dss_nil)
    (dss_one (ds_ret (xAdd (xAdd xStr (xF h_format_kind hr (xArg (xV 0) da_nil))) xStr))))
/-! format_kind -/
abbrev st_format_kind : Stmt := top 25
abbrev sc_format_kind : Scope := defScope st_format_kind
abbrev nm_format_kind : List PySem.Str := [("kind" : PySem.Str), ("sign" : PySem.Str), ("first" : PySem.Str), ("second" : PySem.Str)]
abbrev ps_format_kind : List PySem.Str := [("kind" : PySem.Str)]
theorem nd_format_kind : nm_format_kind.Nodup := by decide +kernel
theorem fs_format_kind : FnScope nm_format_kind ps_format_kind sc_format_kind := ⟨rfl, rfl, rfl, nd_format_kind, rfl, by decide +kernel, by decide +kernel⟩
def w_format_kind (sp_format_part : DSp) : WS :=
  (wSeq (wIf (wTru (wIsi .str (wVar 0))) (wRet (wVar 0)) wNext)
    (wSeq (wAsg (.tp [1, 2, 3]) (wVar 0))
    (wRet (wBin dAdd (wBin dAdd (wBin dAdd (wBin dAdd (wCall sp_format_part (wCons (wVar 2) wNil)) (wC (.str " "))) (wVar 1)) (wC (.str " "))) (wCall sp_format_part (wCons (wVar 3) wNil))))))
theorem b_format_kind {P : Program} {w : World} {K : PySem.W.Frag} {mg : PySem.Str → Option Value} {base : Heap} {k : Nat} {f : Addr} {C_Truth : Addr} (g : G K mg C_Truth) {sp_format_part : DSp} (h_format_part : CalD P w K mg base k "format_part" sp_format_part) (cdv : Value) (A : Around) (outer : List PySem.Env) (s : Shared) (H : Hp) (E : XK) (hr : Room k (A.deeper (envOfC "format_kind" sc_format_kind s.heap.objs.size f cdv))) :
    DSs (cx P w K mg base nm_format_kind "format_kind" sc_format_kind f cdv A outer s H E) (defBody st_format_kind) (w_format_kind sp_format_part) :=
  (dss_cons (ds_if (tV (xIsi .str g.b_isinstance g.b_str (xV 0))) (dss_one (ds_ret (xV 0))) dss_nil)
    (dss_cons (sAsg (xV 0) (gG (pgs1 (gN 1 nd_format_kind) (pgs1 (gN 2 nd_format_kind) (pgs1 (gN 3 nd_format_kind) pgs0)))))
    (dss_one (ds_ret (xAdd (xAdd (xAdd (xAdd (xF h_format_part hr (xArg (xV 2) da_nil)) xStr) (xV 1)) xStr) (xF h_format_part hr (xArg (xV 3) da_nil)))))))
/-! pieces_of -/
abbrev st_pieces_of : Stmt := top 27
abbrev sc_pieces_of : Scope := defScope st_pieces_of
abbrev nm_pieces_of : List PySem.Str := [("line" : PySem.Str), ("banned" : PySem.Str), ("reached" : PySem.Str), ("lines" : PySem.Str), ("further" : PySem.Str), ("start" : PySem.Str), ("pieces" : PySem.Str), ("stop" : PySem.Str)]
abbrev ps_pieces_of : List PySem.Str := [("line" : PySem.Str), ("banned" : PySem.Str)]
theorem nd_pieces_of : nm_pieces_of.Nodup := by decide +kernel
theorem fs_pieces_of : FnScope nm_pieces_of ps_pieces_of sc_pieces_of := ⟨rfl, rfl, rfl, nd_pieces_of, rfl, by decide +kernel, by decide +kernel⟩
def w_pieces_of_1 : WS :=
  (wIf (wAndT (wB (wBin (dIn not) (wSl (wVar 0) (wPart (wVar 5)) (wPart (wVar 7))) (wVar 3))) (wB (wBin (dIn not) (wVar 7) (wVar 4)))) (wPut (wBin dAdd (wVar 6) (wTup (wCons (wSl (wVar 0) (wPart (wVar 5)) (wPart (wVar 7))) wNil))) (wVar 4) (wVar 7)) wNext)
def w_pieces_of_2 : WS :=
  (wFor (wRange2 (wBin dAdd (wVar 5) (wC (.int 1))) (wBin dAdd (wCall dLen (wCons (wVar 0) wNil)) (wC (.int 1)))) (.nm 7) (w_pieces_of_1))
def w_pieces_of_3 : WS :=
  (wSeq (wSet 4 wDnew)
    (wSeq (wFor (wItems (wVar 2)) (.tp [5, 6]) (w_pieces_of_2))
    (wSet 2 (wVar 4))))
def w_pieces_of : WS :=
  (wSeq (wSet 2 (wDisp1 (wC (.int 0)) (wTup wNil)))
    (wSeq (wFor (wIt (wVar 1)) (.nm 3) (w_pieces_of_3))
    (wRet (wGet1 (wVar 2) (wCall dLen (wCons (wVar 0) wNil))))))
theorem b_pieces_of {P : Program} {w : World} {K : PySem.W.Frag} {mg : PySem.Str → Option Value} {base : Heap} {k : Nat} {f : Addr} {C_Truth : Addr} (g : G K mg C_Truth) (cdv : Value) (A : Around) (outer : List PySem.Env) (s : Shared) (H : Hp) (E : XK) (hr : Room k (A.deeper (envOfC "pieces_of" sc_pieces_of s.heap.objs.size f cdv))) :
    DSs (cx P w K mg base nm_pieces_of "pieces_of" sc_pieces_of f cdv A outer s H E) (defBody st_pieces_of) (w_pieces_of) :=
  (dss_cons (sSet 2 nd_pieces_of (de_disp1 xInt (de_tup da_nil)))
    (dss_cons (sFor (di_expr (xV 1)) (gN 3 nd_pieces_of) (dss_cons (sSet 4 nd_pieces_of de_dnew)
    (dss_cons (sFor (di_items (xV 2) rfl rfl) (gG (pgs1 (gN 5 nd_pieces_of) (pgs1 (gN 6 nd_pieces_of) pgs0))) (dss_one (sFor (iR2 g.b_range (xAdd (xV 5) xInt) (xAdd (xBi call_lenR lift_len boot_len g.b_len (xArg (xV 0) da_nil)) xInt)) (gN 7 nd_pieces_of) (dss_one (ds_if (tW (dw_and (tNIn hr (de_slice (xV 0) (do_some (xV 5)) (do_some (xV 7))) (xV 3)) (dw_and1 (tNIn hr (xV 7) (xV 4))))) (dss_one (sPut hr (xAdd (xV 6) (de_tup (xArg (de_slice (xV 0) (do_some (xV 5)) (do_some (xV 7))) da_nil))) (xV 4) (xV 7))) dss_nil)))))
    (dss_one (sSet 2 nd_pieces_of (xV 4))))))
    (dss_one (ds_ret (xGet1 hr (xV 2) (xBi call_lenR lift_len boot_len g.b_len (xArg (xV 0) da_nil)))))))
/-! Truth.__init__ -/
abbrev st_Truth___init__ : Stmt := mth 28 0
abbrev sc_Truth___init__ : Scope := defScope st_Truth___init__
abbrev nm_Truth___init__ : List PySem.Str := [("self" : PySem.Str), ("bans" : PySem.Str)]
abbrev ps_Truth___init__ : List PySem.Str := [("self" : PySem.Str), ("bans" : PySem.Str)]
theorem nd_Truth___init__ : nm_Truth___init__.Nodup := by decide +kernel
theorem fs_Truth___init__ : FnScope nm_Truth___init__ ps_Truth___init__ sc_Truth___init__ := ⟨rfl, rfl, rfl, nd_Truth___init__, rfl, by decide +kernel, by decide +kernel⟩
def w_Truth___init__ (C_Truth : Addr) : WS :=
  (wSeq (wSetFld C_Truth "bans" (wVar 0) (wVar 1))
    (wSetFld C_Truth "banned" (wVar 0) wDnew))
theorem b_Truth___init__ {P : Program} {w : World} {K : PySem.W.Frag} {mg : PySem.Str → Option Value} {base : Heap} {k : Nat} {f : Addr} {C_Truth : Addr} (g : G K mg C_Truth) (cdv : Value) (A : Around) (outer : List PySem.Env) (s : Shared) (H : Hp) (E : XK) (hr : Room k (A.deeper (envOfC "Truth.__init__" sc_Truth___init__ s.heap.objs.size f cdv))) :
    DSs (cx P w K mg base nm_Truth___init__ "Truth.__init__" sc_Truth___init__ f cdv A outer s H E) (defBody st_Truth___init__) (w_Truth___init__ C_Truth) :=
  (dss_cons (ds_fld g.cls_Truth g.n_Truth_bans (xV 0) (xV 1) rfl)
    (dss_one (ds_fld g.cls_Truth g.n_Truth_banned (xV 0) de_dnew rfl)))
/-! Truth.banned_by -/
abbrev st_Truth_banned_by : Stmt := mth 28 1
abbrev sc_Truth_banned_by : Scope := defScope st_Truth_banned_by
abbrev nm_Truth_banned_by : List PySem.Str := [("self" : PySem.Str), ("kind" : PySem.Str), ("key" : PySem.Str)]
abbrev ps_Truth_banned_by : List PySem.Str := [("self" : PySem.Str), ("kind" : PySem.Str)]
theorem nd_Truth_banned_by : nm_Truth_banned_by.Nodup := by decide +kernel
theorem fs_Truth_banned_by : FnScope nm_Truth_banned_by ps_Truth_banned_by sc_Truth_banned_by := ⟨rfl, rfl, rfl, nd_Truth_banned_by, rfl, by decide +kernel, by decide +kernel⟩
def w_Truth_banned_by (C_Truth : Addr) (sp_format_kind sp_kind_banned : DSp) : WS :=
  (wSeq (wSet 2 (wCall sp_format_kind (wCons (wVar 1) wNil)))
    (wSeq (wIf (wB (wBin (dIn not) (wVar 2) (wFld C_Truth "banned" (wVar 0)))) (wPut (wCall sp_kind_banned (wCons (wFld C_Truth "bans" (wVar 0)) (wCons (wVar 1) wNil))) (wFld C_Truth "banned" (wVar 0)) (wVar 2)) wNext)
    (wRet (wBin dIxA (wFld C_Truth "banned" (wVar 0)) (wVar 2)))))
theorem b_Truth_banned_by {P : Program} {w : World} {K : PySem.W.Frag} {mg : PySem.Str → Option Value} {base : Heap} {k : Nat} {f : Addr} {C_Truth : Addr} (g : G K mg C_Truth) {sp_format_kind sp_kind_banned : DSp} (h_format_kind : CalD P w K mg base k "format_kind" sp_format_kind) (h_kind_banned : CalD P w K mg base k "kind_banned" sp_kind_banned) (cdv : Value) (A : Around) (outer : List PySem.Env) (s : Shared) (H : Hp) (E : XK) (hr : Room k (A.deeper (envOfC "Truth.banned_by" sc_Truth_banned_by s.heap.objs.size f cdv))) :
    DSs (cx P w K mg base nm_Truth_banned_by "Truth.banned_by" sc_Truth_banned_by f cdv A outer s H E) (defBody st_Truth_banned_by) (w_Truth_banned_by C_Truth sp_format_kind sp_kind_banned) :=
  (dss_cons (sSet 2 nd_Truth_banned_by (xF h_format_kind hr (xArg (xV 1) da_nil)))
    (dss_cons (ds_if (tNIn hr (xV 2) (de_fld g.cls_Truth g.n_Truth_banned (xV 0))) (dss_one (sPut hr (xF h_kind_banned hr (xArg (de_fld g.cls_Truth g.n_Truth_bans (xV 0)) (xArg (xV 1) da_nil))) (de_fld g.cls_Truth g.n_Truth_banned (xV 0)) (xV 2))) dss_nil)
    (dss_one (ds_ret (xIx hr (de_fld g.cls_Truth g.n_Truth_banned (xV 0)) (xV 2))))))
/-! Truth.failing -/
abbrev st_Truth_failing : Stmt := mth 28 2
abbrev sc_Truth_failing : Scope := defScope st_Truth_failing
abbrev nm_Truth_failing : List PySem.Str := [("self" : PySem.Str), ("sequent" : PySem.Str), ("premises" : PySem.Str), ("goal" : PySem.Str), ("banned" : PySem.Str), ("premise" : PySem.Str), ("line" : PySem.Str), ("pieces" : PySem.Str)]
abbrev ps_Truth_failing : List PySem.Str := [("self" : PySem.Str), ("sequent" : PySem.Str)]
theorem nd_Truth_failing : nm_Truth_failing.Nodup := by decide +kernel
theorem fs_Truth_failing : FnScope nm_Truth_failing ps_Truth_failing sc_Truth_failing := ⟨rfl, rfl, rfl, nd_Truth_failing, rfl, by decide +kernel, by decide +kernel⟩
def w_Truth_failing_1 (C_Truth : Addr) (sp_Truth_banned_by sp_pieces_of : DSp) : WS :=
  (wSeq (wSet 7 (wCall sp_pieces_of (wCons (wVar 6) (wCons (wVar 4) wNil))))
    (wIf (wB (wBin (dIs not) (wVar 7) (wC .non))) (wRet (wVar 7)) wNext))
def w_Truth_failing (C_Truth : Addr) (sp_Truth_banned_by sp_pieces_of : DSp) : WS :=
  (wSeq (wAsg (.tp [2, 3]) (wVar 1))
    (wSeq (wSet 4 (wLcF (wIt (wVar 2)) (.nm 5) [5] wYes (wMeth C_Truth "banned_by" sp_Truth_banned_by (wVar 0) (wCons (wVar 5) wNil))))
    (wSeq (wFor (wIt (wMeth C_Truth "banned_by" sp_Truth_banned_by (wVar 0) (wCons (wVar 3) wNil))) (.nm 6) (w_Truth_failing_1 C_Truth sp_Truth_banned_by sp_pieces_of))
    (wRet (wC .non)))))
theorem b_Truth_failing {P : Program} {w : World} {K : PySem.W.Frag} {mg : PySem.Str → Option Value} {base : Heap} {k : Nat} {f : Addr} {C_Truth : Addr} (g : G K mg C_Truth) {sp_Truth_banned_by sp_pieces_of : DSp} (h_Truth_banned_by : MetD P w K mg base k C_Truth "banned_by" sp_Truth_banned_by) (h_pieces_of : CalD P w K mg base k "pieces_of" sp_pieces_of) (cdv : Value) (A : Around) (outer : List PySem.Env) (s : Shared) (H : Hp) (E : XK) (hr : Room k (A.deeper (envOfC "Truth.failing" sc_Truth_failing s.heap.objs.size f cdv))) :
    DSs (cx P w K mg base nm_Truth_failing "Truth.failing" sc_Truth_failing f cdv A outer s H E) (defBody st_Truth_failing) (w_Truth_failing C_Truth sp_Truth_banned_by sp_pieces_of) :=
  (dss_cons (sAsg (xV 1) (gG (pgs1 (gN 2 nd_Truth_failing) (pgs1 (gN 3 nd_Truth_failing) pgs0))))
    (dss_cons (sSetLcF 4 (own := [(("premise" : PySem.Str), 5)]) nd_Truth_failing (show BlkOk nm_Truth_failing sc_Truth_failing _ [(("premise" : PySem.Str), 5)] from blk (by decide +kernel)) (di_expr (xV 2)) (fun _ _ _ _ _ => (gN 5 nd_Truth_failing)) (fun _ _ _ _ _ => dts_nil) (fun _ _ _ _ _ => (de_meth h_Truth_banned_by hr (by omega) (xV 0) (xArg (xV 5) da_nil))))
    (dss_cons (sFor (di_expr (de_meth h_Truth_banned_by hr (by omega) (xV 0) (xArg (xV 3) da_nil))) (gN 6 nd_Truth_failing) (dss_cons (sSet 7 nd_Truth_failing (xF h_pieces_of hr (xArg (xV 6) (xArg (xV 4) da_nil))))
    (dss_one (ds_if (tIsN (xV 7) xNon) (dss_one (ds_ret (xV 7))) dss_nil))))
    (dss_one (ds_ret xNon)))))
/-! failing_lines -/
abbrev st_failing_lines : Stmt := top 29
abbrev sc_failing_lines : Scope := defScope st_failing_lines
abbrev nm_failing_lines : List PySem.Str := [("bans" : PySem.Str), ("sequent" : PySem.Str)]
abbrev ps_failing_lines : List PySem.Str := [("bans" : PySem.Str), ("sequent" : PySem.Str)]
theorem nd_failing_lines : nm_failing_lines.Nodup := by decide +kernel
theorem fs_failing_lines : FnScope nm_failing_lines ps_failing_lines sc_failing_lines := ⟨rfl, rfl, rfl, nd_failing_lines, rfl, by decide +kernel, by decide +kernel⟩
def w_failing_lines (C_Truth : Addr) (sp_Truth___init__ sp_Truth_failing : DSp) : WS :=
  (wRet (wMeth C_Truth "failing" sp_Truth_failing (wMake C_Truth sp_Truth___init__ (wCons (wVar 0) wNil)) (wCons (wVar 1) wNil)))
theorem b_failing_lines {P : Program} {w : World} {K : PySem.W.Frag} {mg : PySem.Str → Option Value} {base : Heap} {k : Nat} {f : Addr} {C_Truth : Addr} (g : G K mg C_Truth) {sp_Truth___init__ sp_Truth_failing : DSp} (h_Truth___init__ : MakD P w K mg base k "Truth" C_Truth sp_Truth___init__) (h_Truth_failing : MetD P w K mg base k C_Truth "failing" sp_Truth_failing) (cdv : Value) (A : Around) (outer : List PySem.Env) (s : Shared) (H : Hp) (E : XK) (hr : Room (k + 1) (A.deeper (envOfC "failing_lines" sc_failing_lines s.heap.objs.size f cdv))) :
    DSs (cx P w K mg base nm_failing_lines "failing_lines" sc_failing_lines f cdv A outer s H E) (defBody st_failing_lines) (w_failing_lines C_Truth sp_Truth___init__ sp_Truth_failing) :=
  (dss_one (ds_ret (de_meth h_Truth_failing hr (by omega) (de_make h_Truth___init__ hr (Nat.le_refl _) rfl (xArg (xV 0) da_nil)) (xArg (xV 1) da_nil))))
/-! holds -/
abbrev st_holds : Stmt := top 30
abbrev sc_holds : Scope := defScope st_holds
abbrev nm_holds : List PySem.Str := [("bans" : PySem.Str), ("sequent" : PySem.Str)]
abbrev ps_holds : List PySem.Str := [("bans" : PySem.Str), ("sequent" : PySem.Str)]
theorem nd_holds : nm_holds.Nodup := by decide +kernel
theorem fs_holds : FnScope nm_holds ps_holds sc_holds := ⟨rfl, rfl, rfl, nd_holds, rfl, by decide +kernel, by decide +kernel⟩
def w_holds (sp_failing_lines : DSp) : WS :=
  (wRet (wBin (dIs id) (wCall sp_failing_lines (wCons (wVar 0) (wCons (wVar 1) wNil))) (wC .non)))
theorem b_holds {P : Program} {w : World} {K : PySem.W.Frag} {mg : PySem.Str → Option Value} {base : Heap} {k : Nat} {f : Addr} {C_Truth : Addr} (g : G K mg C_Truth) {sp_failing_lines : DSp} (h_failing_lines : CalD P w K mg base k "failing_lines" sp_failing_lines) (cdv : Value) (A : Around) (outer : List PySem.Env) (s : Shared) (H : Hp) (E : XK) (hr : Room k (A.deeper (envOfC "holds" sc_holds s.heap.objs.size f cdv))) :
    DSs (cx P w K mg base nm_holds "holds" sc_holds f cdv A outer s H E) (defBody st_holds) (w_holds sp_failing_lines) :=
  (dss_one (ds_ret (xIs (xF h_failing_lines hr (xArg (xV 0) (xArg (xV 1) da_nil))) xNon)))
/-! _law_stir -/
abbrev st__law_stir : Stmt := top 32
abbrev sc__law_stir : Scope := defScope st__law_stir
abbrev nm__law_stir : List PySem.Str := [("seed" : PySem.Str), ("turn" : PySem.Str), ("x" : PySem.Str)]
abbrev ps__law_stir : List PySem.Str := [("seed" : PySem.Str), ("turn" : PySem.Str)]
theorem nd__law_stir : nm__law_stir.Nodup := by decide +kernel
theorem fs__law_stir : FnScope nm__law_stir ps__law_stir sc__law_stir := ⟨rfl, rfl, rfl, nd__law_stir, rfl, by decide +kernel, by decide +kernel⟩
def w__law_stir : WS :=
  (wSeq (wSet 2 (wBin dMod (wCall dInt1 (wCons (wBin dAdd (wBin dAdd (wBin dMul (wVar 0) (wC (.int 7681))) (wBin dMul (wVar 1) (wC (.int 104711)))) (wC (.int 31))) wNil)) (wC (.int 2147483647))))
    (wSeq (wSet 2 (wBin dMod (wCall dInt1 (wCons (wBin dAdd (wBin dAdd (wBin dMul (wVar 2) (wVar 2)) (wBin dMul (wC (.int 12289)) (wVar 1))) (wC (.int 5))) wNil)) (wC (.int 2147483629))))
    (wSeq (wSet 2 (wBin dMod (wCall dInt1 (wCons (wBin dAdd (wBin dAdd (wBin dMul (wVar 2) (wVar 2)) (wVar 0)) (wC (.int 786433))) wNil)) (wC (.int 2147483587))))
    (wRet (wBin dFdiv (wVar 2) (wC (.int 32)))))))
theorem b__law_stir {P : Program} {w : World} {K : PySem.W.Frag} {mg : PySem.Str → Option Value} {base : Heap} {k : Nat} {f : Addr} {C_Truth : Addr} (g : G K mg C_Truth) (cdv : Value) (A : Around) (outer : List PySem.Env) (s : Shared) (H : Hp) (E : XK) (hr : Room k (A.deeper (envOfC "_law_stir" sc__law_stir s.heap.objs.size f cdv))) :
    DSs (cx P w K mg base nm__law_stir "_law_stir" sc__law_stir f cdv A outer s H E) (defBody st__law_stir) (w__law_stir) :=
  (dss_cons (sSet 2 nd__law_stir (xMod (xTy call_int1 lift_int1 bt_int g.b_int (xArg (xAdd (xAdd (xMul (xV 0) xInt) (xMul (xV 1) xInt)) xInt) da_nil)) xInt))
    (dss_cons (sSet 2 nd__law_stir (xMod (xTy call_int1 lift_int1 bt_int g.b_int (xArg (xAdd (xAdd (xMul (xV 2) (xV 2)) (xMul xInt (xV 1))) xInt) da_nil)) xInt))
    (dss_cons (sSet 2 nd__law_stir (xMod (xTy call_int1 lift_int1 bt_int g.b_int (xArg (xAdd (xAdd (xMul (xV 2) (xV 2)) (xV 0)) xInt) da_nil)) xInt))
    (dss_one (ds_ret (xFdiv (xV 2) xInt))))))
/-! _law_source -/
abbrev st__law_source : Stmt := top 33
abbrev sc__law_source : Scope := defScope st__law_source
abbrev nm__law_source : List PySem.Str := [("script" : PySem.Str), ("k" : PySem.Str), ("cell" : PySem.Str)]
abbrev ps__law_source : List PySem.Str := [("script" : PySem.Str), ("k" : PySem.Str)]
theorem nd__law_source : nm__law_source.Nodup := by decide +kernel
theorem fs__law_source : FnScope nm__law_source ps__law_source sc__law_source := ⟨rfl, rfl, rfl, nd__law_source, rfl, by decide +kernel, by decide +kernel⟩
def w__law_source : WS :=
  (wSeq (wSet 2 (wC (.int 0)))
    (wSeq (wIf (wB (wBin dLt (wVar 1) (wCall dLen (wCons (wVar 0) wNil)))) (wSet 2 (wCall dInt1 (wCons (wBin dIxA (wVar 0) (wVar 1)) wNil))) wNext)
    (wSeq (wIf (wB (wBin dGe (wVar 2) (wBin dPow (wC (.int 10)) (wC (.int 18))))) (wRet (wLst (wCons (wBin dSub (wVar 2) (wBin dPow (wC (.int 10)) (wC (.int 18)))) (wCons (wBin dAdd (wVar 1) (wC (.int 1))) (wCons (wC (.int 0)) wNil))))) wNext)
    (wRet (wLst (wCons (wC (.int 0)) (wCons (wBin dAdd (wBin dAdd (wBin dMul (wBin dMod (wCall dInt1 (wCons (wCall dAbs (wCons (wVar 2) wNil)) wNil)) (wC (.int 1999999973))) (wC (.int 61))) (wVar 1)) (wC (.int 1))) (wCons (wC (.int 0)) wNil))))))))
theorem b__law_source {P : Program} {w : World} {K : PySem.W.Frag} {mg : PySem.Str → Option Value} {base : Heap} {k : Nat} {f : Addr} {C_Truth : Addr} (g : G K mg C_Truth) (cdv : Value) (A : Around) (outer : List PySem.Env) (s : Shared) (H : Hp) (E : XK) (hr : Room k (A.deeper (envOfC "_law_source" sc__law_source s.heap.objs.size f cdv))) :
    DSs (cx P w K mg base nm__law_source "_law_source" sc__law_source f cdv A outer s H E) (defBody st__law_source) (w__law_source) :=
  (dss_cons (sSet 2 nd__law_source xInt)
    (dss_cons (ds_if (tLt (xV 1) (xBi call_lenR lift_len boot_len g.b_len (xArg (xV 0) da_nil))) (dss_one (sSet 2 nd__law_source (xTy call_int1 lift_int1 bt_int g.b_int (xArg (xIx hr (xV 0) (xV 1)) da_nil)))) dss_nil)
    (dss_cons (ds_if (tGe (xV 2) (xPow xInt xInt)) (dss_one (ds_ret (de_lst (xArg (xSub (xV 2) (xPow xInt xInt)) (xArg (xAdd (xV 1) xInt) (xArg xInt da_nil)))))) dss_nil)
    (dss_one (ds_ret (de_lst (xArg xInt (xArg (xAdd (xAdd (xMul (xMod (xTy call_int1 lift_int1 bt_int g.b_int (xArg (xBi call_abs lift_abs bt_abs g.b_abs (xArg (xV 2) da_nil)) da_nil)) xInt) xInt) (xV 1)) xInt) (xArg xInt da_nil)))))))))
/-! _law_take -/
abbrev st__law_take : Stmt := top 34
abbrev sc__law_take : Scope := defScope st__law_take
abbrev nm__law_take : List PySem.Str := [("source" : PySem.Str), ("many" : PySem.Str), ("digit" : PySem.Str)]
abbrev ps__law_take : List PySem.Str := [("source" : PySem.Str), ("many" : PySem.Str)]
theorem nd__law_take : nm__law_take.Nodup := by decide +kernel
theorem fs__law_take : FnScope nm__law_take ps__law_take sc__law_take := ⟨rfl, rfl, rfl, nd__law_take, rfl, by decide +kernel, by decide +kernel⟩
def w__law_take (sp__law_stir : DSp) : WS :=
  (wSeq (wIf (wB (wBin dGt (wBin dIxA (wVar 0) (wC (.int 0))) (wC (.int 0)))) (wSeq (wSet 2 (wBin dMod (wCall dInt1 (wCons (wBin dIxA (wVar 0) (wC (.int 0))) wNil)) (wVar 1)))
    (wSeq (wPut (wBin dFdiv (wBin dIxA (wVar 0) (wC (.int 0))) (wVar 1)) (wVar 0) (wC (.int 0)))
    (wRet (wVar 2)))) wNext)
    (wSeq (wPut (wBin dAdd (wBin dIxA (wVar 0) (wC (.int 2))) (wC (.int 1))) (wVar 0) (wC (.int 2)))
    (wRet (wBin dMod (wCall dInt1 (wCons (wCall sp__law_stir (wCons (wBin dIxA (wVar 0) (wC (.int 1))) (wCons (wBin dIxA (wVar 0) (wC (.int 2))) wNil))) wNil)) (wVar 1)))))
theorem b__law_take {P : Program} {w : World} {K : PySem.W.Frag} {mg : PySem.Str → Option Value} {base : Heap} {k : Nat} {f : Addr} {C_Truth : Addr} (g : G K mg C_Truth) {sp__law_stir : DSp} (h__law_stir : CalD P w K mg base k "_law_stir" sp__law_stir) (cdv : Value) (A : Around) (outer : List PySem.Env) (s : Shared) (H : Hp) (E : XK) (hr : Room k (A.deeper (envOfC "_law_take" sc__law_take s.heap.objs.size f cdv))) :
    DSs (cx P w K mg base nm__law_take "_law_take" sc__law_take f cdv A outer s H E) (defBody st__law_take) (w__law_take sp__law_stir) :=
  (dss_cons (ds_if (tGt (xIx hr (xV 0) xInt) xInt) (dss_cons (sSet 2 nd__law_take (xMod (xTy call_int1 lift_int1 bt_int g.b_int (xArg (xIx hr (xV 0) xInt) da_nil)) (xV 1)))
    (dss_cons (sPut hr (xFdiv (xIx hr (xV 0) xInt) (xV 1)) (xV 0) xInt)
    (dss_one (ds_ret (xV 2))))) dss_nil)
    (dss_cons (sPut hr (xAdd (xIx hr (xV 0) xInt) xInt) (xV 0) xInt)
    (dss_one (ds_ret (xMod (xTy call_int1 lift_int1 bt_int g.b_int (xArg (xF h__law_stir hr (xArg (xIx hr (xV 0) xInt) (xArg (xIx hr (xV 0) xInt) da_nil))) da_nil)) (xV 1))))))
/-! _law_atom -/
abbrev st__law_atom : Stmt := top 35
abbrev sc__law_atom : Scope := defScope st__law_atom
abbrev nm__law_atom : List PySem.Str := [("source" : PySem.Str), ("letters" : PySem.Str), ("atom" : PySem.Str), ("k" : PySem.Str)]
abbrev ps__law_atom : List PySem.Str := [("source" : PySem.Str)]
theorem nd__law_atom : nm__law_atom.Nodup := by decide +kernel
theorem fs__law_atom : FnScope nm__law_atom ps__law_atom sc__law_atom := ⟨rfl, rfl, rfl, nd__law_atom, rfl, by decide +kernel, by decide +kernel⟩
def w__law_atom_1 (sp__law_take : DSp) : WS :=
  (wSet 2 (wBin dAdd (wVar 2) (wBin dIxA (wBin dAdd (wVar 1) (wC (.str "0123456789"))) (wCall sp__law_take (wCons (wVar 0) (wCons (wC (.int 36)) wNil))))))
def w__law_atom (sp__law_take : DSp) : WS :=
  (wSeq (wSet 1 (wC (.str "abcdefghijklmnopqrstuvwxyz")))
    (wSeq (wSet 2 (wBin dIxA (wVar 1) (wCall sp__law_take (wCons (wVar 0) (wCons (wC (.int 26)) wNil)))))
    (wSeq (wFor (wRange1 (wBin dIxA (wFl (wCons (wC (.int 0)) (wCons (wC (.int 0)) (wCons (wC (.int 1)) (wCons (wC (.int 7)) wNil))))) (wCall sp__law_take (wCons (wVar 0) (wCons (wC (.int 4)) wNil))))) (.nm 3) (w__law_atom_1 sp__law_take))
    (wRet (wVar 2)))))
theorem b__law_atom {P : Program} {w : World} {K : PySem.W.Frag} {mg : PySem.Str → Option Value} {base : Heap} {k : Nat} {f : Addr} {C_Truth : Addr} (g : G K mg C_Truth) {sp__law_take : DSp} (h__law_take : CalD P w K mg base k "_law_take" sp__law_take) (cdv : Value) (A : Around) (outer : List PySem.Env) (s : Shared) (H : Hp) (E : XK) (hr : Room k (A.deeper (envOfC "_law_atom" sc__law_atom s.heap.objs.size f cdv))) :
    DSs (cx P w K mg base nm__law_atom "_law_atom" sc__law_atom f cdv A outer s H E) (defBody st__law_atom) (w__law_atom sp__law_take) :=
  (dss_cons (sSet 1 nd__law_atom xStr)
    (dss_cons (sSet 2 nd__law_atom (xIx hr (xV 1) (xF h__law_take hr (xArg (xV 0) (xArg xInt da_nil)))))
    (dss_cons (sFor (iR1 g.b_range (xIx hr (de_fl (xArg xInt (xArg xInt (xArg xInt (xArg xInt da_nil))))) (xF h__law_take hr (xArg (xV 0) (xArg xInt da_nil))))) (gN 3 nd__law_atom) (dss_one (sSet 2 nd__law_atom (xAdd (xV 2) (xIx hr (xAdd (xV 1) xStr) (xF h__law_take hr (xArg (xV 0) (xArg xInt da_nil))))))))
    (dss_one (ds_ret (xV 2))))))
/-! _law_base -/
abbrev st__law_base : Stmt := top 36
abbrev sc__law_base : Scope := defScope st__law_base
abbrev nm__law_base : List PySem.Str := [("atom" : PySem.Str)]
abbrev ps__law_base : List PySem.Str := [("atom" : PySem.Str)]
theorem nd__law_base : nm__law_base.Nodup := by decide +kernel
theorem fs__law_base : FnScope nm__law_base ps__law_base sc__law_base := ⟨rfl, rfl, rfl, nd__law_base, rfl, by decide +kernel, by decide +kernel⟩
def w__law_base : WS :=
  (wRet (wBin dIxA (wPtn (wVar 0) (wC (.str "."))) (wC (.int 0))))
theorem b__law_base {P : Program} {w : World} {K : PySem.W.Frag} {mg : PySem.Str → Option Value} {base : Heap} {k : Nat} {f : Addr} {C_Truth : Addr} (g : G K mg C_Truth) (cdv : Value) (A : Around) (outer : List PySem.Env) (s : Shared) (H : Hp) (E : XK) (hr : Room k (A.deeper (envOfC "_law_base" sc__law_base s.heap.objs.size f cdv))) :
    DSs (cx P w K mg base nm__law_base "_law_base" sc__law_base f cdv A outer s H E) (defBody st__law_base) (w__law_base) :=
  (dss_one (ds_ret (xIx hr (de_partition (xV 0) xStr) xInt)))
/-! _law_names -/
abbrev st__law_names : Stmt := top 37
abbrev sc__law_names : Scope := defScope st__law_names
abbrev nm__law_names : List PySem.Str := [("source" : PySem.Str), ("many" : PySem.Str), ("names" : PySem.Str), ("k" : PySem.Str), ("atom" : PySem.Str)]
abbrev ps__law_names : List PySem.Str := [("source" : PySem.Str), ("many" : PySem.Str)]
theorem nd__law_names : nm__law_names.Nodup := by decide +kernel
theorem fs__law_names : FnScope nm__law_names ps__law_names sc__law_names := ⟨rfl, rfl, rfl, nd__law_names, rfl, by decide +kernel, by decide +kernel⟩
def w__law_names_1 (sp__law_atom sp__law_take sp__law_base : DSp) : WS :=
  (wSeq (wSet 4 (wCall sp__law_atom (wCons (wVar 0) wNil)))
    (wSeq (wIf (wB (wBin (dEq id) (wCall sp__law_take (wCons (wVar 0) (wCons (wC (.int 3)) wNil))) (wC (.int 0)))) (wSeq (wIf (wB (wBin dGt (wVar 3) (wC (.int 0)))) (wSet 4 (wCall sp__law_base (wCons (wBin dIxA (wVar 2) (wC (.int 0))) wNil))) wNext)
    (wSet 4 (wBin dAdd (wBin dAdd (wVar 4) (wC (.str "."))) (wCall dStr1 (wCons (wBin dAdd (wC (.int 1)) (wCall sp__law_take (wCons (wVar 0) (wCons (wBin dIxA (wFl (wCons (wC (.int 9)) (wCons (wC (.int 999999)) wNil))) (wCall sp__law_take (wCons (wVar 0) (wCons (wC (.int 2)) wNil)))) wNil)))) wNil))))) wNext)
    (wDrop (wApp (wVar 2) (wVar 4)))))
def w__law_names (sp__law_atom sp__law_take sp__law_base : DSp) : WS :=
  (wSeq (wSet 2 (wLst wNil))
    (wSeq (wFor (wRange1 (wVar 1)) (.nm 3) (w__law_names_1 sp__law_atom sp__law_take sp__law_base))
    (wRet (wVar 2))))
theorem b__law_names {P : Program} {w : World} {K : PySem.W.Frag} {mg : PySem.Str → Option Value} {base : Heap} {k : Nat} {f : Addr} {C_Truth : Addr} (g : G K mg C_Truth) {sp__law_atom sp__law_take sp__law_base : DSp} (h__law_atom : CalD P w K mg base k "_law_atom" sp__law_atom) (h__law_take : CalD P w K mg base k "_law_take" sp__law_take) (h__law_base : CalD P w K mg base k "_law_base" sp__law_base) (cdv : Value) (A : Around) (outer : List PySem.Env) (s : Shared) (H : Hp) (E : XK) (hr : Room k (A.deeper (envOfC "_law_names" sc__law_names s.heap.objs.size f cdv))) :
    DSs (cx P w K mg base nm__law_names "_law_names" sc__law_names f cdv A outer s H E) (defBody st__law_names) (w__law_names sp__law_atom sp__law_take sp__law_base) :=
  (dss_cons (sSet 2 nd__law_names (de_lst da_nil))
    (dss_cons (sFor (iR1 g.b_range (xV 1)) (gN 3 nd__law_names) (dss_cons (sSet 4 nd__law_names (xF h__law_atom hr (xArg (xV 0) da_nil)))
    (dss_cons (ds_if (tEq hr (xF h__law_take hr (xArg (xV 0) (xArg xInt da_nil))) xInt) (dss_cons (ds_if (tGt (xV 3) xInt) (dss_one (sSet 4 nd__law_names (xF h__law_base hr (xArg (xIx hr (xV 2) xInt) da_nil)))) dss_nil)
    (dss_one (sSet 4 nd__law_names (xAdd (xAdd (xV 4) xStr) (xTy call_str_int lift_str1 bt_str g.b_str (xArg (xAdd xInt (xF h__law_take hr (xArg (xV 0) (xArg (xIx hr (de_fl (xArg xInt (xArg xInt da_nil))) (xF h__law_take hr (xArg (xV 0) (xArg xInt da_nil)))) da_nil)))) da_nil)))))) dss_nil)
    (dss_one (sExpr (de_append (xV 2) (xV 4)))))))
    (dss_one (ds_ret (xV 2)))))
/-! _law_size -/
abbrev st__law_size : Stmt := top 38
abbrev sc__law_size : Scope := defScope st__law_size
abbrev nm__law_size : List PySem.Str := [("kind" : PySem.Str)]
abbrev ps__law_size : List PySem.Str := [("kind" : PySem.Str)]
theorem nd__law_size : nm__law_size.Nodup := by decide +kernel
theorem fs__law_size : FnScope nm__law_size ps__law_size sc__law_size := ⟨rfl, rfl, rfl, nd__law_size, rfl, by decide +kernel, by decide +kernel⟩
def w__law_size (sp__law_size : DSp) : WS :=
  (wSeq (wIf (wNotT (wTru (wIsi .tuple (wVar 0)))) (wRet (wC (.int 1))) wNext)
    (wRet (wBin dAdd (wCall sp__law_size (wCons (wBin dIxA (wVar 0) (wC (.int 1))) wNil)) (wCall sp__law_size (wCons (wBin dIxA (wVar 0) (wC (.int 2))) wNil)))))
theorem b__law_size {P : Program} {w : World} {K : PySem.W.Frag} {mg : PySem.Str → Option Value} {base : Heap} {k : Nat} {f : Addr} {C_Truth : Addr} (g : G K mg C_Truth) {sp__law_size : DSp} (h__law_size : CalD P w K mg base k "_law_size" sp__law_size) (cdv : Value) (A : Around) (outer : List PySem.Env) (s : Shared) (H : Hp) (E : XK) (hr : Room k (A.deeper (envOfC "_law_size" sc__law_size s.heap.objs.size f cdv))) :
    DSs (cx P w K mg base nm__law_size "_law_size" sc__law_size f cdv A outer s H E) (defBody st__law_size) (w__law_size sp__law_size) :=
  (dss_cons (ds_if (dt_not (tV (xIsi .tuple g.b_isinstance g.b_tuple (xV 0)))) (dss_one (ds_ret xInt)) dss_nil)
    (dss_one (ds_ret (xAdd (xF h__law_size hr (xArg (xIx hr (xV 0) xInt) da_nil)) (xF h__law_size hr (xArg (xIx hr (xV 0) xInt) da_nil))))))
/-! _law_leaves -/
abbrev st__law_leaves : Stmt := top 39
abbrev sc__law_leaves : Scope := defScope st__law_leaves
abbrev nm__law_leaves : List PySem.Str := [("kind" : PySem.Str)]
abbrev ps__law_leaves : List PySem.Str := [("kind" : PySem.Str)]
theorem nd__law_leaves : nm__law_leaves.Nodup := by decide +kernel
theorem fs__law_leaves : FnScope nm__law_leaves ps__law_leaves sc__law_leaves := ⟨rfl, rfl, rfl, nd__law_leaves, rfl, by decide +kernel, by decide +kernel⟩
def w__law_leaves (sp__law_leaves : DSp) : WS :=
  (wSeq (wIf (wNotT (wTru (wIsi .tuple (wVar 0)))) (wRet (wFl (wCons (wVar 0) wNil))) wNext)
    (wRet (wBin dAdd (wCall sp__law_leaves (wCons (wBin dIxA (wVar 0) (wC (.int 1))) wNil)) (wCall sp__law_leaves (wCons (wBin dIxA (wVar 0) (wC (.int 2))) wNil)))))
theorem b__law_leaves {P : Program} {w : World} {K : PySem.W.Frag} {mg : PySem.Str → Option Value} {base : Heap} {k : Nat} {f : Addr} {C_Truth : Addr} (g : G K mg C_Truth) {sp__law_leaves : DSp} (h__law_leaves : CalD P w K mg base k "_law_leaves" sp__law_leaves) (cdv : Value) (A : Around) (outer : List PySem.Env) (s : Shared) (H : Hp) (E : XK) (hr : Room k (A.deeper (envOfC "_law_leaves" sc__law_leaves s.heap.objs.size f cdv))) :
    DSs (cx P w K mg base nm__law_leaves "_law_leaves" sc__law_leaves f cdv A outer s H E) (defBody st__law_leaves) (w__law_leaves sp__law_leaves) :=
  (dss_cons (ds_if (dt_not (tV (xIsi .tuple g.b_isinstance g.b_tuple (xV 0)))) (dss_one (ds_ret (de_fl (xArg (xV 0) da_nil)))) dss_nil)
    (dss_one (ds_ret (xAdd (xF h__law_leaves hr (xArg (xIx hr (xV 0) xInt) da_nil)) (xF h__law_leaves hr (xArg (xIx hr (xV 0) xInt) da_nil))))))
/-! _law_spots -/
abbrev st__law_spots : Stmt := top 40
abbrev sc__law_spots : Scope := defScope st__law_spots
abbrev nm__law_spots : List PySem.Str := [("line" : PySem.Str), ("found" : PySem.Str), ("kind" : PySem.Str)]
abbrev ps__law_spots : List PySem.Str := [("line" : PySem.Str)]
theorem nd__law_spots : nm__law_spots.Nodup := by decide +kernel
theorem fs__law_spots : FnScope nm__law_spots ps__law_spots sc__law_spots := ⟨rfl, rfl, rfl, nd__law_spots, rfl, by decide +kernel, by decide +kernel⟩
def w__law_spots_1 (sp__law_leaves : DSp) : WS :=
  (wSet 1 (wBin dAddM (wVar 1) (wCall sp__law_leaves (wCons (wVar 2) wNil))))
def w__law_spots (sp__law_leaves : DSp) : WS :=
  (wSeq (wSet 1 (wLst wNil))
    (wSeq (wFor (wIt (wBin dAdd (wBin dIxA (wVar 0) (wC (.int 0))) (wTup (wCons (wBin dIxA (wVar 0) (wC (.int 1))) wNil)))) (.nm 2) (w__law_spots_1 sp__law_leaves))
    (wRet (wVar 1))))
theorem b__law_spots {P : Program} {w : World} {K : PySem.W.Frag} {mg : PySem.Str → Option Value} {base : Heap} {k : Nat} {f : Addr} {C_Truth : Addr} (g : G K mg C_Truth) {sp__law_leaves : DSp} (h__law_leaves : CalD P w K mg base k "_law_leaves" sp__law_leaves) (cdv : Value) (A : Around) (outer : List PySem.Env) (s : Shared) (H : Hp) (E : XK) (hr : Room k (A.deeper (envOfC "_law_spots" sc__law_spots s.heap.objs.size f cdv))) :
    DSs (cx P w K mg base nm__law_spots "_law_spots" sc__law_spots f cdv A outer s H E) (defBody st__law_spots) (w__law_spots sp__law_leaves) :=
  (dss_cons (sSet 1 nd__law_spots (de_lst da_nil))
    (dss_cons (sFor (di_expr (xAdd (xIx hr (xV 0) xInt) (de_tup (xArg (xIx hr (xV 0) xInt) da_nil)))) (gN 2 nd__law_spots) (dss_one (sSet 1 nd__law_spots (xAddM (xV 1) (xF h__law_leaves hr (xArg (xV 2) da_nil))))))
    (dss_one (ds_ret (xV 1)))))
/-! _law_bush -/
abbrev st__law_bush : Stmt := top 41
abbrev sc__law_bush : Scope := defScope st__law_bush
abbrev nm__law_bush : List PySem.Str := [("source" : PySem.Str), ("names" : PySem.Str), ("size" : PySem.Str), ("left" : PySem.Str), ("sign" : PySem.Str), ("first" : PySem.Str)]
abbrev ps__law_bush : List PySem.Str := [("source" : PySem.Str), ("names" : PySem.Str), ("size" : PySem.Str)]
theorem nd__law_bush : nm__law_bush.Nodup := by decide +kernel
theorem fs__law_bush : FnScope nm__law_bush ps__law_bush sc__law_bush := ⟨rfl, rfl, rfl, nd__law_bush, rfl, by decide +kernel, by decide +kernel⟩
def w__law_bush (sp__law_take sp__law_bush : DSp) : WS :=
  (wSeq (wIf (wB (wBin dLe (wVar 2) (wC (.int 1)))) (wRet (wBin dIxA (wVar 1) (wCall sp__law_take (wCons (wVar 0) (wCons (wCall dLen (wCons (wVar 1) wNil)) wNil))))) wNext)
    (wSeq (wSet 3 (wBin dAdd (wC (.int 1)) (wCall sp__law_take (wCons (wVar 0) (wCons (wBin dSub (wVar 2) (wC (.int 1))) wNil)))))
    (wSeq (wSet 4 (wBin dIxA (wC (.str "/>*")) (wCall sp__law_take (wCons (wVar 0) (wCons (wC (.int 3)) wNil)))))
    (wSeq (wSet 5 (wCall sp__law_bush (wCons (wVar 0) (wCons (wVar 1) (wCons (wVar 3) wNil)))))
    (wRet (wTup (wCons (wVar 4) (wCons (wVar 5) (wCons (wCall sp__law_bush (wCons (wVar 0) (wCons (wVar 1) (wCons (wBin dSub (wVar 2) (wVar 3)) wNil)))) wNil)))))))))
theorem b__law_bush {P : Program} {w : World} {K : PySem.W.Frag} {mg : PySem.Str → Option Value} {base : Heap} {k : Nat} {f : Addr} {C_Truth : Addr} (g : G K mg C_Truth) {sp__law_take sp__law_bush : DSp} (h__law_take : CalD P w K mg base k "_law_take" sp__law_take) (h__law_bush : CalD P w K mg base k "_law_bush" sp__law_bush) (cdv : Value) (A : Around) (outer : List PySem.Env) (s : Shared) (H : Hp) (E : XK) (hr : Room k (A.deeper (envOfC "_law_bush" sc__law_bush s.heap.objs.size f cdv))) :
    DSs (cx P w K mg base nm__law_bush "_law_bush" sc__law_bush f cdv A outer s H E) (defBody st__law_bush) (w__law_bush sp__law_take sp__law_bush) :=
  (dss_cons (ds_if (tLe (xV 2) xInt) (dss_one (ds_ret (xIx hr (xV 1) (xF h__law_take hr (xArg (xV 0) (xArg (xBi call_lenR lift_len boot_len g.b_len (xArg (xV 1) da_nil)) da_nil)))))) dss_nil)
    (dss_cons (sSet 3 nd__law_bush (xAdd xInt (xF h__law_take hr (xArg (xV 0) (xArg (xSub (xV 2) xInt) da_nil)))))
    (dss_cons (sSet 4 nd__law_bush (xIx hr xStr (xF h__law_take hr (xArg (xV 0) (xArg xInt da_nil)))))
    (dss_cons (sSet 5 nd__law_bush (xF h__law_bush hr (xArg (xV 0) (xArg (xV 1) (xArg (xV 3) da_nil)))))
    (dss_one (ds_ret (de_tup (xArg (xV 4) (xArg (xV 5) (xArg (xF h__law_bush hr (xArg (xV 0) (xArg (xV 1) (xArg (xSub (xV 2) (xV 3)) da_nil)))) da_nil))))))))))
/-! _law_bushes -/
abbrev st__law_bushes : Stmt := top 42
abbrev sc__law_bushes : Scope := defScope st__law_bushes
abbrev nm__law_bushes : List PySem.Str := [("source" : PySem.Str), ("names" : PySem.Str), ("many" : PySem.Str), ("cap" : PySem.Str), ("most" : PySem.Str), ("row" : PySem.Str), ("left" : PySem.Str), ("k" : PySem.Str), ("size" : PySem.Str)]
abbrev ps__law_bushes : List PySem.Str := [("source" : PySem.Str), ("names" : PySem.Str), ("many" : PySem.Str), ("cap" : PySem.Str), ("most" : PySem.Str)]
theorem nd__law_bushes : nm__law_bushes.Nodup := by decide +kernel
theorem fs__law_bushes : FnScope nm__law_bushes ps__law_bushes sc__law_bushes := ⟨rfl, rfl, rfl, nd__law_bushes, rfl, by decide +kernel, by decide +kernel⟩
def w__law_bushes_1 (sp__law_take sp__law_bush : DSp) : WS :=
  (wSeq (wSet 8 (wBin dAdd (wC (.int 1)) (wCall sp__law_take (wCons (wVar 0) (wCons (wCall dMax (wCons (wC (.int 1)) (wCons (wCall dMin (wCons (wVar 3) (wCons (wBin dAdd (wBin dSub (wVar 6) (wVar 2)) (wVar 7)) wNil))) wNil))) wNil)))))
    (wSeq (wSet 6 (wBin dSub (wVar 6) (wVar 8)))
    (wDrop (wApp (wVar 5) (wCall sp__law_bush (wCons (wVar 0) (wCons (wVar 1) (wCons (wVar 8) wNil))))))))
def w__law_bushes (sp__law_take sp__law_bush : DSp) : WS :=
  (wSeq (wSet 5 (wLst wNil))
    (wSeq (wSet 6 (wVar 4))
    (wSeq (wFor (wRange1 (wBin dAdd (wVar 2) (wC (.int 1)))) (.nm 7) (w__law_bushes_1 sp__law_take sp__law_bush))
    (wRet (wTup (wCons (wCall dTuple (wCons (wSl (wVar 5) (wPart (wC (.int 1))) wNoPart) wNil)) (wCons (wBin dIxA (wVar 5) (wC (.int 0))) wNil)))))))
theorem b__law_bushes {P : Program} {w : World} {K : PySem.W.Frag} {mg : PySem.Str → Option Value} {base : Heap} {k : Nat} {f : Addr} {C_Truth : Addr} (g : G K mg C_Truth) {sp__law_take sp__law_bush : DSp} (h__law_take : CalD P w K mg base k "_law_take" sp__law_take) (h__law_bush : CalD P w K mg base k "_law_bush" sp__law_bush) (cdv : Value) (A : Around) (outer : List PySem.Env) (s : Shared) (H : Hp) (E : XK) (hr : Room k (A.deeper (envOfC "_law_bushes" sc__law_bushes s.heap.objs.size f cdv))) :
    DSs (cx P w K mg base nm__law_bushes "_law_bushes" sc__law_bushes f cdv A outer s H E) (defBody st__law_bushes) (w__law_bushes sp__law_take sp__law_bush) :=
  (dss_cons (sSet 5 nd__law_bushes (de_lst da_nil))
    (dss_cons (sSet 6 nd__law_bushes (xV 4))
    (dss_cons (sFor (iR1 g.b_range (xAdd (xV 2) xInt)) (gN 7 nd__law_bushes) (dss_cons (sSet 8 nd__law_bushes (xAdd xInt (xF h__law_take hr (xArg (xV 0) (xArg (xBi (call_maxR rfl) lift_max bt_max g.b_max (xArg xInt (xArg (xBi (call_minR rfl) lift_min bt_min g.b_min (xArg (xV 3) (xArg (xAdd (xSub (xV 6) (xV 2)) (xV 7)) da_nil))) da_nil))) da_nil)))))
    (dss_cons (sSet 6 nd__law_bushes (xSub (xV 6) (xV 8)))
    (dss_one (sExpr (de_append (xV 5) (xF h__law_bush hr (xArg (xV 0) (xArg (xV 1) (xArg (xV 8) da_nil))))))))))
    (dss_one (ds_ret (de_tup (xArg (xTy call_tuple_of lift_tuple bt_tuple g.b_tuple (xArg (de_slice (xV 5) (do_some xInt) do_none) da_nil)) (xArg (xIx hr (xV 5) xInt) da_nil))))))))
/-! _law_poured -/
abbrev st__law_poured : Stmt := top 43
abbrev sc__law_poured : Scope := defScope st__law_poured
abbrev nm__law_poured : List PySem.Str := [("kind" : PySem.Str), ("rest" : PySem.Str), ("first" : PySem.Str)]
abbrev ps__law_poured : List PySem.Str := [("kind" : PySem.Str), ("rest" : PySem.Str)]
theorem nd__law_poured : nm__law_poured.Nodup := by decide +kernel
theorem fs__law_poured : FnScope nm__law_poured ps__law_poured sc__law_poured := ⟨rfl, rfl, rfl, nd__law_poured, rfl, by decide +kernel, by decide +kernel⟩
def w__law_poured (sp__law_poured : DSp) : WS :=
  (wSeq (wIf (wNotT (wTru (wIsi .tuple (wVar 0)))) (wRet (wPop (wVar 1))) wNext)
    (wSeq (wSet 2 (wCall sp__law_poured (wCons (wBin dIxA (wVar 0) (wC (.int 1))) (wCons (wVar 1) wNil))))
    (wRet (wTup (wCons (wBin dIxA (wVar 0) (wC (.int 0))) (wCons (wVar 2) (wCons (wCall sp__law_poured (wCons (wBin dIxA (wVar 0) (wC (.int 2))) (wCons (wVar 1) wNil))) wNil)))))))
theorem b__law_poured {P : Program} {w : World} {K : PySem.W.Frag} {mg : PySem.Str → Option Value} {base : Heap} {k : Nat} {f : Addr} {C_Truth : Addr} (g : G K mg C_Truth) {sp__law_poured : DSp} (h__law_poured : CalD P w K mg base k "_law_poured" sp__law_poured) (cdv : Value) (A : Around) (outer : List PySem.Env) (s : Shared) (H : Hp) (E : XK) (hr : Room k (A.deeper (envOfC "_law_poured" sc__law_poured s.heap.objs.size f cdv))) :
    DSs (cx P w K mg base nm__law_poured "_law_poured" sc__law_poured f cdv A outer s H E) (defBody st__law_poured) (w__law_poured sp__law_poured) :=
  (dss_cons (ds_if (dt_not (tV (xIsi .tuple g.b_isinstance g.b_tuple (xV 0)))) (dss_one (ds_ret (de_pop (xV 1)))) dss_nil)
    (dss_cons (sSet 2 nd__law_poured (xF h__law_poured hr (xArg (xIx hr (xV 0) xInt) (xArg (xV 1) da_nil))))
    (dss_one (ds_ret (de_tup (xArg (xIx hr (xV 0) xInt) (xArg (xV 2) (xArg (xF h__law_poured hr (xArg (xIx hr (xV 0) xInt) (xArg (xV 1) da_nil))) da_nil))))))))
/-! _law_refilled -/
abbrev st__law_refilled : Stmt := top 44
abbrev sc__law_refilled : Scope := defScope st__law_refilled
abbrev nm__law_refilled : List PySem.Str := [("line" : PySem.Str), ("atoms" : PySem.Str), ("rest" : PySem.Str), ("row" : PySem.Str), ("kind" : PySem.Str)]
abbrev ps__law_refilled : List PySem.Str := [("line" : PySem.Str), ("atoms" : PySem.Str)]
theorem nd__law_refilled : nm__law_refilled.Nodup := by decide +kernel
theorem fs__law_refilled : FnScope nm__law_refilled ps__law_refilled sc__law_refilled := ⟨rfl, rfl, rfl, nd__law_refilled, rfl, by decide +kernel, by decide +kernel⟩
def w__law_refilled_1 (sp__law_poured : DSp) : WS :=
  (wDrop (wApp (wVar 3) (wCall sp__law_poured (wCons (wVar 4) (wCons (wVar 2) wNil)))))
def w__law_refilled (sp__law_poured : DSp) : WS :=
  (wSeq (wSet 2 (wListRev (wVar 1)))
    (wSeq (wSet 3 (wLst wNil))
    (wSeq (wFor (wIt (wBin dIxA (wVar 0) (wC (.int 0)))) (.nm 4) (w__law_refilled_1 sp__law_poured))
    (wRet (wTup (wCons (wCall dTuple (wCons (wVar 3) wNil)) (wCons (wCall sp__law_poured (wCons (wBin dIxA (wVar 0) (wC (.int 1))) (wCons (wVar 2) wNil))) wNil)))))))
theorem b__law_refilled {P : Program} {w : World} {K : PySem.W.Frag} {mg : PySem.Str → Option Value} {base : Heap} {k : Nat} {f : Addr} {C_Truth : Addr} (g : G K mg C_Truth) {sp__law_poured : DSp} (h__law_poured : CalD P w K mg base k "_law_poured" sp__law_poured) (cdv : Value) (A : Around) (outer : List PySem.Env) (s : Shared) (H : Hp) (E : XK) (hr : Room k (A.deeper (envOfC "_law_refilled" sc__law_refilled s.heap.objs.size f cdv))) :
    DSs (cx P w K mg base nm__law_refilled "_law_refilled" sc__law_refilled f cdv A outer s H E) (defBody st__law_refilled) (w__law_refilled sp__law_poured) :=
  (dss_cons (sSet 2 nd__law_refilled (xListRev g.b_list g.b_reversed (xV 1)))
    (dss_cons (sSet 3 nd__law_refilled (de_lst da_nil))
    (dss_cons (sFor (di_expr (xIx hr (xV 0) xInt)) (gN 4 nd__law_refilled) (dss_one (sExpr (de_append (xV 3) (xF h__law_poured hr (xArg (xV 4) (xArg (xV 2) da_nil)))))))
    (dss_one (ds_ret (de_tup (xArg (xTy call_tuple_of lift_tuple bt_tuple g.b_tuple (xArg (xV 3) da_nil)) (xArg (xF h__law_poured hr (xArg (xIx hr (xV 0) xInt) (xArg (xV 2) da_nil))) da_nil))))))))
/-! _law_below -/
abbrev st__law_below : Stmt := top 45
abbrev sc__law_below : Scope := defScope st__law_below
abbrev nm__law_below : List PySem.Str := [("rule" : PySem.Str), ("at" : PySem.Str), ("lines" : PySem.Str), ("row" : PySem.Str), ("goal" : PySem.Str), ("inner" : PySem.Str), ("met" : PySem.Str), ("wide" : PySem.Str), ("spot" : PySem.Str)]
abbrev ps__law_below : List PySem.Str := [("rule" : PySem.Str), ("at" : PySem.Str), ("lines" : PySem.Str)]
theorem nd__law_below : nm__law_below.Nodup := by decide +kernel
theorem fs__law_below : FnScope nm__law_below ps__law_below sc__law_below := ⟨rfl, rfl, rfl, nd__law_below, rfl, by decide +kernel, by decide +kernel⟩
def w__law_below : WS :=
  (wSeq (wAsg (.tp [3, 4]) (wBin dIxA (wVar 2) (wNeg (wC (.int 1)))))
    (wSeq (wIf (wB (wBin (dEq id) (wCall dLen (wCons (wVar 2) wNil)) (wC (.int 1)))) (wSeq (wIf (wAndT (wB (wBin (dEq id) (wVar 0) (wC (.str "over right")))) (wAndT (wB (wBin (dEq id) (wVar 1) (wC (.int 0)))) (wB (wBin dGt (wCall dLen (wCons (wVar 3) wNil)) (wC (.int 1)))))) (wRet (wTup (wCons (wSl (wVar 3) wNoPart (wPart (wNeg (wC (.int 1))))) (wCons (wTup (wCons (wC (.str "/")) (wCons (wVar 4) (wCons (wBin dIxA (wVar 3) (wNeg (wC (.int 1)))) wNil)))) (wCons (wC (.int 0)) wNil))))) wNext)
    (wSeq (wIf (wAndT (wB (wBin (dEq id) (wVar 0) (wC (.str "under right")))) (wAndT (wB (wBin (dEq id) (wVar 1) (wC (.int 0)))) (wB (wBin dGt (wCall dLen (wCons (wVar 3) wNil)) (wC (.int 1)))))) (wRet (wTup (wCons (wSl (wVar 3) (wPart (wC (.int 1))) wNoPart) (wCons (wTup (wCons (wC (.str ">")) (wCons (wBin dIxA (wVar 3) (wC (.int 0))) (wCons (wVar 4) wNil)))) (wCons (wC (.int 0)) wNil))))) wNext)
    (wSeq (wIf (wAndT (wB (wBin (dEq id) (wVar 0) (wC (.str "pair left")))) (wB (wChain dLe dLt (wC (.int 0)) (wVar 1) (wBin dSub (wCall dLen (wCons (wVar 3) wNil)) (wC (.int 1)))))) (wRet (wTup (wCons (wBin dAdd (wBin dAdd (wSl (wVar 3) wNoPart (wPart (wVar 1))) (wTup (wCons (wTup (wCons (wC (.str "*")) (wCons (wBin dIxA (wVar 3) (wVar 1)) (wCons (wBin dIxA (wVar 3) (wBin dAdd (wVar 1) (wC (.int 1)))) wNil)))) wNil))) (wSl (wVar 3) (wPart (wBin dAdd (wVar 1) (wC (.int 2)))) wNoPart)) (wCons (wVar 4) (wCons (wC (.int 0)) wNil))))) wNext)
    (wRet (wC .non))))) wNext)
    (wSeq (wAsg (.tp [5, 6]) (wBin dIxA (wVar 2) (wC (.int 0))))
    (wSeq (wSet 7 (wCall dLen (wCons (wVar 5) wNil)))
    (wSeq (wIf (wAndT (wB (wBin (dEq id) (wVar 0) (wC (.str "pair right")))) (wB (wBin (dEq id) (wVar 1) (wVar 7)))) (wRet (wTup (wCons (wBin dAdd (wVar 5) (wVar 3)) (wCons (wTup (wCons (wC (.str "*")) (wCons (wVar 6) (wCons (wVar 4) wNil)))) (wCons (wC (.int 0)) wNil))))) wNext)
    (wSeq (wIf (wAndT (wB (wBin (dEq id) (wVar 0) (wC (.str "over left")))) (wB (wChain dLe dLt (wC (.int 0)) (wVar 1) (wCall dLen (wCons (wVar 3) wNil))))) (wRet (wTup (wCons (wBin dAdd (wBin dAdd (wBin dAdd (wSl (wVar 3) wNoPart (wPart (wVar 1))) (wTup (wCons (wTup (wCons (wC (.str "/")) (wCons (wBin dIxA (wVar 3) (wVar 1)) (wCons (wVar 6) wNil)))) wNil))) (wVar 5)) (wSl (wVar 3) (wPart (wBin dAdd (wVar 1) (wC (.int 1)))) wNoPart)) (wCons (wVar 4) (wCons (wVar 7) wNil))))) wNext)
    (wSeq (wIf (wAndT (wB (wBin (dEq id) (wVar 0) (wC (.str "under left")))) (wB (wChain dLe dLt (wC (.int 0)) (wBin dSub (wVar 1) (wVar 7)) (wCall dLen (wCons (wVar 3) wNil))))) (wSeq (wSet 8 (wBin dSub (wVar 1) (wVar 7)))
    (wRet (wTup (wCons (wBin dAdd (wBin dAdd (wBin dAdd (wSl (wVar 3) wNoPart (wPart (wVar 8))) (wVar 5)) (wTup (wCons (wTup (wCons (wC (.str ">")) (wCons (wVar 6) (wCons (wBin dIxA (wVar 3) (wVar 8)) wNil)))) wNil))) (wSl (wVar 3) (wPart (wBin dAdd (wVar 8) (wC (.int 1)))) wNoPart)) (wCons (wVar 4) (wCons (wVar 7) wNil)))))) wNext)
    (wSeq (wIf (wAndT (wB (wBin (dEq id) (wVar 0) (wC (.str "cut")))) (wAndT (wB (wChain dLe dLt (wC (.int 0)) (wVar 1) (wCall dLen (wCons (wVar 3) wNil)))) (wB (wBin (dEq id) (wBin dIxA (wVar 3) (wVar 1)) (wVar 6))))) (wRet (wTup (wCons (wBin dAdd (wBin dAdd (wSl (wVar 3) wNoPart (wPart (wVar 1))) (wVar 5)) (wSl (wVar 3) (wPart (wBin dAdd (wVar 1) (wC (.int 1)))) wNoPart)) (wCons (wVar 4) (wCons (wVar 7) wNil))))) wNext)
    (wRet (wC .non))))))))))
theorem b__law_below {P : Program} {w : World} {K : PySem.W.Frag} {mg : PySem.Str → Option Value} {base : Heap} {k : Nat} {f : Addr} {C_Truth : Addr} (g : G K mg C_Truth) (cdv : Value) (A : Around) (outer : List PySem.Env) (s : Shared) (H : Hp) (E : XK) (hr : Room k (A.deeper (envOfC "_law_below" sc__law_below s.heap.objs.size f cdv))) :
    DSs (cx P w K mg base nm__law_below "_law_below" sc__law_below f cdv A outer s H E) (defBody st__law_below) (w__law_below) :=
  (dss_cons (sAsg (xIx hr (xV 2) (de_neg xInt)) (gG (pgs1 (gN 3 nd__law_below) (pgs1 (gN 4 nd__law_below) pgs0))))
    (dss_cons (ds_if (tEq hr (xBi call_lenR lift_len boot_len g.b_len (xArg (xV 2) da_nil)) xInt) (dss_cons (ds_if (tW (dw_and (tEq hr (xV 0) xStr) (dw_and (tEq hr (xV 1) xInt) (dw_and1 (tGt (xBi call_lenR lift_len boot_len g.b_len (xArg (xV 3) da_nil)) xInt))))) (dss_one (ds_ret (de_tup (xArg (de_slice (xV 3) do_none (do_some (de_neg xInt))) (xArg (de_tup (xArg xStr (xArg (xV 4) (xArg (xIx hr (xV 3) (de_neg xInt)) da_nil)))) (xArg xInt da_nil)))))) dss_nil)
    (dss_cons (ds_if (tW (dw_and (tEq hr (xV 0) xStr) (dw_and (tEq hr (xV 1) xInt) (dw_and1 (tGt (xBi call_lenR lift_len boot_len g.b_len (xArg (xV 3) da_nil)) xInt))))) (dss_one (ds_ret (de_tup (xArg (de_slice (xV 3) (do_some xInt) do_none) (xArg (de_tup (xArg xStr (xArg (xIx hr (xV 3) xInt) (xArg (xV 4) da_nil)))) (xArg xInt da_nil)))))) dss_nil)
    (dss_cons (ds_if (tW (dw_and (tEq hr (xV 0) xStr) (dw_and1 (tLeLt xInt (xV 1) (xSub (xBi call_lenR lift_len boot_len g.b_len (xArg (xV 3) da_nil)) xInt))))) (dss_one (ds_ret (de_tup (xArg (xAdd (xAdd (de_slice (xV 3) do_none (do_some (xV 1))) (de_tup (xArg (de_tup (xArg xStr (xArg (xIx hr (xV 3) (xV 1)) (xArg (xIx hr (xV 3) (xAdd (xV 1) xInt)) da_nil)))) da_nil))) (de_slice (xV 3) (do_some (xAdd (xV 1) xInt)) do_none)) (xArg (xV 4) (xArg xInt da_nil)))))) dss_nil)
    (dss_one (ds_ret xNon))))) dss_nil)
    (dss_cons (sAsg (xIx hr (xV 2) xInt) (gG (pgs1 (gN 5 nd__law_below) (pgs1 (gN 6 nd__law_below) pgs0))))
    (dss_cons (sSet 7 nd__law_below (xBi call_lenR lift_len boot_len g.b_len (xArg (xV 5) da_nil)))
    (dss_cons (ds_if (tW (dw_and (tEq hr (xV 0) xStr) (dw_and1 (tEq hr (xV 1) (xV 7))))) (dss_one (ds_ret (de_tup (xArg (xAdd (xV 5) (xV 3)) (xArg (de_tup (xArg xStr (xArg (xV 6) (xArg (xV 4) da_nil)))) (xArg xInt da_nil)))))) dss_nil)
    (dss_cons (ds_if (tW (dw_and (tEq hr (xV 0) xStr) (dw_and1 (tLeLt xInt (xV 1) (xBi call_lenR lift_len boot_len g.b_len (xArg (xV 3) da_nil)))))) (dss_one (ds_ret (de_tup (xArg (xAdd (xAdd (xAdd (de_slice (xV 3) do_none (do_some (xV 1))) (de_tup (xArg (de_tup (xArg xStr (xArg (xIx hr (xV 3) (xV 1)) (xArg (xV 6) da_nil)))) da_nil))) (xV 5)) (de_slice (xV 3) (do_some (xAdd (xV 1) xInt)) do_none)) (xArg (xV 4) (xArg (xV 7) da_nil)))))) dss_nil)
    (dss_cons (ds_if (tW (dw_and (tEq hr (xV 0) xStr) (dw_and1 (tLeLt xInt (xSub (xV 1) (xV 7)) (xBi call_lenR lift_len boot_len g.b_len (xArg (xV 3) da_nil)))))) (dss_cons (sSet 8 nd__law_below (xSub (xV 1) (xV 7)))
    (dss_one (ds_ret (de_tup (xArg (xAdd (xAdd (xAdd (de_slice (xV 3) do_none (do_some (xV 8))) (xV 5)) (de_tup (xArg (de_tup (xArg xStr (xArg (xV 6) (xArg (xIx hr (xV 3) (xV 8)) da_nil)))) da_nil))) (de_slice (xV 3) (do_some (xAdd (xV 8) xInt)) do_none)) (xArg (xV 4) (xArg (xV 7) da_nil))))))) dss_nil)
    (dss_cons (ds_if (tW (dw_and (tEq hr (xV 0) xStr) (dw_and (tLeLt xInt (xV 1) (xBi call_lenR lift_len boot_len g.b_len (xArg (xV 3) da_nil))) (dw_and1 (tEq hr (xIx hr (xV 3) (xV 1)) (xV 6)))))) (dss_one (ds_ret (de_tup (xArg (xAdd (xAdd (de_slice (xV 3) do_none (do_some (xV 1))) (xV 5)) (de_slice (xV 3) (do_some (xAdd (xV 1) xInt)) do_none)) (xArg (xV 4) (xArg (xV 7) da_nil)))))) dss_nil)
    (dss_one (ds_ret xNon))))))))))
/-! _law_axiom -/
abbrev st__law_axiom : Stmt := top 46
abbrev sc__law_axiom : Scope := defScope st__law_axiom
abbrev nm__law_axiom : List PySem.Str := [("atom" : PySem.Str)]
abbrev ps__law_axiom : List PySem.Str := [("atom" : PySem.Str)]
theorem nd__law_axiom : nm__law_axiom.Nodup := by decide +kernel
theorem fs__law_axiom : FnScope nm__law_axiom ps__law_axiom sc__law_axiom := ⟨rfl, rfl, rfl, nd__law_axiom, rfl, by decide +kernel, by decide +kernel⟩
def w__law_axiom : WS :=
  (wRet (wTup (wCons (wC (.str "axiom")) (wCons (wTup (wCons (wVar 0) wNil)) (wCons (wVar 0) (wCons (wC (.int 0)) (wCons (wC (.int 0)) (wCons (wTup wNil) wNil))))))))
theorem b__law_axiom {P : Program} {w : World} {K : PySem.W.Frag} {mg : PySem.Str → Option Value} {base : Heap} {k : Nat} {f : Addr} {C_Truth : Addr} (g : G K mg C_Truth) (cdv : Value) (A : Around) (outer : List PySem.Env) (s : Shared) (H : Hp) (E : XK) (hr : Room k (A.deeper (envOfC "_law_axiom" sc__law_axiom s.heap.objs.size f cdv))) :
    DSs (cx P w K mg base nm__law_axiom "_law_axiom" sc__law_axiom f cdv A outer s H E) (defBody st__law_axiom) (w__law_axiom) :=
  (dss_one (ds_ret (de_tup (xArg xStr (xArg (de_tup (xArg (xV 0) da_nil)) (xArg (xV 0) (xArg xInt (xArg xInt (xArg (de_tup da_nil) da_nil)))))))))
/-! _law_step -/
abbrev st__law_step : Stmt := top 47
abbrev sc__law_step : Scope := defScope st__law_step
abbrev nm__law_step : List PySem.Str := [("rule" : PySem.Str), ("at" : PySem.Str), ("parts" : PySem.Str), ("made" : PySem.Str), ("part" : PySem.Str)]
abbrev ps__law_step : List PySem.Str := [("rule" : PySem.Str), ("at" : PySem.Str), ("parts" : PySem.Str)]
theorem nd__law_step : nm__law_step.Nodup := by decide +kernel
theorem fs__law_step : FnScope nm__law_step ps__law_step sc__law_step := ⟨rfl, rfl, rfl, nd__law_step, rfl, by decide +kernel, by decide +kernel⟩
def w__law_step (sp__law_below : DSp) : WS :=
  (wSeq (wSet 3 (wCall sp__law_below (wCons (wVar 0) (wCons (wVar 1) (wCons (wLcF (wIt (wVar 2)) (.nm 4) [4] wYes (wTup (wCons (wBin dIxA (wVar 4) (wC (.int 1))) (wCons (wBin dIxA (wVar 4) (wC (.int 2))) wNil)))) wNil)))))
    (wSeq (wIf (wB (wBin (dIs id) (wVar 3) (wC .non))) (wRet (wC .non)) wNext)
    (wRet (wTup (wCons (wVar 0) (wCons (wBin dIxA (wVar 3) (wC (.int 0))) (wCons (wBin dIxA (wVar 3) (wC (.int 1))) (wCons (wVar 1) (wCons (wBin dIxA (wVar 3) (wC (.int 2))) (wCons (wCall dTuple (wCons (wVar 2) wNil)) wNil))))))))))
theorem b__law_step {P : Program} {w : World} {K : PySem.W.Frag} {mg : PySem.Str → Option Value} {base : Heap} {k : Nat} {f : Addr} {C_Truth : Addr} (g : G K mg C_Truth) {sp__law_below : DSp} (h__law_below : CalD P w K mg base k "_law_below" sp__law_below) (cdv : Value) (A : Around) (outer : List PySem.Env) (s : Shared) (H : Hp) (E : XK) (hr : Room k (A.deeper (envOfC "_law_step" sc__law_step s.heap.objs.size f cdv))) :
    DSs (cx P w K mg base nm__law_step "_law_step" sc__law_step f cdv A outer s H E) (defBody st__law_step) (w__law_step sp__law_below) :=
  (dss_cons (sSet 3 nd__law_step (xF h__law_below hr (xArg (xV 0) (xArg (xV 1) (xArg (xLcF (own := [(("part" : PySem.Str), 4)]) nd__law_step (show BlkOk nm__law_step sc__law_step _ [(("part" : PySem.Str), 4)] from blk (by decide +kernel)) (di_expr (xV 2)) (fun _ _ _ _ _ => (gN 4 nd__law_step)) (fun _ _ _ _ _ => dts_nil) (fun _ _ _ _ _ => (de_tup (xArg (xIx hr (xV 4) xInt) (xArg (xIx hr (xV 4) xInt) da_nil))))) da_nil)))))
    (dss_cons (ds_if (tIs (xV 3) xNon) (dss_one (ds_ret xNon)) dss_nil)
    (dss_one (ds_ret (de_tup (xArg (xV 0) (xArg (xIx hr (xV 3) xInt) (xArg (xIx hr (xV 3) xInt) (xArg (xV 1) (xArg (xIx hr (xV 3) xInt) (xArg (xTy call_tuple_of lift_tuple bt_tuple g.b_tuple (xArg (xV 2) da_nil)) da_nil)))))))))))
/-! _law_grown -/
abbrev st__law_grown : Stmt := top 48
abbrev sc__law_grown : Scope := defScope st__law_grown
abbrev nm__law_grown : List PySem.Str := [("source" : PySem.Str), ("names" : PySem.Str), ("leaves" : PySem.Str), ("paper" : PySem.Str), ("left" : PySem.Str), ("one" : PySem.Str), ("two" : PySem.Str), ("way" : PySem.Str), ("at" : PySem.Str), ("turn" : PySem.Str)]
abbrev ps__law_grown : List PySem.Str := [("source" : PySem.Str), ("names" : PySem.Str), ("leaves" : PySem.Str)]
theorem nd__law_grown : nm__law_grown.Nodup := by decide +kernel
theorem fs__law_grown : FnScope nm__law_grown ps__law_grown sc__law_grown := ⟨rfl, rfl, rfl, nd__law_grown, rfl, by decide +kernel, by decide +kernel⟩
def w__law_grown_1 (sp__law_take sp__law_axiom sp__law_grown sp__law_step sp__law_turned : DSp) : WS :=
  (wSet 3 (wCall sp__law_turned (wCons (wVar 3) (wCons (wCall sp__law_take (wCons (wVar 0) (wCons (wC (.int 9)) wNil))) (wCons (wCall sp__law_take (wCons (wVar 0) (wCons (wC (.int 40)) wNil))) wNil)))))
def w__law_grown (sp__law_take sp__law_axiom sp__law_grown sp__law_step sp__law_turned : DSp) : WS :=
  (wSeq (wIf (wB (wBin dLe (wVar 2) (wC (.int 1)))) (wSet 3 (wCall sp__law_axiom (wCons (wBin dIxA (wVar 1) (wCall sp__law_take (wCons (wVar 0) (wCons (wCall dLen (wCons (wVar 1) wNil)) wNil)))) wNil))) (wSeq (wSet 4 (wBin dAdd (wC (.int 1)) (wCall sp__law_take (wCons (wVar 0) (wCons (wBin dSub (wVar 2) (wC (.int 1))) wNil)))))
    (wSeq (wSet 5 (wCall sp__law_grown (wCons (wVar 0) (wCons (wVar 1) (wCons (wVar 4) wNil)))))
    (wSeq (wSet 6 (wCall sp__law_grown (wCons (wVar 0) (wCons (wVar 1) (wCons (wBin dSub (wVar 2) (wVar 4)) wNil)))))
    (wSeq (wSet 7 (wCall sp__law_take (wCons (wVar 0) (wCons (wC (.int 5)) wNil))))
    (wSeq (wSet 8 (wCall sp__law_take (wCons (wVar 0) (wCons (wCall dLen (wCons (wBin dIxA (wVar 6) (wC (.int 1))) wNil)) wNil))))
    (wIf (wB (wBin (dEq id) (wVar 7) (wC (.int 4)))) (wSet 3 (wCall sp__law_step (wCons (wC (.str "pair right")) (wCons (wCall dLen (wCons (wBin dIxA (wVar 5) (wC (.int 1))) wNil)) (wCons (wFl (wCons (wVar 5) (wCons (wVar 6) wNil))) wNil))))) (wIf (wB (wBin dGt (wVar 7) (wC (.int 1)))) (wSet 3 (wCall sp__law_step (wCons (wC (.str "over left")) (wCons (wVar 8) (wCons (wFl (wCons (wVar 5) (wCons (wVar 6) wNil))) wNil))))) (wSet 3 (wCall sp__law_step (wCons (wC (.str "under left")) (wCons (wBin dAdd (wVar 8) (wCall dLen (wCons (wBin dIxA (wVar 5) (wC (.int 1))) wNil))) (wCons (wFl (wCons (wVar 5) (wCons (wVar 6) wNil))) wNil)))))))))))))
    (wSeq (wFor (wRange1 (wC (.int 3))) (.nm 9) (w__law_grown_1 sp__law_take sp__law_axiom sp__law_grown sp__law_step sp__law_turned))
    (wRet (wVar 3))))
theorem b__law_grown {P : Program} {w : World} {K : PySem.W.Frag} {mg : PySem.Str → Option Value} {base : Heap} {k : Nat} {f : Addr} {C_Truth : Addr} (g : G K mg C_Truth) {sp__law_take sp__law_axiom sp__law_grown sp__law_step sp__law_turned : DSp} (h__law_take : CalD P w K mg base k "_law_take" sp__law_take) (h__law_axiom : CalD P w K mg base k "_law_axiom" sp__law_axiom) (h__law_grown : CalD P w K mg base k "_law_grown" sp__law_grown) (h__law_step : CalD P w K mg base k "_law_step" sp__law_step) (h__law_turned : CalD P w K mg base k "_law_turned" sp__law_turned) (cdv : Value) (A : Around) (outer : List PySem.Env) (s : Shared) (H : Hp) (E : XK) (hr : Room k (A.deeper (envOfC "_law_grown" sc__law_grown s.heap.objs.size f cdv))) :
    DSs (cx P w K mg base nm__law_grown "_law_grown" sc__law_grown f cdv A outer s H E) (defBody st__law_grown) (w__law_grown sp__law_take sp__law_axiom sp__law_grown sp__law_step sp__law_turned) :=
  (dss_cons (ds_if (tLe (xV 2) xInt) (dss_one (sSet 3 nd__law_grown (xF h__law_axiom hr (xArg (xIx hr (xV 1) (xF h__law_take hr (xArg (xV 0) (xArg (xBi call_lenR lift_len boot_len g.b_len (xArg (xV 1) da_nil)) da_nil)))) da_nil)))) (dss_cons (sSet 4 nd__law_grown (xAdd xInt (xF h__law_take hr (xArg (xV 0) (xArg (xSub (xV 2) xInt) da_nil)))))
    (dss_cons (sSet 5 nd__law_grown (xF h__law_grown hr (xArg (xV 0) (xArg (xV 1) (xArg (xV 4) da_nil)))))
    (dss_cons (sSet 6 nd__law_grown (xF h__law_grown hr (xArg (xV 0) (xArg (xV 1) (xArg (xSub (xV 2) (xV 4)) da_nil)))))
    (dss_cons (sSet 7 nd__law_grown (xF h__law_take hr (xArg (xV 0) (xArg xInt da_nil))))
    (dss_cons (sSet 8 nd__law_grown (xF h__law_take hr (xArg (xV 0) (xArg (xBi call_lenR lift_len boot_len g.b_len (xArg (xIx hr (xV 6) xInt) da_nil)) da_nil))))
    (dss_one (ds_if (tEq hr (xV 7) xInt) (dss_one (sSet 3 nd__law_grown (xF h__law_step hr (xArg xStr (xArg (xBi call_lenR lift_len boot_len g.b_len (xArg (xIx hr (xV 5) xInt) da_nil)) (xArg (de_fl (xArg (xV 5) (xArg (xV 6) da_nil))) da_nil)))))) (dss_one (ds_if (tGt (xV 7) xInt) (dss_one (sSet 3 nd__law_grown (xF h__law_step hr (xArg xStr (xArg (xV 8) (xArg (de_fl (xArg (xV 5) (xArg (xV 6) da_nil))) da_nil)))))) (dss_one (sSet 3 nd__law_grown (xF h__law_step hr (xArg xStr (xArg (xAdd (xV 8) (xBi call_lenR lift_len boot_len g.b_len (xArg (xIx hr (xV 5) xInt) da_nil))) (xArg (de_fl (xArg (xV 5) (xArg (xV 6) da_nil))) da_nil))))))))))))))))
    (dss_cons (sFor (iR1 g.b_range xInt) (gN 9 nd__law_grown) (dss_one (sSet 3 nd__law_grown (xF h__law_turned hr (xArg (xV 3) (xArg (xF h__law_take hr (xArg (xV 0) (xArg xInt da_nil))) (xArg (xF h__law_take hr (xArg (xV 0) (xArg xInt da_nil))) da_nil)))))))
    (dss_one (ds_ret (xV 3)))))
/-! _law_turned -/
abbrev st__law_turned : Stmt := top 49
abbrev sc__law_turned : Scope := defScope st__law_turned
abbrev nm__law_turned : List PySem.Str := [("paper" : PySem.Str), ("way" : PySem.Str), ("at" : PySem.Str), ("many" : PySem.Str), ("made" : PySem.Str), ("kind" : PySem.Str)]
abbrev ps__law_turned : List PySem.Str := [("paper" : PySem.Str), ("way" : PySem.Str), ("at" : PySem.Str)]
theorem nd__law_turned : nm__law_turned.Nodup := by decide +kernel
theorem fs__law_turned : FnScope nm__law_turned ps__law_turned sc__law_turned := ⟨rfl, rfl, rfl, nd__law_turned, rfl, by decide +kernel, by decide +kernel⟩
def w__law_turned (sp__law_step sp__law_size : DSp) : WS :=
  (wSeq (wSet 3 (wCall dLen (wCons (wBin dIxA (wVar 0) (wC (.int 1))) wNil)))
    (wSeq (wIf (wOrT (wB (wBin dGt (wVar 1) (wC (.int 2)))) (wB (wBin dLt (wVar 3) (wC (.int 2))))) (wRet (wVar 0)) wNext)
    (wSeq (wIf (wB (wBin (dEq id) (wVar 1) (wC (.int 0)))) (wSet 4 (wCall sp__law_step (wCons (wC (.str "over right")) (wCons (wC (.int 0)) (wCons (wFl (wCons (wVar 0) wNil)) wNil))))) (wIf (wB (wBin (dEq id) (wVar 1) (wC (.int 1)))) (wSet 4 (wCall sp__law_step (wCons (wC (.str "under right")) (wCons (wC (.int 0)) (wCons (wFl (wCons (wVar 0) wNil)) wNil))))) (wSet 4 (wCall sp__law_step (wCons (wC (.str "pair left")) (wCons (wBin dMod (wCall dInt1 (wCons (wVar 2) wNil)) (wBin dSub (wVar 3) (wC (.int 1)))) (wCons (wFl (wCons (wVar 0) wNil)) wNil)))))))
    (wSeq (wIf (wB (wBin dGt (wCall dMax (wCons (wLcF (wIt (wBin dAdd (wBin dIxA (wVar 4) (wC (.int 1))) (wTup (wCons (wBin dIxA (wVar 4) (wC (.int 2))) wNil)))) (.nm 5) [5] wYes (wCall sp__law_size (wCons (wVar 5) wNil))) wNil)) (wC (.int 40)))) (wRet (wVar 0)) wNext)
    (wRet (wVar 4))))))
theorem b__law_turned {P : Program} {w : World} {K : PySem.W.Frag} {mg : PySem.Str → Option Value} {base : Heap} {k : Nat} {f : Addr} {C_Truth : Addr} (g : G K mg C_Truth) {sp__law_step sp__law_size : DSp} (h__law_step : CalD P w K mg base k "_law_step" sp__law_step) (h__law_size : CalD P w K mg base k "_law_size" sp__law_size) (cdv : Value) (A : Around) (outer : List PySem.Env) (s : Shared) (H : Hp) (E : XK) (hr : Room k (A.deeper (envOfC "_law_turned" sc__law_turned s.heap.objs.size f cdv))) :
    DSs (cx P w K mg base nm__law_turned "_law_turned" sc__law_turned f cdv A outer s H E) (defBody st__law_turned) (w__law_turned sp__law_step sp__law_size) :=
  (dss_cons (sSet 3 nd__law_turned (xBi call_lenR lift_len boot_len g.b_len (xArg (xIx hr (xV 0) xInt) da_nil)))
    (dss_cons (ds_if (tW (dw_or (tGt (xV 1) xInt) (dw_or1 (tLt (xV 3) xInt)))) (dss_one (ds_ret (xV 0))) dss_nil)
    (dss_cons (ds_if (tEq hr (xV 1) xInt) (dss_one (sSet 4 nd__law_turned (xF h__law_step hr (xArg xStr (xArg xInt (xArg (de_fl (xArg (xV 0) da_nil)) da_nil)))))) (dss_one (ds_if (tEq hr (xV 1) xInt) (dss_one (sSet 4 nd__law_turned (xF h__law_step hr (xArg xStr (xArg xInt (xArg (de_fl (xArg (xV 0) da_nil)) da_nil)))))) (dss_one (sSet 4 nd__law_turned (xF h__law_step hr (xArg xStr (xArg (xMod (xTy call_int1 lift_int1 bt_int g.b_int (xArg (xV 2) da_nil)) (xSub (xV 3) xInt)) (xArg (de_fl (xArg (xV 0) da_nil)) da_nil)))))))))
    (dss_cons (ds_if (tGt (xBi (call_maxR rfl) lift_max bt_max g.b_max (xArg (xLcF (own := [(("kind" : PySem.Str), 5)]) nd__law_turned (show BlkOk nm__law_turned sc__law_turned _ [(("kind" : PySem.Str), 5)] from blk (by decide +kernel)) (di_expr (xAdd (xIx hr (xV 4) xInt) (de_tup (xArg (xIx hr (xV 4) xInt) da_nil)))) (fun _ _ _ _ _ => (gN 5 nd__law_turned)) (fun _ _ _ _ _ => dts_nil) (fun _ _ _ _ _ => (xF h__law_size hr (xArg (xV 5) da_nil)))) da_nil)) xInt) (dss_one (ds_ret (xV 0))) dss_nil)
    (dss_one (ds_ret (xV 4)))))))
/-! _law_is_whole -/
abbrev st__law_is_whole : Stmt := top 50
abbrev sc__law_is_whole : Scope := defScope st__law_is_whole
abbrev nm__law_is_whole : List PySem.Str := [("told" : PySem.Str)]
abbrev ps__law_is_whole : List PySem.Str := [("told" : PySem.Str)]
theorem nd__law_is_whole : nm__law_is_whole.Nodup := by decide +kernel
theorem fs__law_is_whole : FnScope nm__law_is_whole ps__law_is_whole sc__law_is_whole := ⟨rfl, rfl, rfl, nd__law_is_whole, rfl, by decide +kernel, by decide +kernel⟩
def w__law_is_whole : WS :=
  (wRet (wAndV (wIsi .int (wVar 0)) (wNotV (wIsi .bool (wVar 0)))))
theorem b__law_is_whole {P : Program} {w : World} {K : PySem.W.Frag} {mg : PySem.Str → Option Value} {base : Heap} {k : Nat} {f : Addr} {C_Truth : Addr} (g : G K mg C_Truth) (cdv : Value) (A : Around) (outer : List PySem.Env) (s : Shared) (H : Hp) (E : XK) (hr : Room k (A.deeper (envOfC "_law_is_whole" sc__law_is_whole s.heap.objs.size f cdv))) :
    DSs (cx P w K mg base nm__law_is_whole "_law_is_whole" sc__law_is_whole f cdv A outer s H E) (defBody st__law_is_whole) (w__law_is_whole) :=
  (dss_one (ds_ret (de_and (xIsi .int g.b_isinstance g.b_int (xV 0)) (de_one (de_not (xIsi .bool g.b_isinstance g.b_bool (xV 0)))))))
/-! _law_alike -/
abbrev st__law_alike : Stmt := top 51
abbrev sc__law_alike : Scope := defScope st__law_alike
abbrev nm__law_alike : List PySem.Str := [("told" : PySem.Str), ("due" : PySem.Str), ("k" : PySem.Str)]
abbrev ps__law_alike : List PySem.Str := [("told" : PySem.Str), ("due" : PySem.Str)]
theorem nd__law_alike : nm__law_alike.Nodup := by decide +kernel
theorem fs__law_alike : FnScope nm__law_alike ps__law_alike sc__law_alike := ⟨rfl, rfl, rfl, nd__law_alike, rfl, by decide +kernel, by decide +kernel⟩
def w__law_alike_1 (sp__law_alike : DSp) : WS :=
  (wIf (wNotT (wTru (wCall sp__law_alike (wCons (wBin dIxA (wVar 0) (wVar 2)) (wCons (wBin dIxA (wVar 1) (wVar 2)) wNil))))) (wRet (wC (.bl false))) wNext)
def w__law_alike (sp__law_alike : DSp) : WS :=
  (wSeq (wIf (wTru (wIsi .tuple (wVar 1))) (wSeq (wIf (wOrT (wNotT (wTru (wIsi .tuple (wVar 0)))) (wB (wBin (dEq not) (wCall dLen (wCons (wVar 0) wNil)) (wCall dLen (wCons (wVar 1) wNil))))) (wRet (wC (.bl false))) wNext)
    (wSeq (wFor (wRange1 (wCall dLen (wCons (wVar 1) wNil))) (.nm 2) (w__law_alike_1 sp__law_alike))
    (wRet (wC (.bl true))))) wNext)
    (wSeq (wIf (wTru (wIsi .int (wVar 1))) (wRet (wAndV (wIsi .int (wVar 0)) (wAndV (wBin (dEq id) (wIsi .bool (wVar 0)) (wIsi .bool (wVar 1))) (wBin (dEq id) (wVar 0) (wVar 1))))) wNext)
    (wRet (wAndV (wIsi .str (wVar 0)) (wAndV (wIsi .str (wVar 1)) (wBin (dEq id) (wVar 0) (wVar 1)))))))
theorem b__law_alike {P : Program} {w : World} {K : PySem.W.Frag} {mg : PySem.Str → Option Value} {base : Heap} {k : Nat} {f : Addr} {C_Truth : Addr} (g : G K mg C_Truth) {sp__law_alike : DSp} (h__law_alike : CalD P w K mg base k "_law_alike" sp__law_alike) (cdv : Value) (A : Around) (outer : List PySem.Env) (s : Shared) (H : Hp) (E : XK) (hr : Room k (A.deeper (envOfC "_law_alike" sc__law_alike s.heap.objs.size f cdv))) :
    DSs (cx P w K mg base nm__law_alike "_law_alike" sc__law_alike f cdv A outer s H E) (defBody st__law_alike) (w__law_alike sp__law_alike) :=
  (dss_cons (ds_if (tV (xIsi .tuple g.b_isinstance g.b_tuple (xV 1))) (dss_cons (ds_if (tW (dw_or (dt_not (tV (xIsi .tuple g.b_isinstance g.b_tuple (xV 0)))) (dw_or1 (tNe hr (xBi call_lenR lift_len boot_len g.b_len (xArg (xV 0) da_nil)) (xBi call_lenR lift_len boot_len g.b_len (xArg (xV 1) da_nil)))))) (dss_one (ds_ret xBl)) dss_nil)
    (dss_cons (sFor (iR1 g.b_range (xBi call_lenR lift_len boot_len g.b_len (xArg (xV 1) da_nil))) (gN 2 nd__law_alike) (dss_one (ds_if (dt_not (tV (xF h__law_alike hr (xArg (xIx hr (xV 0) (xV 2)) (xArg (xIx hr (xV 1) (xV 2)) da_nil))))) (dss_one (ds_ret xBl)) dss_nil)))
    (dss_one (ds_ret xBl)))) dss_nil)
    (dss_cons (ds_if (tV (xIsi .int g.b_isinstance g.b_int (xV 1))) (dss_one (ds_ret (de_and (xIsi .int g.b_isinstance g.b_int (xV 0)) (de_and (xEq hr (xIsi .bool g.b_isinstance g.b_bool (xV 0)) (xIsi .bool g.b_isinstance g.b_bool (xV 1))) (de_one (xEq hr (xV 0) (xV 1))))))) dss_nil)
    (dss_one (ds_ret (de_and (xIsi .str g.b_isinstance g.b_str (xV 0)) (de_and (xIsi .str g.b_isinstance g.b_str (xV 1)) (de_one (xEq hr (xV 0) (xV 1)))))))))
/-! _law_pair_bans -/
abbrev st__law_pair_bans : Stmt := top 52
abbrev sc__law_pair_bans : Scope := defScope st__law_pair_bans
abbrev nm__law_pair_bans : List PySem.Str := [("bans" : PySem.Str), ("one" : PySem.Str), ("two" : PySem.Str), ("found" : PySem.Str), ("pair" : PySem.Str), ("good" : PySem.Str), ("line" : PySem.Str), ("i" : PySem.Str), ("j" : PySem.Str), ("halves" : PySem.Str), ("k" : PySem.Str)]
abbrev ps__law_pair_bans : List PySem.Str := [("bans" : PySem.Str), ("one" : PySem.Str), ("two" : PySem.Str)]
theorem nd__law_pair_bans : nm__law_pair_bans.Nodup := by decide +kernel
theorem fs__law_pair_bans : FnScope nm__law_pair_bans ps__law_pair_bans sc__law_pair_bans := ⟨rfl, rfl, rfl, nd__law_pair_bans, rfl, by decide +kernel, by decide +kernel⟩
def w__law_pair_bans_1 : WS :=
  (wSeq (wSet 9 (wLcF (wRange2 (wBin dAdd (wVar 7) (wC (.int 1))) (wVar 8)) (.nm 10) [10] (wAndT (wB (wBin (dIn not) (wSl (wVar 6) (wPart (wVar 7)) (wPart (wVar 10))) (wVar 1))) (wB (wBin (dIn not) (wSl (wVar 6) (wPart (wVar 10)) (wPart (wVar 8))) (wVar 2)))) (wVar 10)))
    (wIf (wB (wBin dGt (wCall dLen (wCons (wVar 9) wNil)) (wC (.int 0)))) (wPut (wC (.bl true)) (wVar 5) (wTup (wCons (wSl (wVar 6) wNoPart (wPart (wVar 7))) (wCons (wSl (wVar 6) (wPart (wVar 8)) wNoPart) wNil)))) wNext))
def w__law_pair_bans_2 : WS :=
  (wFor (wRange2 (wBin dAdd (wVar 7) (wC (.int 2))) (wBin dAdd (wCall dLen (wCons (wVar 6) wNil)) (wC (.int 1)))) (.nm 8) (w__law_pair_bans_1))
def w__law_pair_bans_3 : WS :=
  (wFor (wRange1 (wCall dLen (wCons (wVar 6) wNil))) (.nm 7) (w__law_pair_bans_2))
def w__law_pair_bans_4 : WS :=
  (wIf (wB (wBin (dIn not) (wTup (wCons (wSl (wVar 6) wNoPart (wPart (wVar 7))) (wCons (wSl (wVar 6) (wPart (wVar 8)) wNoPart) wNil))) (wVar 5))) (wPut (wC (.bl true)) (wVar 3) (wSl (wVar 6) (wPart (wVar 7)) (wPart (wVar 8)))) wNext)
def w__law_pair_bans_5 : WS :=
  (wFor (wRange2 (wBin dAdd (wVar 7) (wC (.int 1))) (wBin dAdd (wCall dLen (wCons (wVar 6) wNil)) (wC (.int 1)))) (.nm 8) (w__law_pair_bans_4))
def w__law_pair_bans_6 : WS :=
  (wFor (wRange1 (wCall dLen (wCons (wVar 6) wNil))) (.nm 7) (w__law_pair_bans_5))
def w__law_pair_bans_7 : WS :=
  (wSeq (wSet 5 wDnew)
    (wSeq (wFor (wIt (wBin dIxA (wVar 4) (wC (.int 1)))) (.nm 6) (w__law_pair_bans_3))
    (wFor (wIt (wBin dIxA (wVar 4) (wC (.int 1)))) (.nm 6) (w__law_pair_bans_6))))
def w__law_pair_bans : WS :=
  (wSeq (wSet 3 wDnew)
    (wSeq (wFor (wIt (wVar 0)) (.nm 4) (w__law_pair_bans_7))
    (wRet (wVar 3))))
theorem b__law_pair_bans {P : Program} {w : World} {K : PySem.W.Frag} {mg : PySem.Str → Option Value} {base : Heap} {k : Nat} {f : Addr} {C_Truth : Addr} (g : G K mg C_Truth) (cdv : Value) (A : Around) (outer : List PySem.Env) (s : Shared) (H : Hp) (E : XK) (hr : Room k (A.deeper (envOfC "_law_pair_bans" sc__law_pair_bans s.heap.objs.size f cdv))) :
    DSs (cx P w K mg base nm__law_pair_bans "_law_pair_bans" sc__law_pair_bans f cdv A outer s H E) (defBody st__law_pair_bans) (w__law_pair_bans) :=
  (dss_cons (sSet 3 nd__law_pair_bans de_dnew)
    (dss_cons (sFor (di_expr (xV 0)) (gN 4 nd__law_pair_bans) (dss_cons (sSet 5 nd__law_pair_bans de_dnew)
    (dss_cons (sFor (di_expr (xIx hr (xV 4) xInt)) (gN 6 nd__law_pair_bans) (dss_one (sFor (iR1 g.b_range (xBi call_lenR lift_len boot_len g.b_len (xArg (xV 6) da_nil))) (gN 7 nd__law_pair_bans) (dss_one (sFor (iR2 g.b_range (xAdd (xV 7) xInt) (xAdd (xBi call_lenR lift_len boot_len g.b_len (xArg (xV 6) da_nil)) xInt)) (gN 8 nd__law_pair_bans) (dss_cons (sSetLcF 9 (own := [(("k" : PySem.Str), 10)]) nd__law_pair_bans (show BlkOk nm__law_pair_bans sc__law_pair_bans _ [(("k" : PySem.Str), 10)] from blk (by decide +kernel)) (iR2 g.b_range (xAdd (xV 7) xInt) (xV 8)) (fun _ _ _ _ _ => (gN 10 nd__law_pair_bans)) (fun _ _ _ _ _ => (dts_one (tW (dw_and (tNIn hr (de_slice (xV 6) (do_some (xV 7)) (do_some (xV 10))) (xV 1)) (dw_and1 (tNIn hr (de_slice (xV 6) (do_some (xV 10)) (do_some (xV 8))) (xV 2))))))) (fun _ _ _ _ _ => (xV 10)))
    (dss_one (ds_if (tGt (xBi call_lenR lift_len boot_len g.b_len (xArg (xV 9) da_nil)) xInt) (dss_one (sPut hr xBl (xV 5) (de_tup (xArg (de_slice (xV 6) do_none (do_some (xV 7))) (xArg (de_slice (xV 6) (do_some (xV 8)) do_none) da_nil))))) dss_nil))))))))
    (dss_one (sFor (di_expr (xIx hr (xV 4) xInt)) (gN 6 nd__law_pair_bans) (dss_one (sFor (iR1 g.b_range (xBi call_lenR lift_len boot_len g.b_len (xArg (xV 6) da_nil))) (gN 7 nd__law_pair_bans) (dss_one (sFor (iR2 g.b_range (xAdd (xV 7) xInt) (xAdd (xBi call_lenR lift_len boot_len g.b_len (xArg (xV 6) da_nil)) xInt)) (gN 8 nd__law_pair_bans) (dss_one (ds_if (tNIn hr (de_tup (xArg (de_slice (xV 6) do_none (do_some (xV 7))) (xArg (de_slice (xV 6) (do_some (xV 8)) do_none) da_nil))) (xV 5)) (dss_one (sPut hr xBl (xV 3) (de_slice (xV 6) (do_some (xV 7)) (do_some (xV 8))))) dss_nil)))))))))))
    (dss_one (ds_ret (xV 3)))))
/-! _law_kind_bans -/
abbrev st__law_kind_bans : Stmt := top 53
abbrev sc__law_kind_bans : Scope := defScope st__law_kind_bans
abbrev nm__law_kind_bans : List PySem.Str := [("bans" : PySem.Str), ("kind" : PySem.Str), ("found" : PySem.Str), ("pair" : PySem.Str), ("line" : PySem.Str), ("one" : PySem.Str), ("two" : PySem.Str), ("k" : PySem.Str)]
abbrev ps__law_kind_bans : List PySem.Str := [("bans" : PySem.Str), ("kind" : PySem.Str)]
theorem nd__law_kind_bans : nm__law_kind_bans.Nodup := by decide +kernel
theorem fs__law_kind_bans : FnScope nm__law_kind_bans ps__law_kind_bans sc__law_kind_bans := ⟨rfl, rfl, rfl, nd__law_kind_bans, rfl, by decide +kernel, by decide +kernel⟩
def w__law_kind_bans_1 (sp__law_kind_bans sp__law_pair_bans : DSp) : WS :=
  (wPut (wC (.bl true)) (wVar 2) (wVar 4))
def w__law_kind_bans_2 (sp__law_kind_bans sp__law_pair_bans : DSp) : WS :=
  (wIf (wB (wBin (dEq id) (wBin dIxA (wVar 3) (wC (.int 0))) (wVar 1))) (wFor (wIt (wBin dIxA (wVar 3) (wC (.int 1)))) (.nm 4) (w__law_kind_bans_1 sp__law_kind_bans sp__law_pair_bans)) wNext)
def w__law_kind_bans_3 (sp__law_kind_bans sp__law_pair_bans : DSp) : WS :=
  (wIf (wB (wBin (dIn not) (wSl (wVar 4) (wPart (wVar 7)) wNoPart) (wVar 6))) (wPut (wC (.bl true)) (wVar 2) (wSl (wVar 4) wNoPart (wPart (wVar 7)))) wNext)
def w__law_kind_bans_4 (sp__law_kind_bans sp__law_pair_bans : DSp) : WS :=
  (wFor (wRange2 (wC (.int 1)) (wCall dLen (wCons (wVar 4) wNil))) (.nm 7) (w__law_kind_bans_3 sp__law_kind_bans sp__law_pair_bans))
def w__law_kind_bans_5 (sp__law_kind_bans sp__law_pair_bans : DSp) : WS :=
  (wIf (wB (wBin (dIn not) (wSl (wVar 4) wNoPart (wPart (wVar 7))) (wVar 5))) (wPut (wC (.bl true)) (wVar 2) (wSl (wVar 4) (wPart (wVar 7)) wNoPart)) wNext)
def w__law_kind_bans_6 (sp__law_kind_bans sp__law_pair_bans : DSp) : WS :=
  (wFor (wRange2 (wC (.int 1)) (wCall dLen (wCons (wVar 4) wNil))) (.nm 7) (w__law_kind_bans_5 sp__law_kind_bans sp__law_pair_bans))
def w__law_kind_bans (sp__law_kind_bans sp__law_pair_bans : DSp) : WS :=
  (wSeq (wSet 2 wDnew)
    (wSeq (wIf (wNotT (wTru (wIsi .tuple (wVar 1)))) (wSeq (wFor (wIt (wVar 0)) (.nm 3) (w__law_kind_bans_2 sp__law_kind_bans sp__law_pair_bans))
    (wRet (wVar 2))) wNext)
    (wSeq (wSet 5 (wCall sp__law_kind_bans (wCons (wVar 0) (wCons (wBin dIxA (wVar 1) (wC (.int 1))) wNil))))
    (wSeq (wSet 6 (wCall sp__law_kind_bans (wCons (wVar 0) (wCons (wBin dIxA (wVar 1) (wC (.int 2))) wNil))))
    (wSeq (wIf (wB (wBin (dEq id) (wBin dIxA (wVar 1) (wC (.int 0))) (wC (.str "*")))) (wRet (wCall sp__law_pair_bans (wCons (wVar 0) (wCons (wVar 5) (wCons (wVar 6) wNil))))) wNext)
    (wSeq (wIf (wB (wBin (dEq id) (wBin dIxA (wVar 1) (wC (.int 0))) (wC (.str "/")))) (wSeq (wFor (wIt (wVar 5)) (.nm 4) (w__law_kind_bans_4 sp__law_kind_bans sp__law_pair_bans))
    (wRet (wVar 2))) wNext)
    (wSeq (wFor (wIt (wVar 6)) (.nm 4) (w__law_kind_bans_6 sp__law_kind_bans sp__law_pair_bans))
    (wRet (wVar 2)))))))))
theorem b__law_kind_bans {P : Program} {w : World} {K : PySem.W.Frag} {mg : PySem.Str → Option Value} {base : Heap} {k : Nat} {f : Addr} {C_Truth : Addr} (g : G K mg C_Truth) {sp__law_kind_bans sp__law_pair_bans : DSp} (h__law_kind_bans : CalD P w K mg base k "_law_kind_bans" sp__law_kind_bans) (h__law_pair_bans : CalD P w K mg base k "_law_pair_bans" sp__law_pair_bans) (cdv : Value) (A : Around) (outer : List PySem.Env) (s : Shared) (H : Hp) (E : XK) (hr : Room k (A.deeper (envOfC "_law_kind_bans" sc__law_kind_bans s.heap.objs.size f cdv))) :
    DSs (cx P w K mg base nm__law_kind_bans "_law_kind_bans" sc__law_kind_bans f cdv A outer s H E) (defBody st__law_kind_bans) (w__law_kind_bans sp__law_kind_bans sp__law_pair_bans) :=
  (dss_cons (sSet 2 nd__law_kind_bans de_dnew)
    (dss_cons (ds_if (dt_not (tV (xIsi .tuple g.b_isinstance g.b_tuple (xV 1)))) (dss_cons (sFor (di_expr (xV 0)) (gN 3 nd__law_kind_bans) (dss_one (ds_if (tEq hr (xIx hr (xV 3) xInt) (xV 1)) (dss_one (sFor (di_expr (xIx hr (xV 3) xInt)) (gN 4 nd__law_kind_bans) (dss_one (sPut hr xBl (xV 2) (xV 4))))) dss_nil)))
    (dss_one (ds_ret (xV 2)))) dss_nil)
    (dss_cons (sSet 5 nd__law_kind_bans (xF h__law_kind_bans hr (xArg (xV 0) (xArg (xIx hr (xV 1) xInt) da_nil))))
    (dss_cons (sSet 6 nd__law_kind_bans (xF h__law_kind_bans hr (xArg (xV 0) (xArg (xIx hr (xV 1) xInt) da_nil))))
    (dss_cons (ds_if (tEq hr (xIx hr (xV 1) xInt) xStr) (dss_one (ds_ret (xF h__law_pair_bans hr (xArg (xV 0) (xArg (xV 5) (xArg (xV 6) da_nil)))))) dss_nil)
    (dss_cons (ds_if (tEq hr (xIx hr (xV 1) xInt) xStr) (dss_cons (sFor (di_expr (xV 5)) (gN 4 nd__law_kind_bans) (dss_one (sFor (iR2 g.b_range xInt (xBi call_lenR lift_len boot_len g.b_len (xArg (xV 4) da_nil))) (gN 7 nd__law_kind_bans) (dss_one (ds_if (tNIn hr (de_slice (xV 4) (do_some (xV 7)) do_none) (xV 6)) (dss_one (sPut hr xBl (xV 2) (de_slice (xV 4) do_none (do_some (xV 7))))) dss_nil)))))
    (dss_one (ds_ret (xV 2)))) dss_nil)
    (dss_cons (sFor (di_expr (xV 6)) (gN 4 nd__law_kind_bans) (dss_one (sFor (iR2 g.b_range xInt (xBi call_lenR lift_len boot_len g.b_len (xArg (xV 4) da_nil))) (gN 7 nd__law_kind_bans) (dss_one (ds_if (tNIn hr (de_slice (xV 4) do_none (do_some (xV 7))) (xV 5)) (dss_one (sPut hr xBl (xV 2) (de_slice (xV 4) (do_some (xV 7)) do_none))) dss_nil)))))
    (dss_one (ds_ret (xV 2))))))))))
/-! _law_ordered -/
abbrev st__law_ordered : Stmt := top 54
abbrev sc__law_ordered : Scope := defScope st__law_ordered
abbrev nm__law_ordered : List PySem.Str := [("lines" : PySem.Str), ("keyed" : PySem.Str), ("line" : PySem.Str), ("size" : PySem.Str)]
abbrev ps__law_ordered : List PySem.Str := [("lines" : PySem.Str)]
theorem nd__law_ordered : nm__law_ordered.Nodup := by decide +kernel
theorem fs__law_ordered : FnScope nm__law_ordered ps__law_ordered sc__law_ordered := ⟨rfl, rfl, rfl, nd__law_ordered, rfl, by decide +kernel, by decide +kernel⟩
def w__law_ordered : WS :=
  (wSeq (wSet 1 (wCall dSorted (wCons (wLcF (wIt (wVar 0)) (.nm 2) [2] wYes (wTup (wCons (wCall dLen (wCons (wVar 2) wNil)) (wCons (wVar 2) wNil)))) wNil)))
    (wRet (wCall dTuple (wCons (wLcF (wIt (wVar 1)) (.tp [3, 2]) [3, 2] wYes (wVar 2)) wNil))))
theorem b__law_ordered {P : Program} {w : World} {K : PySem.W.Frag} {mg : PySem.Str → Option Value} {base : Heap} {k : Nat} {f : Addr} {C_Truth : Addr} (g : G K mg C_Truth) (cdv : Value) (A : Around) (outer : List PySem.Env) (s : Shared) (H : Hp) (E : XK) (hr : Room k (A.deeper (envOfC "_law_ordered" sc__law_ordered s.heap.objs.size f cdv))) :
    DSs (cx P w K mg base nm__law_ordered "_law_ordered" sc__law_ordered f cdv A outer s H E) (defBody st__law_ordered) (w__law_ordered) :=
  (dss_cons (sSet 1 nd__law_ordered (xBi (call_frz (call_sortedA rfl hr.units)) lift_sorted bt_sorted g.b_sorted (xArg (xLcF (own := [(("line" : PySem.Str), 2)]) nd__law_ordered (show BlkOk nm__law_ordered sc__law_ordered _ [(("line" : PySem.Str), 2)] from blk (by decide +kernel)) (di_expr (xV 0)) (fun _ _ _ _ _ => (gN 2 nd__law_ordered)) (fun _ _ _ _ _ => dts_nil) (fun _ _ _ _ _ => (de_tup (xArg (xBi call_lenR lift_len boot_len g.b_len (xArg (xV 2) da_nil)) (xArg (xV 2) da_nil))))) da_nil)))
    (dss_one (ds_ret (xTy call_tuple_of lift_tuple bt_tuple g.b_tuple (xArg (xLcF (own := [(("size" : PySem.Str), 3), (("line" : PySem.Str), 2)]) nd__law_ordered (show BlkOk nm__law_ordered sc__law_ordered _ [(("size" : PySem.Str), 3), (("line" : PySem.Str), 2)] from blk (by decide +kernel)) (di_expr (xV 1)) (fun _ _ _ _ _ => (gG (pgs1 (gN 3 nd__law_ordered) (pgs1 (gN 2 nd__law_ordered) pgs0)))) (fun _ _ _ _ _ => dts_nil) (fun _ _ _ _ _ => (xV 2))) da_nil)))))
/-! _law_cuttable -/
abbrev st__law_cuttable : Stmt := top 55
abbrev sc__law_cuttable : Scope := defScope st__law_cuttable
abbrev nm__law_cuttable : List PySem.Str := [("line" : PySem.Str), ("banned" : PySem.Str), ("reach" : PySem.Str), ("lines" : PySem.Str), ("further" : PySem.Str), ("stop" : PySem.Str), ("start" : PySem.Str)]
abbrev ps__law_cuttable : List PySem.Str := [("line" : PySem.Str), ("banned" : PySem.Str)]
theorem nd__law_cuttable : nm__law_cuttable.Nodup := by decide +kernel
theorem fs__law_cuttable : FnScope nm__law_cuttable ps__law_cuttable sc__law_cuttable := ⟨rfl, rfl, rfl, nd__law_cuttable, rfl, by decide +kernel, by decide +kernel⟩
def w__law_cuttable_1 : WS :=
  (wIf (wB (wBin dGt (wCall dLen (wCons (wLcF (wIt (wVar 2)) (.nm 6) [6] (wAndT (wB (wBin dLt (wVar 6) (wVar 5))) (wB (wBin (dIn not) (wSl (wVar 0) (wPart (wVar 6)) (wPart (wVar 5))) (wVar 3)))) (wVar 6)) wNil)) (wC (.int 0)))) (wDrop (wApp (wVar 4) (wVar 5))) wNext)
def w__law_cuttable_2 : WS :=
  (wSeq (wSet 4 (wLst wNil))
    (wSeq (wFor (wRange2 (wC (.int 1)) (wBin dAdd (wCall dLen (wCons (wVar 0) wNil)) (wC (.int 1)))) (.nm 5) (w__law_cuttable_1))
    (wSet 2 (wVar 4))))
def w__law_cuttable : WS :=
  (wSeq (wSet 2 (wFl (wCons (wC (.int 0)) wNil)))
    (wSeq (wFor (wIt (wVar 1)) (.nm 3) (w__law_cuttable_2))
    (wRet (wBin (dIn id) (wCall dLen (wCons (wVar 0) wNil)) (wVar 2)))))
theorem b__law_cuttable {P : Program} {w : World} {K : PySem.W.Frag} {mg : PySem.Str → Option Value} {base : Heap} {k : Nat} {f : Addr} {C_Truth : Addr} (g : G K mg C_Truth) (cdv : Value) (A : Around) (outer : List PySem.Env) (s : Shared) (H : Hp) (E : XK) (hr : Room k (A.deeper (envOfC "_law_cuttable" sc__law_cuttable s.heap.objs.size f cdv))) :
    DSs (cx P w K mg base nm__law_cuttable "_law_cuttable" sc__law_cuttable f cdv A outer s H E) (defBody st__law_cuttable) (w__law_cuttable) :=
  (dss_cons (sSet 2 nd__law_cuttable (de_fl (xArg xInt da_nil)))
    (dss_cons (sFor (di_expr (xV 1)) (gN 3 nd__law_cuttable) (dss_cons (sSet 4 nd__law_cuttable (de_lst da_nil))
    (dss_cons (sFor (iR2 g.b_range xInt (xAdd (xBi call_lenR lift_len boot_len g.b_len (xArg (xV 0) da_nil)) xInt)) (gN 5 nd__law_cuttable) (dss_one (ds_if (tGt (xBi call_lenR lift_len boot_len g.b_len (xArg (xLcF (own := [(("start" : PySem.Str), 6)]) nd__law_cuttable (show BlkOk nm__law_cuttable sc__law_cuttable _ [(("start" : PySem.Str), 6)] from blk (by decide +kernel)) (di_expr (xV 2)) (fun _ _ _ _ _ => (gN 6 nd__law_cuttable)) (fun _ _ _ _ _ => (dts_one (tW (dw_and (tLt (xV 6) (xV 5)) (dw_and1 (tNIn hr (de_slice (xV 0) (do_some (xV 6)) (do_some (xV 5))) (xV 3))))))) (fun _ _ _ _ _ => (xV 6))) da_nil)) xInt) (dss_one (sExpr (de_append (xV 4) (xV 5)))) dss_nil)))
    (dss_one (sSet 2 nd__law_cuttable (xV 4))))))
    (dss_one (ds_ret (xIn hr (xBi call_lenR lift_len boot_len g.b_len (xArg (xV 0) da_nil)) (xV 2))))))
/-! _law_fails -/
abbrev st__law_fails : Stmt := top 56
abbrev sc__law_fails : Scope := defScope st__law_fails
abbrev nm__law_fails : List PySem.Str := [("bans" : PySem.Str), ("line" : PySem.Str), ("banned" : PySem.Str), ("kind" : PySem.Str), ("row" : PySem.Str)]
abbrev ps__law_fails : List PySem.Str := [("bans" : PySem.Str), ("line" : PySem.Str)]
theorem nd__law_fails : nm__law_fails.Nodup := by decide +kernel
theorem fs__law_fails : FnScope nm__law_fails ps__law_fails sc__law_fails := ⟨rfl, rfl, rfl, nd__law_fails, rfl, by decide +kernel, by decide +kernel⟩
def w__law_fails_1 (sp__law_kind_bans sp__law_cuttable : DSp) : WS :=
  (wIf (wTru (wCall sp__law_cuttable (wCons (wVar 4) (wCons (wVar 2) wNil)))) (wRet (wC (.bl true))) wNext)
def w__law_fails (sp__law_kind_bans sp__law_cuttable : DSp) : WS :=
  (wSeq (wSet 2 (wLcF (wIt (wBin dIxA (wVar 1) (wC (.int 0)))) (.nm 3) [3] wYes (wCall sp__law_kind_bans (wCons (wVar 0) (wCons (wVar 3) wNil)))))
    (wSeq (wFor (wIt (wCall sp__law_kind_bans (wCons (wVar 0) (wCons (wBin dIxA (wVar 1) (wC (.int 1))) wNil)))) (.nm 4) (w__law_fails_1 sp__law_kind_bans sp__law_cuttable))
    (wRet (wC (.bl false)))))
theorem b__law_fails {P : Program} {w : World} {K : PySem.W.Frag} {mg : PySem.Str → Option Value} {base : Heap} {k : Nat} {f : Addr} {C_Truth : Addr} (g : G K mg C_Truth) {sp__law_kind_bans sp__law_cuttable : DSp} (h__law_kind_bans : CalD P w K mg base k "_law_kind_bans" sp__law_kind_bans) (h__law_cuttable : CalD P w K mg base k "_law_cuttable" sp__law_cuttable) (cdv : Value) (A : Around) (outer : List PySem.Env) (s : Shared) (H : Hp) (E : XK) (hr : Room k (A.deeper (envOfC "_law_fails" sc__law_fails s.heap.objs.size f cdv))) :
    DSs (cx P w K mg base nm__law_fails "_law_fails" sc__law_fails f cdv A outer s H E) (defBody st__law_fails) (w__law_fails sp__law_kind_bans sp__law_cuttable) :=
  (dss_cons (sSetLcF 2 (own := [(("kind" : PySem.Str), 3)]) nd__law_fails (show BlkOk nm__law_fails sc__law_fails _ [(("kind" : PySem.Str), 3)] from blk (by decide +kernel)) (di_expr (xIx hr (xV 1) xInt)) (fun _ _ _ _ _ => (gN 3 nd__law_fails)) (fun _ _ _ _ _ => dts_nil) (fun _ _ _ _ _ => (xF h__law_kind_bans hr (xArg (xV 0) (xArg (xV 3) da_nil)))))
    (dss_cons (sFor (di_expr (xF h__law_kind_bans hr (xArg (xV 0) (xArg (xIx hr (xV 1) xInt) da_nil)))) (gN 4 nd__law_fails) (dss_one (ds_if (tV (xF h__law_cuttable hr (xArg (xV 4) (xArg (xV 2) da_nil)))) (dss_one (ds_ret xBl)) dss_nil)))
    (dss_one (ds_ret xBl))))
/-! _law_shows -/
abbrev st__law_shows : Stmt := top 57
abbrev sc__law_shows : Scope := defScope st__law_shows
abbrev nm__law_shows : List PySem.Str := [("bans" : PySem.Str), ("line" : PySem.Str), ("told" : PySem.Str), ("joined" : PySem.Str), ("k" : PySem.Str), ("mark" : PySem.Str)]
abbrev ps__law_shows : List PySem.Str := [("bans" : PySem.Str), ("line" : PySem.Str), ("told" : PySem.Str)]
theorem nd__law_shows : nm__law_shows.Nodup := by decide +kernel
theorem fs__law_shows : FnScope nm__law_shows ps__law_shows sc__law_shows := ⟨rfl, rfl, rfl, nd__law_shows, rfl, by decide +kernel, by decide +kernel⟩
def w__law_shows_1 (sp__law_is_whole sp__law_kind_bans : DSp) : WS :=
  (wSeq (wIf (wOrT (wNotT (wTru (wIsi .tuple (wBin dIxA (wVar 2) (wVar 4))))) (wOrT (wB (wBin (dEq id) (wCall dLen (wCons (wBin dIxA (wVar 2) (wVar 4)) wNil)) (wC (.int 0)))) (wB (wBin dGt (wCall dLen (wCons (wBin dIxA (wVar 2) (wVar 4)) wNil)) (wC (.int 100)))))) (wRet (wC (.bl false))) wNext)
    (wSeq (wIf (wB (wBin dGt (wCall dLen (wCons (wLcF (wIt (wBin dIxA (wVar 2) (wVar 4))) (.nm 5) [5] (wNotT (wTru (wCall sp__law_is_whole (wCons (wVar 5) wNil)))) (wVar 5)) wNil)) (wC (.int 0)))) (wRet (wC (.bl false))) wNext)
    (wSeq (wIf (wB (wBin (dIn id) (wBin dIxA (wVar 2) (wVar 4)) (wCall sp__law_kind_bans (wCons (wVar 0) (wCons (wBin dIxA (wBin dIxA (wVar 1) (wC (.int 0))) (wVar 4)) wNil))))) (wRet (wC (.bl false))) wNext)
    (wSet 3 (wBin dAdd (wVar 3) (wBin dIxA (wVar 2) (wVar 4)))))))
def w__law_shows (sp__law_is_whole sp__law_kind_bans : DSp) : WS :=
  (wSeq (wIf (wOrT (wNotT (wTru (wIsi .tuple (wVar 2)))) (wB (wBin (dEq not) (wCall dLen (wCons (wVar 2) wNil)) (wCall dLen (wCons (wBin dIxA (wVar 1) (wC (.int 0))) wNil))))) (wRet (wC (.bl false))) wNext)
    (wSeq (wSet 3 (wTup wNil))
    (wSeq (wFor (wRange1 (wCall dLen (wCons (wVar 2) wNil))) (.nm 4) (w__law_shows_1 sp__law_is_whole sp__law_kind_bans))
    (wRet (wBin (dIn id) (wVar 3) (wCall sp__law_kind_bans (wCons (wVar 0) (wCons (wBin dIxA (wVar 1) (wC (.int 1))) wNil))))))))
theorem b__law_shows {P : Program} {w : World} {K : PySem.W.Frag} {mg : PySem.Str → Option Value} {base : Heap} {k : Nat} {f : Addr} {C_Truth : Addr} (g : G K mg C_Truth) {sp__law_is_whole sp__law_kind_bans : DSp} (h__law_is_whole : CalD P w K mg base k "_law_is_whole" sp__law_is_whole) (h__law_kind_bans : CalD P w K mg base k "_law_kind_bans" sp__law_kind_bans) (cdv : Value) (A : Around) (outer : List PySem.Env) (s : Shared) (H : Hp) (E : XK) (hr : Room k (A.deeper (envOfC "_law_shows" sc__law_shows s.heap.objs.size f cdv))) :
    DSs (cx P w K mg base nm__law_shows "_law_shows" sc__law_shows f cdv A outer s H E) (defBody st__law_shows) (w__law_shows sp__law_is_whole sp__law_kind_bans) :=
  (dss_cons (ds_if (tW (dw_or (dt_not (tV (xIsi .tuple g.b_isinstance g.b_tuple (xV 2)))) (dw_or1 (tNe hr (xBi call_lenR lift_len boot_len g.b_len (xArg (xV 2) da_nil)) (xBi call_lenR lift_len boot_len g.b_len (xArg (xIx hr (xV 1) xInt) da_nil)))))) (dss_one (ds_ret xBl)) dss_nil)
    (dss_cons (sSet 3 nd__law_shows (de_tup da_nil))
    (dss_cons (sFor (iR1 g.b_range (xBi call_lenR lift_len boot_len g.b_len (xArg (xV 2) da_nil))) (gN 4 nd__law_shows) (dss_cons (ds_if (tW (dw_or (dt_not (tV (xIsi .tuple g.b_isinstance g.b_tuple (xIx hr (xV 2) (xV 4))))) (dw_or (tEq hr (xBi call_lenR lift_len boot_len g.b_len (xArg (xIx hr (xV 2) (xV 4)) da_nil)) xInt) (dw_or1 (tGt (xBi call_lenR lift_len boot_len g.b_len (xArg (xIx hr (xV 2) (xV 4)) da_nil)) xInt))))) (dss_one (ds_ret xBl)) dss_nil)
    (dss_cons (ds_if (tGt (xBi call_lenR lift_len boot_len g.b_len (xArg (xLcF (own := [(("mark" : PySem.Str), 5)]) nd__law_shows (show BlkOk nm__law_shows sc__law_shows _ [(("mark" : PySem.Str), 5)] from blk (by decide +kernel)) (di_expr (xIx hr (xV 2) (xV 4))) (fun _ _ _ _ _ => (gN 5 nd__law_shows)) (fun _ _ _ _ _ => (dts_one (dt_not (tV (xF h__law_is_whole hr (xArg (xV 5) da_nil)))))) (fun _ _ _ _ _ => (xV 5))) da_nil)) xInt) (dss_one (ds_ret xBl)) dss_nil)
    (dss_cons (ds_if (tIn hr (xIx hr (xV 2) (xV 4)) (xF h__law_kind_bans hr (xArg (xV 0) (xArg (xIx hr (xIx hr (xV 1) xInt) (xV 4)) da_nil)))) (dss_one (ds_ret xBl)) dss_nil)
    (dss_one (sSet 3 nd__law_shows (xAdd (xV 3) (xIx hr (xV 2) (xV 4)))))))))
    (dss_one (ds_ret (xIn hr (xV 3) (xF h__law_kind_bans hr (xArg (xV 0) (xArg (xIx hr (xV 1) xInt) da_nil)))))))))
/-! _law_is_truth -/
abbrev st__law_is_truth : Stmt := top 58
abbrev sc__law_is_truth : Scope := defScope st__law_is_truth
abbrev nm__law_is_truth : List PySem.Str := [("told" : PySem.Str), ("due" : PySem.Str)]
abbrev ps__law_is_truth : List PySem.Str := [("told" : PySem.Str), ("due" : PySem.Str)]
theorem nd__law_is_truth : nm__law_is_truth.Nodup := by decide +kernel
theorem fs__law_is_truth : FnScope nm__law_is_truth ps__law_is_truth sc__law_is_truth := ⟨rfl, rfl, rfl, nd__law_is_truth, rfl, by decide +kernel, by decide +kernel⟩
def w__law_is_truth : WS :=
  (wRet (wAndV (wIsi .bool (wVar 0)) (wBin (dEq id) (wVar 0) (wVar 1))))
theorem b__law_is_truth {P : Program} {w : World} {K : PySem.W.Frag} {mg : PySem.Str → Option Value} {base : Heap} {k : Nat} {f : Addr} {C_Truth : Addr} (g : G K mg C_Truth) (cdv : Value) (A : Around) (outer : List PySem.Env) (s : Shared) (H : Hp) (E : XK) (hr : Room k (A.deeper (envOfC "_law_is_truth" sc__law_is_truth s.heap.objs.size f cdv))) :
    DSs (cx P w K mg base nm__law_is_truth "_law_is_truth" sc__law_is_truth f cdv A outer s H E) (defBody st__law_is_truth) (w__law_is_truth) :=
  (dss_one (ds_ret (de_and (xIsi .bool g.b_isinstance g.b_bool (xV 0)) (de_one (xEq hr (xV 0) (xV 1))))))
/-! _law_move -/
abbrev st__law_move : Stmt := top 59
abbrev sc__law_move : Scope := defScope st__law_move
abbrev nm__law_move : List PySem.Str := [("line" : PySem.Str), ("way" : PySem.Str), ("at" : PySem.Str), ("row" : PySem.Str), ("goal" : PySem.Str), ("sign" : PySem.Str)]
abbrev ps__law_move : List PySem.Str := [("line" : PySem.Str), ("way" : PySem.Str), ("at" : PySem.Str)]
theorem nd__law_move : nm__law_move.Nodup := by decide +kernel
theorem fs__law_move : FnScope nm__law_move ps__law_move sc__law_move := ⟨rfl, rfl, rfl, nd__law_move, rfl, by decide +kernel, by decide +kernel⟩
def w__law_move : WS :=
  (wSeq (wAsg (.tp [3, 4]) (wVar 0))
    (wSeq (wSet 5 (wC (.str "none")))
    (wSeq (wIf (wTru (wIsi .tuple (wVar 4))) (wSet 5 (wBin dIxA (wVar 4) (wC (.int 0)))) wNext)
    (wSeq (wIf (wAndT (wB (wBin (dEq id) (wVar 1) (wC (.int 0)))) (wB (wBin dGt (wCall dLen (wCons (wVar 3) wNil)) (wC (.int 1))))) (wRet (wTup (wCons (wSl (wVar 3) wNoPart (wPart (wNeg (wC (.int 1))))) (wCons (wTup (wCons (wC (.str "/")) (wCons (wVar 4) (wCons (wBin dIxA (wVar 3) (wNeg (wC (.int 1)))) wNil)))) wNil)))) wNext)
    (wSeq (wIf (wAndT (wB (wBin (dEq id) (wVar 1) (wC (.int 1)))) (wB (wBin (dEq id) (wVar 5) (wC (.str "/"))))) (wRet (wTup (wCons (wBin dAdd (wVar 3) (wTup (wCons (wBin dIxA (wVar 4) (wC (.int 2))) wNil))) (wCons (wBin dIxA (wVar 4) (wC (.int 1))) wNil)))) wNext)
    (wSeq (wIf (wAndT (wB (wBin (dEq id) (wVar 1) (wC (.int 2)))) (wB (wBin dGt (wCall dLen (wCons (wVar 3) wNil)) (wC (.int 1))))) (wRet (wTup (wCons (wSl (wVar 3) (wPart (wC (.int 1))) wNoPart) (wCons (wTup (wCons (wC (.str ">")) (wCons (wBin dIxA (wVar 3) (wC (.int 0))) (wCons (wVar 4) wNil)))) wNil)))) wNext)
    (wSeq (wIf (wAndT (wB (wBin (dEq id) (wVar 1) (wC (.int 3)))) (wB (wBin (dEq id) (wVar 5) (wC (.str ">"))))) (wRet (wTup (wCons (wBin dAdd (wTup (wCons (wBin dIxA (wVar 4) (wC (.int 1))) wNil)) (wVar 3)) (wCons (wBin dIxA (wVar 4) (wC (.int 2))) wNil)))) wNext)
    (wSeq (wIf (wAndT (wB (wBin (dEq id) (wVar 1) (wC (.int 4)))) (wB (wBin dLt (wVar 2) (wBin dSub (wCall dLen (wCons (wVar 3) wNil)) (wC (.int 1)))))) (wRet (wTup (wCons (wBin dAdd (wBin dAdd (wSl (wVar 3) wNoPart (wPart (wVar 2))) (wTup (wCons (wTup (wCons (wC (.str "*")) (wCons (wBin dIxA (wVar 3) (wVar 2)) (wCons (wBin dIxA (wVar 3) (wBin dAdd (wVar 2) (wC (.int 1)))) wNil)))) wNil))) (wSl (wVar 3) (wPart (wBin dAdd (wVar 2) (wC (.int 2)))) wNoPart)) (wCons (wVar 4) wNil)))) wNext)
    (wSeq (wIf (wAndT (wB (wBin (dEq id) (wVar 1) (wC (.int 5)))) (wAndT (wTru (wIsi .tuple (wBin dIxA (wVar 3) (wVar 2)))) (wB (wBin (dEq id) (wBin dIxA (wBin dIxA (wVar 3) (wVar 2)) (wC (.int 0))) (wC (.str "*")))))) (wRet (wTup (wCons (wBin dAdd (wBin dAdd (wSl (wVar 3) wNoPart (wPart (wVar 2))) (wSl (wBin dIxA (wVar 3) (wVar 2)) (wPart (wC (.int 1))) wNoPart)) (wSl (wVar 3) (wPart (wBin dAdd (wVar 2) (wC (.int 1)))) wNoPart)) (wCons (wVar 4) wNil)))) wNext)
    (wRet (wC .non)))))))))))
theorem b__law_move {P : Program} {w : World} {K : PySem.W.Frag} {mg : PySem.Str → Option Value} {base : Heap} {k : Nat} {f : Addr} {C_Truth : Addr} (g : G K mg C_Truth) (cdv : Value) (A : Around) (outer : List PySem.Env) (s : Shared) (H : Hp) (E : XK) (hr : Room k (A.deeper (envOfC "_law_move" sc__law_move s.heap.objs.size f cdv))) :
    DSs (cx P w K mg base nm__law_move "_law_move" sc__law_move f cdv A outer s H E) (defBody st__law_move) (w__law_move) :=
  (dss_cons (sAsg (xV 0) (gG (pgs1 (gN 3 nd__law_move) (pgs1 (gN 4 nd__law_move) pgs0))))
    (dss_cons (sSet 5 nd__law_move xStr)
    (dss_cons (ds_if (tV (xIsi .tuple g.b_isinstance g.b_tuple (xV 4))) (dss_one (sSet 5 nd__law_move (xIx hr (xV 4) xInt))) dss_nil)
    (dss_cons (ds_if (tW (dw_and (tEq hr (xV 1) xInt) (dw_and1 (tGt (xBi call_lenR lift_len boot_len g.b_len (xArg (xV 3) da_nil)) xInt)))) (dss_one (ds_ret (de_tup (xArg (de_slice (xV 3) do_none (do_some (de_neg xInt))) (xArg (de_tup (xArg xStr (xArg (xV 4) (xArg (xIx hr (xV 3) (de_neg xInt)) da_nil)))) da_nil))))) dss_nil)
    (dss_cons (ds_if (tW (dw_and (tEq hr (xV 1) xInt) (dw_and1 (tEq hr (xV 5) xStr)))) (dss_one (ds_ret (de_tup (xArg (xAdd (xV 3) (de_tup (xArg (xIx hr (xV 4) xInt) da_nil))) (xArg (xIx hr (xV 4) xInt) da_nil))))) dss_nil)
    (dss_cons (ds_if (tW (dw_and (tEq hr (xV 1) xInt) (dw_and1 (tGt (xBi call_lenR lift_len boot_len g.b_len (xArg (xV 3) da_nil)) xInt)))) (dss_one (ds_ret (de_tup (xArg (de_slice (xV 3) (do_some xInt) do_none) (xArg (de_tup (xArg xStr (xArg (xIx hr (xV 3) xInt) (xArg (xV 4) da_nil)))) da_nil))))) dss_nil)
    (dss_cons (ds_if (tW (dw_and (tEq hr (xV 1) xInt) (dw_and1 (tEq hr (xV 5) xStr)))) (dss_one (ds_ret (de_tup (xArg (xAdd (de_tup (xArg (xIx hr (xV 4) xInt) da_nil)) (xV 3)) (xArg (xIx hr (xV 4) xInt) da_nil))))) dss_nil)
    (dss_cons (ds_if (tW (dw_and (tEq hr (xV 1) xInt) (dw_and1 (tLt (xV 2) (xSub (xBi call_lenR lift_len boot_len g.b_len (xArg (xV 3) da_nil)) xInt))))) (dss_one (ds_ret (de_tup (xArg (xAdd (xAdd (de_slice (xV 3) do_none (do_some (xV 2))) (de_tup (xArg (de_tup (xArg xStr (xArg (xIx hr (xV 3) (xV 2)) (xArg (xIx hr (xV 3) (xAdd (xV 2) xInt)) da_nil)))) da_nil))) (de_slice (xV 3) (do_some (xAdd (xV 2) xInt)) do_none)) (xArg (xV 4) da_nil))))) dss_nil)
    (dss_cons (ds_if (tW (dw_and (tEq hr (xV 1) xInt) (dw_and (tV (xIsi .tuple g.b_isinstance g.b_tuple (xIx hr (xV 3) (xV 2)))) (dw_and1 (tEq hr (xIx hr (xIx hr (xV 3) (xV 2)) xInt) xStr))))) (dss_one (ds_ret (de_tup (xArg (xAdd (xAdd (de_slice (xV 3) do_none (do_some (xV 2))) (de_slice (xIx hr (xV 3) (xV 2)) (do_some xInt) do_none)) (de_slice (xV 3) (do_some (xAdd (xV 2) xInt)) do_none)) (xArg (xV 4) da_nil))))) dss_nil)
    (dss_one (ds_ret xNon)))))))))))
/-! _law_ban_list -/
abbrev st__law_ban_list : Stmt := top 60
abbrev sc__law_ban_list : Scope := defScope st__law_ban_list
abbrev nm__law_ban_list : List PySem.Str := [("source" : PySem.Str), ("atoms" : PySem.Str), ("many" : PySem.Str), ("wide" : PySem.Str), ("marks" : PySem.Str), ("turn" : PySem.Str), ("table" : PySem.Str), ("atom" : PySem.Str), ("line" : PySem.Str), ("k" : PySem.Str)]
abbrev ps__law_ban_list : List PySem.Str := [("source" : PySem.Str), ("atoms" : PySem.Str), ("many" : PySem.Str), ("wide" : PySem.Str)]
theorem nd__law_ban_list : nm__law_ban_list.Nodup := by decide +kernel
theorem fs__law_ban_list : FnScope nm__law_ban_list ps__law_ban_list sc__law_ban_list := ⟨rfl, rfl, rfl, nd__law_ban_list, rfl, by decide +kernel, by decide +kernel⟩
def w__law_ban_list_1 (sp__law_take : DSp) : WS :=
  (wDrop (wApp (wVar 4) (wCall sp__law_take (wCons (wVar 0) (wCons (wBin dIxA (wFl (wCons (wC (.int 1000000)) (wCons (wC (.int 4)) wNil))) (wCall sp__law_take (wCons (wVar 0) (wCons (wC (.int 2)) wNil)))) wNil)))))
def w__law_ban_list_2 (sp__law_take : DSp) : WS :=
  (wSeq (wSet 7 (wBin dIxA (wVar 1) (wCall sp__law_take (wCons (wVar 0) (wCons (wCall dLen (wCons (wVar 1) wNil)) wNil)))))
    (wSeq (wSet 8 (wCall dTuple (wCons (wLcF (wRange1 (wBin dAdd (wC (.int 1)) (wCall sp__law_take (wCons (wVar 0) (wCons (wVar 3) wNil))))) (.nm 9) [9] wYes (wBin dIxA (wVar 4) (wCall sp__law_take (wCons (wVar 0) (wCons (wCall dLen (wCons (wVar 4) wNil)) wNil))))) wNil)))
    (wIf (wB (wBin (dIn not) (wVar 8) (wGet2 (wVar 6) (wVar 7) (wTup wNil)))) (wPut (wBin dAdd (wGet2 (wVar 6) (wVar 7) (wTup wNil)) (wTup (wCons (wVar 8) wNil))) (wVar 6) (wVar 7)) wNext)))
def w__law_ban_list (sp__law_take : DSp) : WS :=
  (wSeq (wSet 4 (wLst (wCons (wBin dIxA (wFl (wCons (wC (.int 0)) (wCons (wC (.int 999999)) wNil))) (wCall sp__law_take (wCons (wVar 0) (wCons (wC (.int 2)) wNil)))) wNil)))
    (wSeq (wFor (wRange1 (wCall sp__law_take (wCons (wVar 0) (wCons (wC (.int 3)) wNil)))) (.nm 5) (w__law_ban_list_1 sp__law_take))
    (wSeq (wSet 6 wDnew)
    (wSeq (wFor (wRange1 (wVar 2)) (.nm 5) (w__law_ban_list_2 sp__law_take))
    (wRet (wCall dTuple (wCons (wLcF (wIt (wVar 6)) (.nm 7) [7] wYes (wTup (wCons (wVar 7) (wCons (wBin dIxA (wVar 6) (wVar 7)) wNil)))) wNil)))))))
theorem b__law_ban_list {P : Program} {w : World} {K : PySem.W.Frag} {mg : PySem.Str → Option Value} {base : Heap} {k : Nat} {f : Addr} {C_Truth : Addr} (g : G K mg C_Truth) {sp__law_take : DSp} (h__law_take : CalD P w K mg base k "_law_take" sp__law_take) (cdv : Value) (A : Around) (outer : List PySem.Env) (s : Shared) (H : Hp) (E : XK) (hr : Room k (A.deeper (envOfC "_law_ban_list" sc__law_ban_list s.heap.objs.size f cdv))) :
    DSs (cx P w K mg base nm__law_ban_list "_law_ban_list" sc__law_ban_list f cdv A outer s H E) (defBody st__law_ban_list) (w__law_ban_list sp__law_take) :=
  (dss_cons (sSet 4 nd__law_ban_list (de_lst (xArg (xIx hr (de_fl (xArg xInt (xArg xInt da_nil))) (xF h__law_take hr (xArg (xV 0) (xArg xInt da_nil)))) da_nil)))
    (dss_cons (sFor (iR1 g.b_range (xF h__law_take hr (xArg (xV 0) (xArg xInt da_nil)))) (gN 5 nd__law_ban_list) (dss_one (sExpr (de_append (xV 4) (xF h__law_take hr (xArg (xV 0) (xArg (xIx hr (de_fl (xArg xInt (xArg xInt da_nil))) (xF h__law_take hr (xArg (xV 0) (xArg xInt da_nil)))) da_nil)))))))
    (dss_cons (sSet 6 nd__law_ban_list de_dnew)
    (dss_cons (sFor (iR1 g.b_range (xV 2)) (gN 5 nd__law_ban_list) (dss_cons (sSet 7 nd__law_ban_list (xIx hr (xV 1) (xF h__law_take hr (xArg (xV 0) (xArg (xBi call_lenR lift_len boot_len g.b_len (xArg (xV 1) da_nil)) da_nil)))))
    (dss_cons (sSet 8 nd__law_ban_list (xTy call_tuple_of lift_tuple bt_tuple g.b_tuple (xArg (xLcF (own := [(("k" : PySem.Str), 9)]) nd__law_ban_list (show BlkOk nm__law_ban_list sc__law_ban_list _ [(("k" : PySem.Str), 9)] from blk (by decide +kernel)) (iR1 g.b_range (xAdd xInt (xF h__law_take hr (xArg (xV 0) (xArg (xV 3) da_nil))))) (fun _ _ _ _ _ => (gN 9 nd__law_ban_list)) (fun _ _ _ _ _ => dts_nil) (fun _ _ _ _ _ => (xIx hr (xV 4) (xF h__law_take hr (xArg (xV 0) (xArg (xBi call_lenR lift_len boot_len g.b_len (xArg (xV 4) da_nil)) da_nil)))))) da_nil)))
    (dss_one (ds_if (tNIn hr (xV 8) (xGet2 hr (xV 6) (xV 7) (de_tup da_nil))) (dss_one (sPut hr (xAdd (xGet2 hr (xV 6) (xV 7) (de_tup da_nil)) (de_tup (xArg (xV 8) da_nil))) (xV 6) (xV 7))) dss_nil)))))
    (dss_one (ds_ret (xTy call_tuple_of lift_tuple bt_tuple g.b_tuple (xArg (xLcF (own := [(("atom" : PySem.Str), 7)]) nd__law_ban_list (show BlkOk nm__law_ban_list sc__law_ban_list _ [(("atom" : PySem.Str), 7)] from blk (by decide +kernel)) (di_expr (xV 6)) (fun _ _ _ _ _ => (gN 7 nd__law_ban_list)) (fun _ _ _ _ _ => dts_nil) (fun _ _ _ _ _ => (de_tup (xArg (xV 7) (xArg (xIx hr (xV 6) (xV 7)) da_nil))))) da_nil))))))))
/-! _law_truth_agrees -/
abbrev st__law_truth_agrees : Stmt := top 61
abbrev sc__law_truth_agrees : Scope := defScope st__law_truth_agrees
abbrev nm__law_truth_agrees : List PySem.Str := [("bans" : PySem.Str), ("line" : PySem.Str), ("due" : PySem.Str), ("told" : PySem.Str)]
abbrev ps__law_truth_agrees : List PySem.Str := [("bans" : PySem.Str), ("line" : PySem.Str), ("due" : PySem.Str)]
theorem nd__law_truth_agrees : nm__law_truth_agrees.Nodup := by decide +kernel
theorem fs__law_truth_agrees : FnScope nm__law_truth_agrees ps__law_truth_agrees sc__law_truth_agrees := ⟨rfl, rfl, rfl, nd__law_truth_agrees, rfl, by decide +kernel, by decide +kernel⟩
def w__law_truth_agrees (sp_holds sp__law_is_truth sp_failing_lines sp__law_shows : DSp) : WS :=
  (wSeq (wIf (wNotT (wTru (wCall sp__law_is_truth (wCons (wCall sp_holds (wCons (wVar 0) (wCons (wVar 1) wNil))) (wCons (wVar 2) wNil))))) (wRet (wC (.bl false))) wNext)
    (wSeq (wSet 3 (wCall sp_failing_lines (wCons (wVar 0) (wCons (wVar 1) wNil))))
    (wSeq (wIf (wTru (wVar 2)) (wRet (wBin (dIs id) (wVar 3) (wC .non))) wNext)
    (wRet (wCall sp__law_shows (wCons (wVar 0) (wCons (wVar 1) (wCons (wVar 3) wNil))))))))
theorem b__law_truth_agrees {P : Program} {w : World} {K : PySem.W.Frag} {mg : PySem.Str → Option Value} {base : Heap} {k : Nat} {f : Addr} {C_Truth : Addr} (g : G K mg C_Truth) {sp_holds sp__law_is_truth sp_failing_lines sp__law_shows : DSp} (h_holds : CalD P w K mg base k "holds" sp_holds) (h__law_is_truth : CalD P w K mg base k "_law_is_truth" sp__law_is_truth) (h_failing_lines : CalD P w K mg base k "failing_lines" sp_failing_lines) (h__law_shows : CalD P w K mg base k "_law_shows" sp__law_shows) (cdv : Value) (A : Around) (outer : List PySem.Env) (s : Shared) (H : Hp) (E : XK) (hr : Room k (A.deeper (envOfC "_law_truth_agrees" sc__law_truth_agrees s.heap.objs.size f cdv))) :
    DSs (cx P w K mg base nm__law_truth_agrees "_law_truth_agrees" sc__law_truth_agrees f cdv A outer s H E) (defBody st__law_truth_agrees) (w__law_truth_agrees sp_holds sp__law_is_truth sp_failing_lines sp__law_shows) :=
  (dss_cons (ds_if (dt_not (tV (xF h__law_is_truth hr (xArg (xF h_holds hr (xArg (xV 0) (xArg (xV 1) da_nil))) (xArg (xV 2) da_nil))))) (dss_one (ds_ret xBl)) dss_nil)
    (dss_cons (sSet 3 nd__law_truth_agrees (xF h_failing_lines hr (xArg (xV 0) (xArg (xV 1) da_nil))))
    (dss_cons (ds_if (tV (xV 2)) (dss_one (ds_ret (xIs (xV 3) xNon))) dss_nil)
    (dss_one (ds_ret (xF h__law_shows hr (xArg (xV 0) (xArg (xV 1) (xArg (xV 3) da_nil)))))))))
/-! _law_scene -/
abbrev st__law_scene : Stmt := top 62
abbrev sc__law_scene : Scope := defScope st__law_scene
abbrev nm__law_scene : List PySem.Str := [("source" : PySem.Str), ("names" : PySem.Str), ("paper" : PySem.Str), ("line" : PySem.Str), ("atoms" : PySem.Str), ("one" : PySem.Str), ("two" : PySem.Str)]
abbrev ps__law_scene : List PySem.Str := [("source" : PySem.Str), ("names" : PySem.Str)]
theorem nd__law_scene : nm__law_scene.Nodup := by decide +kernel
theorem fs__law_scene : FnScope nm__law_scene ps__law_scene sc__law_scene := ⟨rfl, rfl, rfl, nd__law_scene, rfl, by decide +kernel, by decide +kernel⟩
def w__law_scene (sp__law_take sp__law_bushes sp__law_grown sp__law_spots sp__law_refilled : DSp) : WS :=
  (wSeq (wIf (wB (wBin (dEq id) (wCall sp__law_take (wCons (wVar 0) (wCons (wC (.int 2)) wNil))) (wC (.int 0)))) (wRet (wCall sp__law_bushes (wCons (wVar 0) (wCons (wVar 1) (wCons (wBin dAdd (wC (.int 1)) (wCall sp__law_take (wCons (wVar 0) (wCons (wC (.int 4)) wNil)))) (wCons (wBin dAdd (wC (.int 1)) (wCall sp__law_take (wCons (wVar 0) (wCons (wC (.int 4)) wNil)))) (wCons (wC (.int 9)) wNil))))))) wNext)
    (wSeq (wSet 2 (wCall sp__law_grown (wCons (wVar 0) (wCons (wVar 1) (wCons (wBin dAdd (wC (.int 2)) (wCall sp__law_take (wCons (wVar 0) (wCons (wC (.int 3)) wNil)))) wNil)))))
    (wSeq (wSet 3 (wTup (wCons (wBin dIxA (wVar 2) (wC (.int 1))) (wCons (wBin dIxA (wVar 2) (wC (.int 2))) wNil))))
    (wSeq (wIf (wB (wBin (dEq id) (wCall sp__law_take (wCons (wVar 0) (wCons (wC (.int 2)) wNil))) (wC (.int 1)))) (wSeq (wSet 4 (wCall sp__law_spots (wCons (wVar 3) wNil)))
    (wSeq (wPar 5 6 (wCons (wCall sp__law_take (wCons (wVar 0) (wCons (wCall dLen (wCons (wVar 4) wNil)) wNil))) (wCons (wCall sp__law_take (wCons (wVar 0) (wCons (wCall dLen (wCons (wVar 4) wNil)) wNil))) wNil)))
    (wSeq (wPutPair (wTup (wCons (wBin dIxA (wVar 4) (wVar 6)) (wCons (wBin dIxA (wVar 4) (wVar 5)) wNil))) (wVar 4) (wVar 5) (wVar 4) (wVar 6))
    (wSet 3 (wCall sp__law_refilled (wCons (wVar 3) (wCons (wVar 4) wNil))))))) wNext)
    (wRet (wVar 3))))))
theorem b__law_scene {P : Program} {w : World} {K : PySem.W.Frag} {mg : PySem.Str → Option Value} {base : Heap} {k : Nat} {f : Addr} {C_Truth : Addr} (g : G K mg C_Truth) {sp__law_take sp__law_bushes sp__law_grown sp__law_spots sp__law_refilled : DSp} (h__law_take : CalD P w K mg base k "_law_take" sp__law_take) (h__law_bushes : CalD P w K mg base k "_law_bushes" sp__law_bushes) (h__law_grown : CalD P w K mg base k "_law_grown" sp__law_grown) (h__law_spots : CalD P w K mg base k "_law_spots" sp__law_spots) (h__law_refilled : CalD P w K mg base k "_law_refilled" sp__law_refilled) (cdv : Value) (A : Around) (outer : List PySem.Env) (s : Shared) (H : Hp) (E : XK) (hr : Room k (A.deeper (envOfC "_law_scene" sc__law_scene s.heap.objs.size f cdv))) :
    DSs (cx P w K mg base nm__law_scene "_law_scene" sc__law_scene f cdv A outer s H E) (defBody st__law_scene) (w__law_scene sp__law_take sp__law_bushes sp__law_grown sp__law_spots sp__law_refilled) :=
  (dss_cons (ds_if (tEq hr (xF h__law_take hr (xArg (xV 0) (xArg xInt da_nil))) xInt) (dss_one (ds_ret (xF h__law_bushes hr (xArg (xV 0) (xArg (xV 1) (xArg (xAdd xInt (xF h__law_take hr (xArg (xV 0) (xArg xInt da_nil)))) (xArg (xAdd xInt (xF h__law_take hr (xArg (xV 0) (xArg xInt da_nil)))) (xArg xInt da_nil)))))))) dss_nil)
    (dss_cons (sSet 2 nd__law_scene (xF h__law_grown hr (xArg (xV 0) (xArg (xV 1) (xArg (xAdd xInt (xF h__law_take hr (xArg (xV 0) (xArg xInt da_nil)))) da_nil)))))
    (dss_cons (sSet 3 nd__law_scene (de_tup (xArg (xIx hr (xV 2) xInt) (xArg (xIx hr (xV 2) xInt) da_nil))))
    (dss_cons (ds_if (tEq hr (xF h__law_take hr (xArg (xV 0) (xArg xInt da_nil))) xInt) (dss_cons (sSet 4 nd__law_scene (xF h__law_spots hr (xArg (xV 3) da_nil)))
    (dss_cons (ds_par (i := 5) (j := 6) rfl nd__law_scene rfl rfl (by decide) rfl rfl (xArg (xF h__law_take hr (xArg (xV 0) (xArg (xBi call_lenR lift_len boot_len g.b_len (xArg (xV 4) da_nil)) da_nil))) (xArg (xF h__law_take hr (xArg (xV 0) (xArg (xBi call_lenR lift_len boot_len g.b_len (xArg (xV 4) da_nil)) da_nil))) da_nil)) rfl rfl)
    (dss_cons (sPutPair hr (de_tup (xArg (xIx hr (xV 4) (xV 6)) (xArg (xIx hr (xV 4) (xV 5)) da_nil))) (xV 4) (xV 5) (xV 4) (xV 6))
    (dss_one (sSet 3 nd__law_scene (xF h__law_refilled hr (xArg (xV 3) (xArg (xV 4) da_nil)))))))) dss_nil)
    (dss_one (ds_ret (xV 3)))))))
/-! _law_all_lines -/
abbrev st__law_all_lines : Stmt := top 63
abbrev sc__law_all_lines : Scope := defScope st__law_all_lines
abbrev nm__law_all_lines : List PySem.Str := [("bans" : PySem.Str), ("line" : PySem.Str), ("kind" : PySem.Str)]
abbrev ps__law_all_lines : List PySem.Str := [("bans" : PySem.Str), ("line" : PySem.Str)]
theorem nd__law_all_lines : nm__law_all_lines.Nodup := by decide +kernel
theorem fs__law_all_lines : FnScope nm__law_all_lines ps__law_all_lines sc__law_all_lines := ⟨rfl, rfl, rfl, nd__law_all_lines, rfl, by decide +kernel, by decide +kernel⟩
def w__law_all_lines_1 (sp__law_kind_bans sp__law_ordered sp_banned_lines sp__law_alike : DSp) : WS :=
  (wIf (wNotT (wTru (wCall sp__law_alike (wCons (wCall sp_banned_lines (wCons (wVar 0) (wCons (wVar 2) wNil))) (wCons (wCall sp__law_ordered (wCons (wCall sp__law_kind_bans (wCons (wVar 0) (wCons (wVar 2) wNil))) wNil)) wNil))))) (wRet (wC (.bl false))) wNext)
def w__law_all_lines (sp__law_kind_bans sp__law_ordered sp_banned_lines sp__law_alike : DSp) : WS :=
  (wSeq (wFor (wIt (wBin dAdd (wBin dIxA (wVar 1) (wC (.int 0))) (wTup (wCons (wBin dIxA (wVar 1) (wC (.int 1))) wNil)))) (.nm 2) (w__law_all_lines_1 sp__law_kind_bans sp__law_ordered sp_banned_lines sp__law_alike))
    (wRet (wC (.bl true))))
theorem b__law_all_lines {P : Program} {w : World} {K : PySem.W.Frag} {mg : PySem.Str → Option Value} {base : Heap} {k : Nat} {f : Addr} {C_Truth : Addr} (g : G K mg C_Truth) {sp__law_kind_bans sp__law_ordered sp_banned_lines sp__law_alike : DSp} (h__law_kind_bans : CalD P w K mg base k "_law_kind_bans" sp__law_kind_bans) (h__law_ordered : CalD P w K mg base k "_law_ordered" sp__law_ordered) (h_banned_lines : CalD P w K mg base k "banned_lines" sp_banned_lines) (h__law_alike : CalD P w K mg base k "_law_alike" sp__law_alike) (cdv : Value) (A : Around) (outer : List PySem.Env) (s : Shared) (H : Hp) (E : XK) (hr : Room k (A.deeper (envOfC "_law_all_lines" sc__law_all_lines s.heap.objs.size f cdv))) :
    DSs (cx P w K mg base nm__law_all_lines "_law_all_lines" sc__law_all_lines f cdv A outer s H E) (defBody st__law_all_lines) (w__law_all_lines sp__law_kind_bans sp__law_ordered sp_banned_lines sp__law_alike) :=
  (dss_cons (sFor (di_expr (xAdd (xIx hr (xV 1) xInt) (de_tup (xArg (xIx hr (xV 1) xInt) da_nil)))) (gN 2 nd__law_all_lines) (dss_one (ds_if (dt_not (tV (xF h__law_alike hr (xArg (xF h_banned_lines hr (xArg (xV 0) (xArg (xV 2) da_nil))) (xArg (xF h__law_ordered hr (xArg (xF h__law_kind_bans hr (xArg (xV 0) (xArg (xV 2) da_nil))) da_nil)) da_nil))))) (dss_one (ds_ret xBl)) dss_nil)))
    (dss_one (ds_ret xBl)))
/-! law -/
abbrev st_law : Stmt := top 64
abbrev sc_law : Scope := defScope st_law
abbrev nm_law : List PySem.Str := [("script" : PySem.Str), ("source" : PySem.Str), ("names" : PySem.Str), ("line" : PySem.Str), ("size" : PySem.Str), ("bans" : PySem.Str), ("due" : PySem.Str), ("turn" : PySem.Str), ("new" : PySem.Str)]
abbrev ps_law : List PySem.Str := [("script" : PySem.Str)]
theorem nd_law : nm_law.Nodup := by decide +kernel
theorem fs_law : FnScope nm_law ps_law sc_law := ⟨rfl, rfl, rfl, nd_law, rfl, by decide +kernel, by decide +kernel⟩
def w_law_1 (sp__law_source sp__law_take sp__law_names sp__law_scene sp__law_ban_list sp__law_fails sp_is_ban_list sp__law_truth_agrees sp__law_all_lines sp__law_move sp_holds sp__law_is_truth : DSp) : WS :=
  (wSeq (wSet 8 (wCall sp__law_move (wCons (wVar 3) (wCons (wCall sp__law_take (wCons (wVar 1) (wCons (wC (.int 6)) wNil))) (wCons (wCall sp__law_take (wCons (wVar 1) (wCons (wCall dLen (wCons (wBin dIxA (wVar 3) (wC (.int 0))) wNil)) wNil))) wNil)))))
    (wIf (wB (wBin (dIs not) (wVar 8) (wC .non))) (wSeq (wSet 3 (wVar 8))
    (wSeq (wIf (wOrT (wB (wBin (dEq id) (wCall sp__law_fails (wCons (wVar 5) (wCons (wVar 3) wNil))) (wVar 6))) (wNotT (wTru (wCall sp__law_truth_agrees (wCons (wVar 5) (wCons (wVar 3) (wCons (wVar 6) wNil))))))) (wRet (wC (.bl false))) wNext)
    (wIf (wOrT (wNotT (wTru (wCall sp__law_all_lines (wCons (wVar 5) (wCons (wVar 3) wNil))))) (wNotT (wTru (wCall sp__law_is_truth (wCons (wCall sp_holds (wCons (wVar 5) (wCons (wVar 3) wNil))) (wCons (wVar 6) wNil)))))) (wRet (wC (.bl false))) wNext))) wNext))
def w_law (sp__law_source sp__law_take sp__law_names sp__law_scene sp__law_ban_list sp__law_fails sp_is_ban_list sp__law_truth_agrees sp__law_all_lines sp__law_move sp_holds sp__law_is_truth : DSp) : WS :=
  (wSeq (wSet 1 (wCall sp__law_source (wCons (wVar 0) (wCons (wC (.int 0)) wNil))))
    (wSeq (wSet 2 (wCall sp__law_names (wCons (wVar 1) (wCons (wBin dIxA (wFl (wCons (wC (.int 1)) (wCons (wC (.int 2)) (wCons (wC (.int 3)) (wCons (wC (.int 2)) wNil))))) (wCall sp__law_take (wCons (wVar 1) (wCons (wC (.int 4)) wNil)))) wNil))))
    (wSeq (wSet 3 (wCall sp__law_scene (wCons (wVar 1) (wCons (wVar 2) wNil))))
    (wSeq (wSet 1 (wCall sp__law_source (wCons (wVar 0) (wCons (wC (.int 1)) wNil))))
    (wSeq (wSet 4 (wCall sp__law_take (wCons (wVar 1) (wCons (wC (.int 8)) wNil))))
    (wSeq (wSet 5 (wCall sp__law_ban_list (wCons (wVar 1) (wCons (wBin dAdd (wVar 2) (wFl (wCons (wC (.str "other")) wNil))) (wCons (wBin dAdd (wC (.int 1)) (wCall sp__law_take (wCons (wVar 1) (wCons (wBin dIxA (wFl (wCons (wC (.int 7)) (wCons (wC (.int 12)) wNil))) (wBin dFdiv (wVar 4) (wC (.int 7)))) wNil)))) (wCons (wBin dIxA (wFl (wCons (wC (.int 4)) (wCons (wC (.int 6)) wNil))) (wBin dFdiv (wVar 4) (wC (.int 7)))) wNil))))))
    (wSeq (wSet 6 (wNotV (wCall sp__law_fails (wCons (wVar 5) (wCons (wVar 3) wNil)))))
    (wSeq (wIf (wOrT (wB (wBin (dIs not) (wCall sp_is_ban_list (wCons (wVar 5) wNil)) (wC (.bl true)))) (wOrT (wNotT (wTru (wCall sp__law_truth_agrees (wCons (wVar 5) (wCons (wVar 3) (wCons (wVar 6) wNil)))))) (wNotT (wTru (wCall sp__law_all_lines (wCons (wVar 5) (wCons (wVar 3) wNil))))))) (wRet (wC (.bl false))) wNext)
    (wSeq (wFor (wRange1 (wC (.int 6))) (.nm 7) (w_law_1 sp__law_source sp__law_take sp__law_names sp__law_scene sp__law_ban_list sp__law_fails sp_is_ban_list sp__law_truth_agrees sp__law_all_lines sp__law_move sp_holds sp__law_is_truth))
    (wRet (wC (.bl true))))))))))))
theorem b_law {P : Program} {w : World} {K : PySem.W.Frag} {mg : PySem.Str → Option Value} {base : Heap} {k : Nat} {f : Addr} {C_Truth : Addr} (g : G K mg C_Truth) {sp__law_source sp__law_take sp__law_names sp__law_scene sp__law_ban_list sp__law_fails sp_is_ban_list sp__law_truth_agrees sp__law_all_lines sp__law_move sp_holds sp__law_is_truth : DSp} (h__law_source : CalD P w K mg base k "_law_source" sp__law_source) (h__law_take : CalD P w K mg base k "_law_take" sp__law_take) (h__law_names : CalD P w K mg base k "_law_names" sp__law_names) (h__law_scene : CalD P w K mg base k "_law_scene" sp__law_scene) (h__law_ban_list : CalD P w K mg base k "_law_ban_list" sp__law_ban_list) (h__law_fails : CalD P w K mg base k "_law_fails" sp__law_fails) (h_is_ban_list : CalD P w K mg base k "is_ban_list" sp_is_ban_list) (h__law_truth_agrees : CalD P w K mg base k "_law_truth_agrees" sp__law_truth_agrees) (h__law_all_lines : CalD P w K mg base k "_law_all_lines" sp__law_all_lines) (h__law_move : CalD P w K mg base k "_law_move" sp__law_move) (h_holds : CalD P w K mg base k "holds" sp_holds) (h__law_is_truth : CalD P w K mg base k "_law_is_truth" sp__law_is_truth) (cdv : Value) (A : Around) (outer : List PySem.Env) (s : Shared) (H : Hp) (E : XK) (hr : Room k (A.deeper (envOfC "law" sc_law s.heap.objs.size f cdv))) :
    DSs (cx P w K mg base nm_law "law" sc_law f cdv A outer s H E) (defBody st_law) (w_law sp__law_source sp__law_take sp__law_names sp__law_scene sp__law_ban_list sp__law_fails sp_is_ban_list sp__law_truth_agrees sp__law_all_lines sp__law_move sp_holds sp__law_is_truth) :=
  (dss_cons (sSet 1 nd_law (xF h__law_source hr (xArg (xV 0) (xArg xInt da_nil))))
    (dss_cons (sSet 2 nd_law (xF h__law_names hr (xArg (xV 1) (xArg (xIx hr (de_fl (xArg xInt (xArg xInt (xArg xInt (xArg xInt da_nil))))) (xF h__law_take hr (xArg (xV 1) (xArg xInt da_nil)))) da_nil))))
    (dss_cons (sSet 3 nd_law (xF h__law_scene hr (xArg (xV 1) (xArg (xV 2) da_nil))))
    (dss_cons (sSet 1 nd_law (xF h__law_source hr (xArg (xV 0) (xArg xInt da_nil))))
    (dss_cons (sSet 4 nd_law (xF h__law_take hr (xArg (xV 1) (xArg xInt da_nil))))
    (dss_cons (sSet 5 nd_law (xF h__law_ban_list hr (xArg (xV 1) (xArg (xAdd (xV 2) (de_fl (xArg xStr da_nil))) (xArg (xAdd xInt (xF h__law_take hr (xArg (xV 1) (xArg (xIx hr (de_fl (xArg xInt (xArg xInt da_nil))) (xFdiv (xV 4) xInt)) da_nil)))) (xArg (xIx hr (de_fl (xArg xInt (xArg xInt da_nil))) (xFdiv (xV 4) xInt)) da_nil))))))
    (dss_cons (sSet 6 nd_law (de_not (xF h__law_fails hr (xArg (xV 5) (xArg (xV 3) da_nil)))))
    (dss_cons (ds_if (tW (dw_or (tIsN (xF h_is_ban_list hr (xArg (xV 5) da_nil)) xBl) (dw_or (dt_not (tV (xF h__law_truth_agrees hr (xArg (xV 5) (xArg (xV 3) (xArg (xV 6) da_nil)))))) (dw_or1 (dt_not (tV (xF h__law_all_lines hr (xArg (xV 5) (xArg (xV 3) da_nil))))))))) (dss_one (ds_ret xBl)) dss_nil)
    (dss_cons (sFor (iR1 g.b_range xInt) (gN 7 nd_law) (dss_cons (sSet 8 nd_law (xF h__law_move hr (xArg (xV 3) (xArg (xF h__law_take hr (xArg (xV 1) (xArg xInt da_nil))) (xArg (xF h__law_take hr (xArg (xV 1) (xArg (xBi call_lenR lift_len boot_len g.b_len (xArg (xIx hr (xV 3) xInt) da_nil)) da_nil))) da_nil)))))
    (dss_one (ds_if (tIsN (xV 8) xNon) (dss_cons (sSet 3 nd_law (xV 8))
    (dss_cons (ds_if (tW (dw_or (tEq hr (xF h__law_fails hr (xArg (xV 5) (xArg (xV 3) da_nil))) (xV 6)) (dw_or1 (dt_not (tV (xF h__law_truth_agrees hr (xArg (xV 5) (xArg (xV 3) (xArg (xV 6) da_nil))))))))) (dss_one (ds_ret xBl)) dss_nil)
    (dss_one (ds_if (tW (dw_or (dt_not (tV (xF h__law_all_lines hr (xArg (xV 5) (xArg (xV 3) da_nil))))) (dw_or1 (dt_not (tV (xF h__law_is_truth hr (xArg (xF h_holds hr (xArg (xV 5) (xArg (xV 3) da_nil))) (xArg (xV 6) da_nil)))))))) (dss_one (ds_ret xBl)) dss_nil)))) dss_nil))))
    (dss_one (ds_ret xBl)))))))))))
end F83

set_option Elab.async false
set_option linter.all false
set_option maxRecDepth 100000
set_option maxHeartbeats 4000000
namespace F83
open PySem PySem.Spec PyProof.Rows L2 Fw
abbrev lets : PySem.Str := "abcdefghijklmnopqrstuvwxyz"
abbrev digs : PySem.Str := "0123456789"
/-! is_atom_number, is_atom -/
def isNum (z : PySem.Str) : Bool := !decide (z.length < 1) && !decide (6 < z.length) && (match z.cps.toList with
  | c :: _ => !decide (c = 48) && z.cps.toList.all fun c => decide (c ∈ digs.cps.toList)
  | [] => false)
def sp_num : DSp := fun ds M Q => ∃ z : PySem.Str, ds = [.str z] ∧ z.length ≤ sizeLine ∧ Q (.bl (isNum z)) M
theorem len_cps (z : PySem.Str) : z.cps.toList.length = z.length := by
  show z.cps.toList.length = z.cps.size
  exact Array.length_toList
theorem at0 {α : Type} {a : α} {l : List α} : L2.atI (a :: l) 0 = some a := by
  unfold L2.atI ixN
  simp
theorem zero_str {c : Nat} : ((⟨#[c]⟩ : PySem.Str) = Str.ofString "0") ↔ c = 48 := by
  have : Str.ofString "0" = ⟨#[48]⟩ := by decide
  rw [this]
  constructor
  · intro h; injection h with h; simpa using h
  · rintro rfl; rfl
theorem signs_map (z : PySem.Str) : Fw.signs z = z.cps.toList.map fun c => D.str ⟨#[c]⟩ := rfl
theorem num_ok : ∀ ds M Q, sp_num ds M Q → w_is_atom_number (ends Q) (startD 2 ds) M := by
  rintro ds M Q ⟨z, rfl, hz, q⟩
  unfold w_is_atom_number
  have hl := len_cps z
  unfold isNum at q
  by_cases h1 : z.length < 1
  · have h1' : ((z.length : Nat) : Int) < 1 := by omega
    simp [h1, h1', hz] at q ⊢
    exact .inl (drops_of q)
  · by_cases h2 : 6 < z.length
    · have h1' : ¬ ((z.length : Nat) : Int) < 1 := by omega
      have h2' : (6 : Int) < (z.length : Nat) := by omega
      have h3' : (1 : Int) ≤ (z.length : Nat) := by omega
      simp [h1', h2, h2', h3', hz] at q ⊢
      exact .inl (drops_of q)
    · have h1' : ¬ ((z.length : Nat) : Int) < 1 := by omega
      have h2' : ¬ (6 : Int) < (z.length : Nat) := by omega
      have h3' : (1 : Int) ≤ (z.length : Nat) := by omega
      have h4' : ((z.length : Nat) : Int) ≤ 6 := by omega
      cases hc : z.cps.toList with
      | nil => rw [hc] at hl; simp at hl; omega
      | cons c r =>
        rw [hc] at q
        simp only [h1', h2', h3', h4', h1, h2, hz, hc] at q ⊢
        simp [h1', h2', h3', h4', h1, h2, hz, hc, at0, zero_str] at q ⊢
        by_cases h5 : c = 48
        · simp [h5] at q ⊢
          exact drops_of q
        · simp [h5] at q ⊢
          rw [signs_map]
          refine comp_all _ (fun c => .bl (decide (c ∈ digs.cps.toList))) trivial ?_ ?_ ?_
          · intro a ha N n
            simpa using n
          · rw [hl]; exact hz
          · refine y_allM ?_
            refine drops_of ?_
            simp [hc]
            exact q
/-- until the first dot; behind it -/
def upTo (z : PySem.Str) : List Nat := z.cps.toList.takeWhile fun c => decide (c ≠ 46)
def onFrom (z : PySem.Str) : List Nat := z.cps.toList.dropWhile fun c => decide (c ≠ 46)
def strOf (l : List Nat) : PySem.Str := ⟨l.toArray⟩
theorem part_dot (z : PySem.Str) : Txt.partition z (Str.ofString ".") = (strOf (upTo z), (if onFrom z = [] then Str.ofString "" else Str.ofString "."), strOf (onFrom z).tail) := by
  have ey : TL.tl (Str.ofString ".") = [46] := by decide
  have hsp : z.cps.toList = upTo z ++ onFrom z := (List.takeWhile_append_dropWhile ..).symm
  have hn : 46 ∉ upTo z := fun h => by
    have := List.all_eq_true.mp (List.all_takeWhile (l := z.cps.toList) (p := fun c => decide (c ≠ 46))) 46 h
    simp at this
  cases hr : onFrom z with
  | nil =>
    rw [hr, List.append_nil] at hsp
    have e : z = strOf (upTo z) := by unfold strOf; rw [← hsp]
    rw [TL.partition_none ey (a := z) (by show 46 ∉ z.cps.toList; rw [hsp]; exact hn)]
    rw [if_pos rfl]
    refine Prod.ext e (Prod.ext ?_ ?_)
    · show Str.empty = Str.ofString ""; decide
    · show Str.empty = strOf []; decide
  | cons c r =>
    have hc : c = 46 := by
      have := List.head_dropWhile_not (fun c => decide (c ≠ 46)) (l := z.cps.toList) (by show onFrom z ≠ []; rw [hr]; simp)
      have h2 : (onFrom z).head (by rw [hr]; simp) = c := by simp [hr]
      unfold onFrom at h2
      rw [h2] at this
      simpa using this
    subst hc
    rw [if_neg (by simp)]
    have e : z = strOf (upTo z) ++ Str.ofString "." ++ strOf r := by
      apply TL.ext_tl
      rw [TL.tl_append, TL.tl_append, ey]
      show z.cps.toList = (upTo z).toArray.toList ++ [46] ++ r.toArray.toList
      rw [hsp, hr]; simp
    conv => lhs; rw [e]
    rw [TL.partition_app ey (by show 46 ∉ (upTo z).toArray.toList; simpa using hn)]
    rfl
def okCh (c : Nat) : Bool := decide (c ∈ lets.cps.toList) || decide (c ∈ digs.cps.toList)
def isAtom (z : PySem.Str) : Bool := !decide ((upTo z).length < 1) && !decide (8 < (upTo z).length) && (match upTo z with
  | c :: _ => decide (c ∈ lets.cps.toList) && (upTo z).all okCh
  | [] => false) && (decide (onFrom z = []) || isNum (strOf (onFrom z).tail))
def isAtomD : D → Bool
  | .str z => isAtom z
  | _ => false
/-- a thing that may be looked at -/
def knT (M : Mem) : D → Prop
  | .str z => z.length ≤ sizeLine
  | .ref a => ∃ t, tyD (.ref a) M = some t
  | _ => True
def sp_atom : DSp := fun ds M Q => ∃ d : D, ds = [d] ∧ knT M d ∧ Q (.bl (isAtomD d)) M
theorem tyD_ref {M : Mem} {a : Addr} {t : String} (h : tyD (.ref a) M = some t) : t = "list" ∨ t = "dict" := by
  unfold tyD at h
  simp only at h
  split at h <;> first | (cases h; simp) | cases h
theorem isi_ref {M : Mem} {a : Addr} {T : Ty} (h : ∃ t, tyD (.ref a) M = some t) (hT : T = .str ∨ T = .tuple ∨ T = .int ∨ T = .bool) : isiD T (.ref a) M = some false := by
  obtain ⟨t, h⟩ := h
  unfold isiD
  rw [h]
  rcases tyD_ref h with rfl | rfl <;> rcases hT with rfl | rfl | rfl | rfl <;> rfl
theorem strOf_len (l : List Nat) : (strOf l).length = l.length := by show l.toArray.size = l.length; simp
theorem isi_else {M : Mem} {d : D} (h : knT M d) (hd : ∀ z, d ≠ .str z) : isiD .str d M = some false := by
  cases d with
  | str z => exact absurd rfl (hd z)
  | ref a => exact isi_ref h (.inl rfl)
  | _ => rfl
theorem tw_le {α : Type} {p : α → Bool} (l : List α) : (l.takeWhile p).length + (l.dropWhile p).length = l.length := by
  rw [← List.length_append, List.takeWhile_append_dropWhile]
theorem atom_ok : ∀ ds M Q, sp_atom ds M Q → w_is_atom sp_num (ends Q) (startD 5 ds) M := by
  rintro ds M Q ⟨d, rfl, hk, q⟩
  unfold w_is_atom
  by_cases hs : ∃ z, d = .str z
  · obtain ⟨z, rfl⟩ := hs
    have hz : z.length ≤ sizeLine := hk
    have ht : (upTo z).length + (onFrom z).length = z.length := by
      rw [← len_cps z]; exact tw_le _
    have hd1 : ((Str.ofString ".").length == 0) = false := by decide
    have hd2 : ¬ (Str.ofString ".").length = 0 := by decide
    have hd3 : (Str.ofString "." = Str.ofString "") = False := by decide
    simp [-Bool.exists_bool, hz, hd2, hd3, part_dot, strOf_len]
    refine ⟨by omega, ?_⟩
    unfold isAtomD isAtom at q
    simp only [Bool.and_assoc] at q
    by_cases h1 : (upTo z).length < 1
    · rw [if_neg (by omega)]
      simp only [h1, decide_true, Bool.not_true, Bool.false_and] at q
      exact drops_of q
    · rw [if_pos (by omega)]
      by_cases h2 : 8 < (upTo z).length
      · rw [if_neg (by omega)]
        simp only [h2, decide_true, Bool.not_true, Bool.false_and, Bool.and_false] at q
        exact drops_of q
      · rw [if_pos (by omega)]
        refine ⟨by omega, ?_⟩
        simp only [h1, h2, decide_false, Bool.not_false, Bool.true_and] at q
        cases hc : upTo z with
        | nil => rw [hc] at h1; simp at h1
        | cons c r =>
          have hcl : (strOf (c :: r)).cps.toList = c :: r := rfl
          rw [hcl]
          refine ⟨c, at0, ?_⟩
          simp only [hc] at q
          by_cases h3 : c ∈ lets.cps.toList
          · rw [if_pos (by simpa using h3)]
            rw [signs_map, hcl]
            refine comp_all _ (fun c => .bl (okCh c)) trivial ?_ ?_ ?_
            · intro a ha N n
              unfold okCh at n
              simp [-Bool.exists_bool]
              by_cases h4 : a ∈ lets.cps.toList
              · rw [if_pos (by simpa using h4)]
                have e : decide (a ∈ (Str.ofString "abcdefghijklmnopqrstuvwxyz").cps) = true := by simpa using h4
                rw [e]
                simpa [h4] using n
              · rw [if_neg (by simpa using h4)]
                simp [h4] at n ⊢
                exact n
            · rw [← hc]; omega
            · refine y_allM ?_
              simp only [List.all_map, h3, decide_true, Bool.true_and] at q ⊢
              have e : ((c :: r).all (id ∘ okCh)) = (c :: r).all okCh := rfl
              rw [e]
              simp only [ex_tr]
              cases h5 : (c :: r).all okCh with
              | false =>
                rw [h5] at q
                exact drops_of q
              | true =>
                rw [h5] at q
                rw [if_pos rfl]
                simp only [Bool.true_and] at q
                by_cases h6 : onFrom z = []
                · simp [h6] at q ⊢
                  exact drops_of q
                · simp [h6] at q ⊢
                  refine ⟨_, rfl, ?_, drops_of q⟩
                  rw [strOf_len, List.length_tail]; omega
          · rw [if_neg (by simpa using h3)]
            simp only [h3, decide_false, Bool.false_and] at q
            exact drops_of q
  · have hi := isi_else hk fun z e => hs ⟨z, e⟩
    have e : isAtomD d = false := by
      cases d <;> first | rfl | exact absurd ⟨_, rfl⟩ hs
    rw [e] at q
    simp [-Bool.exists_bool, hi]
    exact drops_of q
/-! is_line -/
def isMark : D → Bool
  | .int i => decide (0 ≤ i) && decide (i ≤ 999999)
  | _ => false
def isLineD : D → Bool
  | .tup ds => !decide (ds.length < 1) && !decide (80 < ds.length) && ds.all isMark
  | _ => false
def knA (M : Mem) : D → Prop
  | .tup ds => ∀ x ∈ ds, knT M x
  | d => knT M d
theorem knA_T {M : Mem} {d : D} (h : knA M d) : knT M d := by cases d <;> first | exact h | exact True.intro
def sp_line : DSp := fun ds M Q => ∃ d : D, ds = [d] ∧ knA M d ∧ Q (.bl (isLineD d)) M
theorem isi_tup {M : Mem} {d : D} (h : knT M d) (hd : ∀ z, d ≠ .tup z) : isiD .tuple d M = some false := by
  cases d with
  | tup z => exact absurd rfl (hd z)
  | ref a => exact isi_ref h (.inr (.inl rfl))
  | _ => rfl
theorem isi_int {M : Mem} {d : D} (h : knT M d) : isiD .int d M = some (match d with | .int _ => true | .bl _ => true | _ => false) := by
  cases d with
  | ref a => exact isi_ref h (.inr (.inr (.inl rfl)))
  | _ => rfl
theorem isi_bool {M : Mem} {d : D} (h : knT M d) : isiD .bool d M = some (match d with | .bl _ => true | _ => false) := by
  cases d with
  | ref a => exact isi_ref h (.inr (.inr (.inr rfl)))
  | _ => rfl
theorem line_ok : ∀ ds M Q, sp_line ds M Q → w_is_line (ends Q) (startD 2 ds) M := by
  rintro ds M Q ⟨d, rfl, hk, q⟩
  unfold w_is_line
  by_cases hs : ∃ z, d = .tup z
  · obtain ⟨z, rfl⟩ := hs
    have hk : ∀ x ∈ z, knT M x := hk
    simp [-Bool.exists_bool]
    unfold isLineD at q
    simp only [Bool.and_assoc] at q
    by_cases h1 : z.length < 1
    · rw [if_neg (by omega)]
      simp only [h1, decide_true, Bool.not_true, Bool.false_and] at q
      exact drops_of q
    · rw [if_pos (by omega)]
      by_cases h2 : 80 < z.length
      · rw [if_neg (by omega)]
        simp only [h2, decide_true, Bool.not_true, Bool.false_and, Bool.and_false] at q
        exact drops_of q
      · rw [if_pos (by omega)]
        simp only [h1, h2, decide_false, Bool.not_false, Bool.true_and] at q
        refine loop_go (fun done ρ M' => M' = M ∧ (∃ x, ρ = [some (.tup z), x]) ∧ done.all isMark = true) ⟨rfl, ⟨none, rfl⟩, rfl⟩ ?_ ?_
        · rintro done x rest hz ρ M' ⟨rfl, ⟨x0, rfl⟩, hd⟩ N hN
          refine ⟨_, _, .refl, .refl, trivial, ?_⟩
          have hx : knT M' x := hk x (by rw [hz]; simp)
          unfold w_is_line_1
          have fal : isMark x = false → drops Q (.bl false) M' := fun e => by
            have : z.all isMark = false := by rw [hz]; simp [e]
            rw [this] at q
            exact drops_of q
          have tru : isMark x = true → N [some (.tup z), some x] M' := fun e => hN _ _ ⟨rfl, ⟨_, rfl⟩, by simp [e]; simpa using hd⟩
          simp only [y_tg1, List.set_cons_succ, List.set_cons_zero]
          simp [-Bool.exists_bool, isi_int hx, isi_bool hx]
          cases x with
          | int i =>
            simp only [isMark] at fal tru
            simp [-Bool.exists_bool]
            by_cases h3 : 0 ≤ i
            · by_cases h4 : i ≤ 999999
              · simp only [h3, h4, if_true]; exact tru (by simp [h3, h4])
              · simp only [h3, h4, if_true, if_false]; exact fal (by simp [h3, h4])
            · simp only [h3, if_false]; exact fal (by simp [h3])
          | bl b => exact fal rfl
          | non => exact fal rfl
          | str b => exact fal rfl
          | tup b => exact fal rfl
          | ref b => exact fal rfl
          | fl b => exact fal rfl
          | fd b c => exact fal rfl
        · rintro ρ M' ⟨rfl, ⟨x0, rfl⟩, hd⟩
          refine ⟨_, _, .refl, .refl, trivial, ?_⟩
          rw [hd] at q
          simp
          exact drops_of q
  · have hi := isi_tup (knA_T hk) fun z e => hs ⟨z, e⟩
    have e : isLineD d = false := by
      cases d <;> first | rfl | exact absurd ⟨_, rfl⟩ hs
    rw [e] at q
    simp [-Bool.exists_bool, hi]
    exact drops_of q
end F83

set_option Elab.async false
set_option linter.all false
set_option maxRecDepth 100000
set_option maxHeartbeats 4000000
namespace F83
open PySem PySem.Spec PyProof.Rows L2 Fw
theorem sz1000 : 1000 < sizeLine := by rw [sizeLine_eq]; decide
/-! are_unlike_lines -/
def unlikeD : D → Bool
  | .tup ds => ds.all isLineD && decide ds.Nodup
  | _ => false
def knB (M : Mem) : D → Prop
  | .tup ds => ds.length ≤ 1000 ∧ ∀ x ∈ ds, knA M x
  | d => knT M d
theorem knB_T {M : Mem} {d : D} (h : knB M d) : knT M d := by cases d <;> first | exact h | exact True.intro
def sp_unlike : DSp := fun ds M Q => ∃ d : D, ds = [d] ∧ knB M d ∧ Q (.bl (unlikeD d)) M
theorem isMark_int {d : D} (h : isMark d = true) : ∃ i, d = .int i := by
  cases d <;> first | exact ⟨_, rfl⟩ | cases h
theorem marks_ints : ∀ {ds : List D}, ds.all isMark = true → ∃ l : Line, ds = l.map D.int
  | [], _ => ⟨[], rfl⟩
  | d :: ds, h => by
    rw [List.all_cons, Bool.and_eq_true] at h
    obtain ⟨i, rfl⟩ := isMark_int h.1
    obtain ⟨l, rfl⟩ := marks_ints h.2
    exact ⟨i :: l, rfl⟩
theorem line_enc {d : D} (h : isLineD d = true) : ∃ l : Line, d = encL l := by
  cases d with
  | tup ds =>
    unfold isLineD at h
    simp only [Bool.and_eq_true] at h
    obtain ⟨l, rfl⟩ := marks_ints h.2
    exact ⟨l, rfl⟩
  | _ => cases h
theorem kys_len {kvs : List (D × D)} : (kys kvs).length = kvs.length := by unfold kys; rw [List.length_map]
theorem put_len {kvs : List (D × D)} {k v : D} : (putD kvs k v).length = if k ∈ kys kvs then kvs.length else kvs.length + 1 := by
  rw [← kys_len, show kys (putD kvs k v) = (if k ∈ kys kvs then kys kvs else kys kvs ++ [k]) from putD_keys]
  by_cases h : k ∈ kys kvs
  · rw [if_pos h, if_pos h]; exact kys_len
  · rw [if_neg h, if_neg h, List.length_append]; show (kys kvs).length + 1 = _; rw [kys_len]
/-- a table that was filled with the items of a list -/
structure Fill (kvs : List (D × D)) (done : List D) : Prop where
  mem : ∀ d, d ∈ kys kvs ↔ d ∈ done
  le : kvs.length ≤ done.length
  eq : kvs.length = done.length ↔ done.Nodup
theorem Fill.nil : Fill [] [] := ⟨fun d => Iff.rfl, Nat.le_refl _, by simp⟩
theorem Fill.put {kvs : List (D × D)} {done : List D} {x v : D} (f : Fill kvs done) : Fill (putD kvs x v) (done ++ [x]) := by
  refine ⟨fun d => ?_, ?_, ?_⟩
  · rw [kys_put, f.mem]; simp
  · rw [put_len, List.length_append]; have := f.le; split <;> simp <;> omega
  · rw [put_len, List.length_append, List.nodup_append]
    have := f.le
    by_cases h : x ∈ kys kvs
    · rw [if_pos h]
      constructor
      · intro e; simp at e; omega
      · rintro ⟨_, _, h3⟩
        exact absurd rfl (h3 x ((f.mem x).mp h) x (by simp))
    · rw [if_neg h]
      constructor
      · intro e
        refine ⟨f.eq.mp (by simpa using e), by simp, fun a ha b hb => ?_⟩
        rw [List.mem_singleton] at hb
        subst hb
        exact fun e => h ((f.mem _).mpr (e ▸ ha))
      · rintro ⟨h1, _⟩
        simp
        exact f.eq.mpr h1
theorem unlike_ok : ∀ ds M Q, sp_unlike ds M Q → w_are_unlike_lines sp_line (ends Q) (startD 3 ds) M := by
  rintro ds M Q ⟨d, rfl, hk, q⟩
  unfold w_are_unlike_lines
  by_cases hs : ∃ z, d = .tup z
  · obtain ⟨z, rfl⟩ := hs
    obtain ⟨hz, hk⟩ : z.length ≤ 1000 ∧ ∀ x ∈ z, knA M x := hk
    have h1000 := sz1000
    simp [-Bool.exists_bool]
    rw [show z = z.map id from (List.map_id z).symm]
    refine comp_all id (fun x => .bl (isLineD x)) trivial ?_ (by omega) ?_
    · intro a ha N n
      simp
      exact ⟨a, rfl, hk a ha, n⟩
    · rw [List.map_id]
      refine y_allM ?_
      have e : (List.map isLineD z).all id = z.all isLineD := by rw [List.all_map]; rfl
      simp only [e, ex_tr]
      unfold unlikeD at q
      simp only at q
      cases h1 : z.all isLineD with
      | false =>
        rw [h1] at q
        exact drops_of q
      | true =>
        rw [h1, Bool.true_and] at q
        rw [if_pos rfl]
        intro p2 ta tb hp2
        have n2 : M p2 = none := hp2
        have hl : ∀ y ∈ z, ∃ l, y = encL l := fun y hy => line_enc (List.all_eq_true.mp h1 y hy)
        refine loop_go (fun done ρ M' => ∃ x kvs t, ρ = [some (.tup z), x, some (.ref p2)] ∧ SubM M M' ∧ M' p2 = some (.dict kvs t) ∧ Fill kvs done) ⟨none, [], (ta, tb), rfl, SubM.refl.set n2, mset_same, Fill.nil⟩ ?_ ?_
        · rintro done x rest hx ρ M' ⟨x0, kvs, t, rfl, sm, hm, fl⟩ N hN
          refine ⟨_, _, .refl, .refl, trivial, ?_⟩
          obtain ⟨l, rfl⟩ := hl x (by rw [hx]; simp)
          unfold w_are_unlike_lines_1
          simp [y_putD hm]
          refine ⟨keyOk_t (encL_t l) fun d hd => ?_, ?_, fun ta tb => hN _ _ ⟨_, _, _, rfl, sm.set n2, mset_same, fl.put⟩⟩
          · obtain ⟨m, rfl⟩ := hl d (by rw [hx]; simp [(fl.mem d).mp hd])
            exact encL_t m
          · have := fl.le
            have h2 : z.length = _ := congrArg List.length hx
            simp at h2
            omega
        · rintro ρ M' ⟨x0, kvs, t, rfl, sm, hm, fl⟩
          refine ⟨_, _, .refl, .refl, trivial, ?_⟩
          simp [-Bool.exists_bool, y_lenD hm]
          refine drops_to sm ?_
          have e : decide (((kvs.length : Nat) : Int) = (z.length : Nat)) = decide z.Nodup := decide_eq_decide.mpr ⟨fun h => fl.eq.mp (by omega), fun h => by rw [fl.eq.mpr h]⟩
          rw [e]
          exact q
  · have hi := isi_tup (knB_T hk) fun z e => hs ⟨z, e⟩
    have e : unlikeD d = false := by
      cases d <;> first | rfl | exact absurd ⟨_, rfl⟩ hs
    rw [e] at q
    simp [-Bool.exists_bool, hi]
    exact drops_of q
/-! is_ban_list -/
def pairOk : D → Bool
  | .tup [a, l] => isAtomD a && unlikeD l
  | _ => false
def fstD : D → D
  | .tup (a :: _) => a
  | d => d
def cntD : D → Nat
  | .tup [_, .tup ls] => ls.length
  | _ => 0
def isBanD : D → Bool
  | .tup ds => !decide (100 < ds.length) && ds.all pairOk && decide (ds.map fstD).Nodup && decide ((ds.map cntD).sum ≤ 100)
  | _ => false
def knP (M : Mem) : D → Prop
  | .tup [a, l] => knT M a ∧ knB M l
  | d => knT M d
def knC (M : Mem) : D → Prop
  | .tup ds => ds.length ≤ 1000 ∧ ∀ x ∈ ds, knP M x
  | d => knT M d
theorem knC_T {M : Mem} {d : D} (h : knC M d) : knT M d := by cases d <;> first | exact h | exact True.intro
theorem knT_sub {M M' : Mem} (s : SubM M M') {d : D} (h : knT M d) : knT M' d := by
  cases d with
  | ref a =>
    obtain ⟨t, h⟩ := h
    refine ⟨t, ?_⟩
    unfold tyD at h ⊢
    simp only at h ⊢
    cases c : M a with
    | none => rw [c] at h; cases h
    | some o => rw [s a o c]; rw [c] at h; exact h
  | _ => exact h
theorem knA_sub {M M' : Mem} (s : SubM M M') {d : D} (h : knA M d) : knA M' d := by
  cases d with
  | tup ds => exact fun x hx => knT_sub s (h x hx)
  | ref a => exact knT_sub s (d := .ref a) h
  | _ => exact h
theorem knB_sub {M M' : Mem} (s : SubM M M') {d : D} (h : knB M d) : knB M' d := by
  cases d with
  | tup ds => exact ⟨h.1, fun x hx => knA_sub s (h.2 x hx)⟩
  | ref a => exact knT_sub s (d := .ref a) h
  | _ => exact h
def sp_ban : DSp := fun ds M Q => ∃ d : D, ds = [d] ∧ knC M d ∧ Q (.bl (isBanD d)) M
theorem atom_str {d : D} (h : isAtomD d = true) : ∃ z, d = .str z := by cases d <;> first | exact ⟨_, rfl⟩ | cases h
theorem unlike_tup {d : D} (h : unlikeD d = true) : ∃ z, d = .tup z := by cases d <;> first | exact ⟨_, rfl⟩ | cases h
theorem ban_ok : ∀ ds M Q, sp_ban ds M Q → w_is_ban_list sp_atom sp_unlike (ends Q) (startD 6 ds) M := by
  rintro ds M Q ⟨d, rfl, hk, q⟩
  unfold w_is_ban_list
  by_cases hs : ∃ z, d = .tup z
  · obtain ⟨z, rfl⟩ := hs
    obtain ⟨hz, hk⟩ : z.length ≤ 1000 ∧ ∀ x ∈ z, knP M x := hk
    have h1000 := sz1000
    simp [-Bool.exists_bool]
    unfold isBanD at q
    simp only [Bool.and_assoc] at q
    by_cases h1 : 100 < z.length
    · rw [if_pos (by omega)]
      simp only [h1, decide_true, Bool.not_true, Bool.false_and] at q
      exact drops_of q
    · rw [if_neg (by omega)]
      simp only [h1, decide_false, Bool.not_false, Bool.true_and] at q
      intro p ta tb hp
      refine loop_go (fun done ρ M' => ∃ x3 x4 x5 kvs t, ρ = [some (.tup z), some (.ref p), some (.int ((done.map cntD).sum : Nat)), x3, x4, x5] ∧ SubM M M' ∧ M' p = some (.dict kvs t) ∧ (∀ d, d ∈ kys kvs ↔ d ∈ done.map fstD) ∧ kvs.length ≤ done.length ∧ done.all pairOk = true ∧ (done.map fstD).Nodup) ⟨none, none, none, [], (ta, tb), rfl, SubM.new hp, mset_same, fun d => by simp [kys], by simp, rfl, by simp⟩ ?_ ?_
      · rintro done x rest hx ρ M' ⟨x3, x4, x5, kvs, t, rfl, sm, hm, hmem, hle, hok, hnd⟩ N hN
        refine ⟨_, _, .refl, .refl, trivial, ?_⟩
        have hkx := hk x (by rw [hx]; simp)
        unfold w_is_ban_list_1
        have fal : pairOk x = false → drops Q (.bl false) M' := fun e => by
          have : z.all pairOk = false := by rw [hx]; simp [e]
          rw [this, Bool.false_and] at q
          exact drops_to sm q
        by_cases hp2 : ∃ a l, x = .tup [a, l]
        · obtain ⟨a, l, rfl⟩ := hp2
          obtain ⟨ka, kl⟩ : knT M a ∧ knB M l := hkx
          simp [-Bool.exists_bool]
          refine ⟨a, rfl, knT_sub sm ka, ?_⟩
          cases ha : isAtomD a with
          | false => simp; exact fal (by simp [pairOk, ha])
          | true =>
            obtain ⟨nm, rfl⟩ := atom_str ha
            simp [-Bool.exists_bool, y_inD hm]
            have ko : keyOk kvs (.str nm) := keyOk_f rfl fun d hd => by
              have := (hmem d).mp hd
              rw [List.mem_map] at this
              obtain ⟨y, hy, rfl⟩ := this
              have hyo := List.all_eq_true.mp hok y hy
              unfold pairOk at hyo
              split at hyo
              · rename_i a l
                rw [Bool.and_eq_true] at hyo
                obtain ⟨z2, e2⟩ := atom_str hyo.1
                simp only [fstD]
                rw [e2]; rfl
              · cases hyo
            refine ⟨ko, ?_⟩
            rw [valD_some]
            by_cases hin : D.str nm ∈ kys kvs
            · rw [show decide (D.str nm ∈ List.map (fun x => x.1) kvs) = true from decide_eq_true hin]
              simp
              have hnot : ¬ (z.map fstD).Nodup := by
                rw [hx, List.map_append, List.map_cons]
                intro hn
                rw [List.nodup_append] at hn
                exact hn.2.2 _ ((hmem _).mp hin) (.str nm) (by simp [fstD]) rfl
              rw [decide_eq_false hnot, Bool.false_and, Bool.and_false] at q
              exact drops_to sm q
            · rw [show decide (D.str nm ∈ List.map (fun x => x.1) kvs) = false from decide_eq_false hin]
              simp
              refine ⟨l, rfl, knB_sub sm kl, ?_⟩
              cases hl : unlikeD l with
              | false => simp; exact fal (by simp [pairOk, hl])
              | true =>
                obtain ⟨ls, rfl⟩ := unlike_tup hl
                simp [y_putD hm]
                refine ⟨ko, by
                  have h2 : z.length = _ := congrArg List.length hx
                  simp at h2
                  omega, fun ta tb => hN _ _ ⟨some (.tup [.str nm, .tup ls]), some (.str nm), some (.tup ls), putD kvs (.str nm) (.bl true), (ta, tb), ?e1, sm.set hp, mset_same, ?e2, ?e3, ?e4, ?e5⟩⟩
                case e1 => simp [cntD]
                case e2 => intro d; rw [kys_put, hmem]; simp [fstD]
                case e3 => rw [put_len, if_neg hin]; simp; omega
                case e4 =>
                  rw [List.all_append, hok]
                  simp [pairOk, ha, hl]
                case e5 =>
                  rw [List.map_append, List.nodup_append]
                  refine ⟨hnd, by simp, fun a ha b hb => ?_⟩
                  simp [fstD] at hb
                  subst hb
                  exact fun e => hin ((hmem _).mpr (e ▸ ha))
        · have hno : pairOk x = false := by
            unfold pairOk
            split
            · exact absurd ⟨_, _, rfl⟩ hp2
            · rfl
          by_cases ht : ∃ y, x = .tup y
          · obtain ⟨y, rfl⟩ := ht
            have hy : y.length ≠ 2 := by
              intro e
              match y, e with
              | [a, l], _ => exact hp2 ⟨a, l, rfl⟩
            simp [-Bool.exists_bool, show ¬ ((y.length : Nat) : Int) = 2 by omega]
            exact fal hno
          · have hkx' : knT M' x := knT_sub sm (by
              cases x with
              | tup y => exact absurd ⟨_, rfl⟩ ht
              | _ => exact hkx)
            have hi := isi_tup hkx' fun y e => ht ⟨y, e⟩
            simp [-Bool.exists_bool, hi]
            exact fal hno
      · rintro ρ M' ⟨x3, x4, x5, kvs, t, rfl, sm, hm, hmem, hle, hok, hnd⟩
        refine ⟨_, _, .refl, .refl, trivial, ?_⟩
        simp [-Bool.exists_bool]
        refine drops_to sm ?_
        rw [hok, decide_eq_true hnd, Bool.true_and, Bool.true_and] at q
        have e : decide ((((z.map cntD).sum : Nat) : Int) ≤ 100) = decide ((z.map cntD).sum ≤ 100) := decide_eq_decide.mpr (by omega)
        rw [e]
        exact q
  · have hi := isi_tup (knC_T hk) fun z e => hs ⟨z, e⟩
    have e : isBanD d = false := by
      cases d <;> first | rfl | exact absurd ⟨_, rfl⟩ hs
    rw [e] at q
    simp [-Bool.exists_bool, hi]
    exact drops_of q
end F83

set_option Elab.async false
set_option linter.all false
set_option maxRecDepth 100000
set_option maxHeartbeats 4000000
namespace F83
open PySem PySem.Spec PyProof.Rows L2 Fw
/-! tables of lines -/
structure LT (kvs : List (D × D)) (S : Line → Prop) : Prop where
  nd : (kys kvs).Nodup
  mem : ∀ d, d ∈ kys kvs ↔ ∃ l, S l ∧ d = encL l
theorem LT.nil : LT [] fun _ => False := ⟨List.nodup_nil, fun d => by simp [kys]⟩
theorem LT.put {kvs : List (D × D)} {S : Line → Prop} {l : Line} {v : D} (t : LT kvs S) : LT (putD kvs (encL l) v) fun m => S m ∨ m = l :=
  ⟨kys_nodup t.nd, fun d => by
    rw [kys_put, t.mem]
    constructor
    · rintro (⟨m, h, rfl⟩ | rfl)
      · exact ⟨m, .inl h, rfl⟩
      · exact ⟨l, .inr rfl, rfl⟩
    · rintro ⟨m, h | rfl, rfl⟩
      · exact .inl ⟨m, h, rfl⟩
      · exact .inr rfl⟩
theorem LT.congr {kvs : List (D × D)} {S S' : Line → Prop} (t : LT kvs S) (h : ∀ l, S l ↔ S' l) : LT kvs S' := ⟨t.nd, fun d => by rw [t.mem]; exact ⟨fun ⟨l, a, b⟩ => ⟨l, (h l).mp a, b⟩, fun ⟨l, a, b⟩ => ⟨l, (h l).mpr a, b⟩⟩⟩
theorem LT.len {kvs : List (D × D)} {S : Line → Prop} (t : LT kvs S) {U : List Line} (h : ∀ l, S l → l ∈ U) : kvs.length ≤ U.length := by
  rw [← kys_len, ← List.length_map (f := encL) (as := U)]
  exact nodup_le t.nd fun d hd => by
    obtain ⟨l, hl, rfl⟩ := (t.mem d).mp hd
    exact List.mem_map_of_mem (h l hl)
theorem LT.ok {kvs : List (D × D)} {S : Line → Prop} (t : LT kvs S) (l : Line) : keyOk kvs (encL l) := keyOk_t (encL_t l) fun d hd => by
  obtain ⟨m, _, rfl⟩ := (t.mem d).mp hd
  exact encL_t m
theorem LT.has {kvs : List (D × D)} {S : Line → Prop} (t : LT kvs S) (l : Line) : (valD kvs (encL l)).isSome = true ↔ S l := by
  rw [valD_some, decide_eq_true_eq]
  show encL l ∈ kys kvs ↔ _
  rw [t.mem]
  exact ⟨fun ⟨m, h, e⟩ => (encL_inj.mp e) ▸ h, fun h => ⟨l, h, rfl⟩⟩
theorem LT.hasD {kvs : List (D × D)} {S : Line → Prop} [DecidablePred S] (t : LT kvs S) (l : Line) : (valD kvs (encL l)).isSome = decide (S l) := by
  rw [Bool.eq_iff_iff, decide_eq_true_eq]; exact t.has l
theorem enc_list : ∀ {ds : List D}, (∀ d ∈ ds, ∃ l, d = encL l) → ∃ ls : List Line, ds = ls.map encL
  | [], _ => ⟨[], rfl⟩
  | d :: ds, h => by
    obtain ⟨l, rfl⟩ := h d List.mem_cons_self
    obtain ⟨ls, rfl⟩ := enc_list (ds := ds) fun d hd => h d (List.mem_cons_of_mem _ hd)
    exact ⟨l :: ls, rfl⟩
theorem mem_enc {l : Line} {ls : List Line} : encL l ∈ ls.map encL ↔ l ∈ ls := by
  rw [List.mem_map]
  exact ⟨fun ⟨m, h, e⟩ => (encL_inj.mp e) ▸ h, fun h => ⟨l, h, rfl⟩⟩
theorem LT.lines {kvs : List (D × D)} {S : Line → Prop} (t : LT kvs S) : ∃ ls : List Line, kvs.map (·.1) = ls.map encL ∧ (∀ l, l ∈ ls ↔ S l) ∧ ls.Nodup := by
  obtain ⟨ls, e⟩ := enc_list (ds := kys kvs) fun d hd => let ⟨l, _, h⟩ := (t.mem d).mp hd; ⟨l, h⟩
  refine ⟨ls, e, fun l => ?_, ?_⟩
  · rw [← mem_enc, ← e, t.mem]
    exact ⟨fun ⟨m, h, e⟩ => (encL_inj.mp e) ▸ h, fun h => ⟨l, h, rfl⟩⟩
  · have := t.nd
    rw [e] at this
    exact (List.pairwise_map.mp this).imp fun h e => h (by rw [e])
/-! atom_banned -/
abbrev Bans := List (PySem.Str × List Line)
def encP (p : PySem.Str × List Line) : D := .tup [.str p.1, .tup (p.2.map encL)]
def encB (bs : Bans) : D := .tup (bs.map encP)
def atomB (bs : Bans) (a : PySem.Str) : Line → Prop := fun l => ∃ p ∈ bs, p.1 = a ∧ l ∈ p.2
def sp_atomB : DSp := fun ds M Q => ∃ (bs : Bans) (a : PySem.Str) (U : List Line), ds = [encB bs, .str a] ∧ U.length ≤ 100000 ∧ (∀ l, atomB bs a l → l ∈ U) ∧ ∀ p kvs t, M p = none → LT kvs (atomB bs a) → Q (.ref p) (mset M p (.dict kvs t))
theorem sz5 : 100000 < sizeLine := by rw [sizeLine_eq]; decide
theorem atomB_ok : ∀ ds M Q, sp_atomB ds M Q → w_atom_banned (ends Q) (startD 6 ds) M := by
  rintro ds M Q ⟨bs, a, U, rfl, hU, hin, q⟩
  have h5 := sz5
  unfold w_atom_banned
  simp [-Bool.exists_bool]
  intro p ta tb hp
  refine loop_map (xs := bs) encP (fun done ρ M' => ∃ x3 x4 x5 kvs t, ρ = [some (encB bs), some (.str a), some (.ref p), x3, x4, x5] ∧ SubM M M' ∧ M' p = some (.dict kvs t) ∧ LT kvs (atomB done a)) ⟨none, none, none, [], (ta, tb), rfl, SubM.new hp, mset_same, LT.nil.congr fun l => by simp [atomB]⟩ ?_ ?_
  · rintro done ⟨nm, ls⟩ rest hx ρ M' ⟨x3, x4, x5, kvs, t, rfl, sm, hm, lt⟩ N hN
    refine ⟨_, _, .refl, .refl, trivial, ?_⟩
    unfold w_atom_banned_2
    simp [-Bool.exists_bool, encP]
    by_cases e : nm = a
    · subst e
      rw [if_pos rfl]
      refine loop_map (xs := ls) encL (fun dl ρ M' => ∃ x5 kvs t, ρ = [some (encB bs), some (.str nm), some (.ref p), some (.str nm), some (.tup (ls.map encL)), x5] ∧ SubM M M' ∧ M' p = some (.dict kvs t) ∧ LT kvs (fun l => atomB done nm l ∨ l ∈ dl)) ⟨x5, kvs, t, rfl, sm, hm, lt.congr fun l => by simp⟩ ?_ ?_
      · rintro dl l rl hl ρ M'' ⟨x5, kvs, t, rfl, sm, hm, lt⟩ N' hN'
        refine ⟨_, _, .refl, .refl, trivial, ?_⟩
        unfold w_atom_banned_1
        simp [y_putD hm]
        refine ⟨lt.ok l, ?_, fun ta tb => hN' _ _ ⟨some (encL l), putD kvs (encL l) (.bl true), (ta, tb), rfl, sm.set hp, mset_same, lt.put.congr fun m => by simp [or_assoc]⟩⟩
        have := lt.len (U := U) fun m hm => hin m (by
          rcases hm with ⟨y, hy, e1, e2⟩ | hm
          · exact ⟨y, by rw [hx]; simp [hy], e1, e2⟩
          · exact ⟨(nm, ls), by rw [hx]; simp, rfl, by rw [hl]; simp [hm]⟩)
        omega
      · rintro ρ M'' ⟨x5, kvs, t, rfl, sm, hm, lt⟩
        refine ⟨_, _, .refl, .refl, trivial, hN _ _ ⟨some (.str nm), some (.tup (ls.map encL)), x5, kvs, t, rfl, sm, hm, lt.congr fun l => ?_⟩⟩
        unfold atomB
        simp [or_and_right, exists_or]
    · rw [if_neg e]
      refine hN _ _ ⟨some (.str nm), some (.tup (ls.map encL)), x5, kvs, t, rfl, sm, hm, lt.congr fun l => ?_⟩
      unfold atomB
      simp [or_and_right, exists_or, e]
  · rintro ρ M' ⟨x3, x4, x5, kvs, t, rfl, sm, hm, lt⟩
    refine ⟨_, _, .refl, .refl, trivial, ?_⟩
    simp
    exact drops_to (sm.to hm) (q p kvs t hp lt)
/-! over_banned, under_banned -/
def overB (S T : Line → Prop) : Line → Prop := fun l => ∃ m, S m ∧ ∃ c, 1 ≤ c ∧ c < m.length ∧ l = m.take c ∧ ¬ T (m.drop c)
def sp_over : DSp := fun ds M Q => ∃ (a b : Addr) (k1 k2 : List (D × D)) (t1 t2 : Tk) (S T : Line → Prop) (U : List Line), ds = [.ref a, .ref b] ∧ M a = some (.dict k1 t1) ∧ M b = some (.dict k2 t2) ∧ LT k1 S ∧ LT k2 T ∧ U.length ≤ 100000 ∧ (∀ l, S l → l.length ≤ 1000) ∧ (∀ l, overB S T l → l ∈ U) ∧
  ∀ p kvs t, M p = none → LT kvs (overB S T) → Q (.ref p) (mset M p (.dict kvs t))
theorem rg {i j : Nat} (h1 : i ≤ 100000) (h2 : j ≤ 100000) : RgOk2 (i : Int) (j : Int) := by unfold RgOk2; omega
theorem over_ok : ∀ ds M Q, sp_over ds M Q → w_over_banned (ends Q) (startD 5 ds) M := by
  rintro ds M Q ⟨a, b, k1, k2, t1, t2, S, T, U, rfl, ha, hb, lt1, lt2, hU, hlen, hin, q⟩
  have h5 := sz5
  unfold w_over_banned
  simp [-Bool.exists_bool]
  intro p ta tb hp
  have hpa : a ≠ p := fun e => by rw [e, hp] at ha; cases ha
  have hpb : b ≠ p := fun e => by rw [e, hp] at hb; cases hb
  rw [y_srcD (by rw [mset_ne hpa]; exact ha)]
  obtain ⟨ls, els, hls, nls⟩ := lt1.lines
  show loopD _ _ _ (k1.map (·.1)) _ _ _
  rw [els]
  refine loop_map encL (fun done ρ M' => ∃ x3 x4 kvs t, ρ = [some (.ref a), some (.ref b), some (.ref p), x3, x4] ∧ SubM M M' ∧ M' p = some (.dict kvs t) ∧ LT kvs (fun l => ∃ m, m ∈ done ∧ ∃ c, 1 ≤ c ∧ c < m.length ∧ l = m.take c ∧ ¬ T (m.drop c))) ⟨none, none, [], (ta, tb), rfl, SubM.new hp, mset_same, LT.nil.congr fun l => by simp⟩ ?_ ?_
  · rintro done m rest hx ρ M' ⟨x3, x4, kvs, t, rfl, sm, hm, lt⟩ N hN
    refine ⟨_, _, .refl, .refl, sm a _ ha, ?_⟩
    have hSm : S m := (hls m).mp (by rw [hx]; simp)
    have hml := hlen m hSm
    unfold w_over_banned_2
    simp [-Bool.exists_bool]
    refine ⟨rg (i := 1) (by omega) (by omega), ?_⟩
    refine loop_range (lo := 1) (n := m.length - 1) (fun i ρ M' => ∃ x4 kvs t, ρ = [some (.ref a), some (.ref b), some (.ref p), some (encL m), x4] ∧ SubM M M' ∧ M' p = some (.dict kvs t) ∧ LT kvs (fun l => (∃ m, m ∈ done ∧ ∃ c, 1 ≤ c ∧ c < m.length ∧ l = m.take c ∧ ¬ T (m.drop c)) ∨ ∃ c, 1 ≤ c ∧ c < 1 + i ∧ c < m.length ∧ l = m.take c ∧ ¬ T (m.drop c))) ⟨x4, kvs, t, rfl, sm, hm, lt.congr fun l => by
      constructor
      · exact .inl
      · rintro (h | ⟨c, h1, h2, _⟩)
        · exact h
        · omega⟩ ?_ ?_
    · rintro i hi ρ M'' ⟨x4, kvs, t, rfl, sm, hm, lt⟩ N' hN'
      refine ⟨_, _, .refl, .refl, trivial, ?_⟩
      unfold w_over_banned_1
      simp only [y_tg1, List.set_cons_succ, List.set_cons_zero]
      simp [-Bool.exists_bool, -Int.natCast_add]
      rw [y_inD (sm b _ hb)]
      refine ⟨lt2.ok _, ?_⟩
      simp only [ex_bl]
      by_cases hT : T (m.drop (1 + i))
      · rw [(lt2.has _).mpr hT]
        rw [Bool.not_true, if_neg Bool.false_ne_true]
        refine hN' _ _ ⟨_, kvs, t, rfl, sm, hm, lt.congr fun l => ?_⟩
        refine or_congr Iff.rfl ⟨fun ⟨c, h1, h2, h3⟩ => ⟨c, h1, by omega, h3⟩, fun ⟨c, h1, h2, h3, h4, h6⟩ => ⟨c, h1, ?_, h3, h4, h6⟩⟩
        by_cases hc : c = 1 + i
        · subst hc; exact absurd hT h6
        · omega
      · rw [show (valD k2 (encL (m.drop (1 + i)))).isSome = false from by rw [Bool.eq_false_iff]; exact fun e => hT ((lt2.has _).mp e)]
        rw [Bool.not_false, if_pos rfl, y_putD hm]
        refine ⟨lt.ok _, ?_, fun t => hN' _ _ ⟨_, _, t, rfl, sm.set hp, mset_same, lt.put.congr fun l => ?_⟩⟩
        · have := lt.len (U := U) fun l hl => hin l (by
            rcases hl with ⟨m', h1, h2⟩ | ⟨c, h1, h2, h3⟩
            · exact ⟨m', (hls m').mp (by rw [hx]; simp [h1]), h2⟩
            · exact ⟨m, hSm, c, h1, h3⟩)
          omega
        · rw [or_assoc]
          refine or_congr Iff.rfl ⟨?_, fun ⟨c, h1, h2, h3, h4, h6⟩ => ?_⟩
          · rintro (⟨c, h1, h2, h3⟩ | rfl)
            · exact ⟨c, h1, by omega, h3⟩
            · exact ⟨1 + i, by omega, by omega, by omega, rfl, hT⟩
          · by_cases hc : c = 1 + i
            · subst hc; exact .inr h4
            · exact .inl ⟨c, h1, by omega, h3, h4, h6⟩
    · rintro ρ M'' ⟨x4, kvs, t, rfl, sm, hm, lt⟩
      refine ⟨_, _, .refl, .refl, trivial, hN _ _ ⟨_, x4, kvs, t, rfl, sm, hm, lt.congr fun l => ?_⟩⟩
      constructor
      · rintro (⟨m', h1, h2⟩ | ⟨c, h1, h2, h3⟩)
        · exact ⟨m', by simp [h1], h2⟩
        · exact ⟨m, by simp, c, h1, h3⟩
      · rintro ⟨m', h1, c, h2, h3⟩
        rw [List.mem_append, List.mem_singleton] at h1
        rcases h1 with h1 | rfl
        · exact .inl ⟨m', h1, c, h2, h3⟩
        · exact .inr ⟨c, h2, by omega, h3⟩
  · rintro ρ M' ⟨x3, x4, kvs, t, rfl, sm, hm, lt⟩
    refine ⟨_, _, .refl, .refl, sm a _ ha, ?_⟩
    simp
    exact drops_to (sm.to hm) (q p kvs t hp (lt.congr fun l => by unfold overB; simp [hls]))
end F83

set_option Elab.async false
set_option linter.all false
set_option maxRecDepth 100000
set_option maxHeartbeats 4000000
namespace F83
open PySem PySem.Spec PyProof.Rows L2 Fw
theorem LT.kt {kvs : List (D × D)} {S : Line → Prop} (t : LT kvs S) : KT encL kvs S := ⟨t.nd, t.mem⟩
theorem KTlt {kvs : List (D × D)} {S : Line → Prop} (t : KT encL kvs S) : LT kvs S := ⟨t.nd, t.mem⟩
/-! under_banned -/
def underB (T S : Line → Prop) : Line → Prop := fun l => ∃ m, S m ∧ ∃ c, 1 ≤ c ∧ c < m.length ∧ l = m.drop c ∧ ¬ T (m.take c)
def sp_under : DSp := fun ds M Q => ∃ (a b : Addr) (k1 k2 : List (D × D)) (t1 t2 : Tk) (T S : Line → Prop) (U : List Line), ds = [.ref a, .ref b] ∧ M a = some (.dict k1 t1) ∧ M b = some (.dict k2 t2) ∧ LT k1 T ∧ LT k2 S ∧ U.length ≤ 100000 ∧ (∀ l, S l → l.length ≤ 1000) ∧ (∀ l, underB T S l → l ∈ U) ∧
  ∀ p kvs t, M p = none → LT kvs (underB T S) → Q (.ref p) (mset M p (.dict kvs t))
theorem under_ok : ∀ ds M Q, sp_under ds M Q → w_under_banned (ends Q) (startD 5 ds) M := by
  rintro ds M Q ⟨a, b, k1, k2, t1, t2, T, S, U, rfl, ha, hb, lt1, lt2, hU, hlen, hin, q⟩
  unfold w_under_banned
  simp [-Bool.exists_bool]
  intro p ta tb hp
  have hpb : b ≠ p := fun e => by rw [e, hp] at hb; cases hb
  rw [y_srcD (by rw [mset_ne hpb]; exact hb)]
  obtain ⟨ls, els, hls, nls⟩ := lt2.lines
  show loopD _ _ _ (k2.map (·.1)) _ _ _
  rw [els]
  refine fill_map (M := M) (enc := encL) (U := U) (p := p) (S := fun _ => False) (R := fun ρ => ∃ x y, ρ = [some (.ref a), some (.ref b), some (.ref p), x, y]) encL (fun m l => ∃ c, 1 ≤ c ∧ c < m.length ∧ l = m.drop c ∧ ¬ T (m.take c)) (fun M' s => s b _ hb) (.start ⟨_, _, rfl⟩ hp) ?_ ?_
  · intro m hm S' ρ M' s N hN
    obtain ⟨x, y, rfl⟩ := s.env
    have hSm : S m := (hls m).mp hm
    have hml := hlen m hSm
    unfold w_under_banned_2
    simp [-Bool.exists_bool]
    refine ⟨rg (i := 1) (by omega) (by omega), ?_⟩
    refine fill_range (lo := 1) (n := m.length - 1) (M := M) (enc := encL) (U := U) (p := p) (S := S') (R := fun ρ => ∃ y, ρ = [some (.ref a), some (.ref b), some (.ref p), some (encL m), y]) (fun c l => l = m.drop c ∧ ¬ T (m.take c)) (fun _ _ => trivial) ⟨⟨_, rfl⟩, s.sub, s.tab, s.bnd⟩ ?_ ?_
    · intro c h1 h2 S'' ρ M' s N' hN'
      obtain ⟨y, rfl⟩ := s.env
      unfold w_under_banned_1
      simp [-Bool.exists_bool]
      rw [y_inD (s.sub a _ ha)]
      refine ⟨lt1.ok _, ?_⟩
      simp only [ex_bl]
      by_cases hT : T (m.take c)
      · rw [(lt1.has _).mpr hT, Bool.not_true, if_neg Bool.false_ne_true]
        exact hN' _ _ ⟨⟨_, rfl⟩, s.sub, let ⟨k, t, e, q⟩ := s.tab; ⟨k, t, e, q.congr fun l => by simp [hT]⟩, fun l hl => hl.elim (s.bnd l) fun h => absurd hT h.2⟩
      · rw [show (valD k1 (encL (m.take c))).isSome = false from by rw [Bool.eq_false_iff]; exact fun e => hT ((lt1.has _).mp e)]
        rw [Bool.not_false, if_pos rfl]
        exact s.put (R' := fun ρ => ∃ y, ρ = [some (.ref a), some (.ref b), some (.ref p), some (encL m), y]) encL_ok hU hp (hin _ ⟨m, hSm, c, h1, by omega, rfl, hT⟩) ⟨_, rfl⟩ fun M'' s => hN' _ _ (s.congr fun l => by simp [hT])
    · intro ρ M' s
      exact hN _ _ ((s.env' fun ρ ⟨y, h⟩ => ⟨_, y, h⟩).congr fun l => or_congr Iff.rfl ⟨fun ⟨i, h1, h2, h3⟩ => ⟨i, h1, by omega, h3⟩, fun ⟨i, h1, h2, h3⟩ => ⟨i, h1, by omega, h3⟩⟩)
  · intro ρ M' s
    obtain ⟨x, y, rfl⟩ := s.env
    obtain ⟨kvs, t, hm, kt⟩ := s.tab
    simp
    exact drops_to (s.sub.to hm) (q p kvs t hp ((KTlt kt).congr fun l => by unfold underB; simp [hls]))
end F83

set_option Elab.async false
set_option linter.all false
set_option maxRecDepth 100000
set_option maxHeartbeats 4000000
namespace F83
open PySem PySem.Spec PyProof.Rows L2 Fw
/-! is_allowed_row -/
def rowB (F G : Line → Prop) (l : Line) : Prop := ∃ c, 1 ≤ c ∧ c < l.length ∧ ¬ F (l.take c) ∧ ¬ G (l.drop c)
def sp_row : DSp := fun ds M Q => ∃ (l : Line) (a b : Addr) (k1 k2 : List (D × D)) (t1 t2 : Tk) (F G : Line → Prop), ds = [encL l, .ref a, .ref b] ∧ M a = some (.dict k1 t1) ∧ M b = some (.dict k2 t2) ∧ LT k1 F ∧ LT k2 G ∧ l.length ≤ 1000 ∧
  ∀ v, (v = true ↔ rowB F G l) → Q (.bl v) M
theorem row_ok : ∀ ds M Q, sp_row ds M Q → w_is_allowed_row (ends Q) (startD 4 ds) M := by
  rintro ds M Q ⟨l, a, b, k1, k2, t1, t2, F, G, rfl, ha, hb, lt1, lt2, hl, q⟩
  unfold w_is_allowed_row
  have h5 := sz5
  simp [-Bool.exists_bool]
  refine ⟨rg (i := 1) (by omega) (by omega), ?_⟩
  let g : Nat → Bool := fun i => !(valD k1 (encL (l.take (1 + i)))).isSome && !(valD k2 (encL (l.drop (1 + i)))).isSome
  have e : ranged 1 (l.length - 1) = (List.range (l.length - 1)).map fun i : Nat => D.int ((1 + i : Nat) : Int) := by unfold ranged; simp
  rw [e]
  refine comp_all (fun i : Nat => D.int ((1 + i : Nat) : Int)) (fun i => .bl (g i)) trivial ?_ ?_ ?_
  · intro i hi N n
    simp [-Bool.exists_bool, -Int.natCast_add]
    rw [y_inD ha]
    refine ⟨lt1.ok _, ?_⟩
    simp only [ex_tr]
    show if (!(valD k1 (encL (l.take (1 + i)))).isSome) = true then _ else _
    have n' : N (.bl (!(valD k1 (encL (l.take (1 + i)))).isSome && !(valD k2 (encL (l.drop (1 + i)))).isSome)) M := n
    cases h : (!(valD k1 (encL (l.take (1 + i)))).isSome) with
    | false => rw [h, Bool.false_and] at n'; rw [if_neg Bool.false_ne_true]; exact n'
    | true => rw [h, Bool.true_and] at n'; rw [if_pos rfl, y_inD hb]; exact ⟨lt2.ok _, n'⟩
  · rw [List.length_range]; omega
  · refine y_allM ?_
    refine drops_of (q _ ?_)
    rw [List.any_map, List.any_eq_true]
    have ng : ∀ i, g i = true ↔ ¬ F (l.take (1 + i)) ∧ ¬ G (l.drop (1 + i)) := fun i => by
      show (!(valD k1 (encL (l.take (1 + i)))).isSome && !(valD k2 (encL (l.drop (1 + i)))).isSome) = true ↔ _
      rw [Bool.and_eq_true, Bool.not_eq_true', Bool.not_eq_true', Bool.eq_false_iff, Bool.eq_false_iff, ne_eq, ne_eq, lt1.has, lt2.has]
    constructor
    · rintro ⟨i, hi, h⟩
      rw [List.mem_range] at hi
      exact ⟨1 + i, by omega, by omega, (ng i).mp h⟩
    · rintro ⟨c, h1, h2, h3⟩
      exact ⟨c - 1, by rw [List.mem_range]; omega, (ng (c - 1)).mpr (by rw [show 1 + (c - 1) = c by omega]; exact h3)⟩
/-! allowed_frames -/
abbrev Fr := Line × Line
def encF (f : Fr) : D := .tup [encL f.1, encL f.2]
theorem encF_ok : EncOk encF := ⟨fun ⟨a, b⟩ ⟨c, d⟩ h => by
  unfold encF at h
  injection h with h
  injection h with h1 h2
  injection h2 with h2 _
  have e1 : a = c := encL_inj.mp h1
  have e2 : b = d := encL_inj.mp h2
  rw [e1, e2], fun ⟨a, b⟩ => tkey_cl (by simp [D.cl, D.cls, encL_cl]) (by simp [D.dep, D.deps, encL_dep])⟩
def frB (ls : List Line) (F G : Line → Prop) : Fr → Prop := fun f => ∃ m ∈ ls, ∃ i, i < m.length ∧ ∃ j, i + 2 ≤ j ∧ j ≤ m.length ∧ f = (m.take i, m.drop j) ∧ rowB F G ((m.take j).drop i)
def sp_frames : DSp := fun ds M Q => ∃ (ls : List Line) (a b : Addr) (k1 k2 : List (D × D)) (t1 t2 : Tk) (F G : Line → Prop) (U : List Fr), ds = [.tup (ls.map encL), .ref a, .ref b] ∧ M a = some (.dict k1 t1) ∧ M b = some (.dict k2 t2) ∧ LT k1 F ∧ LT k2 G ∧ (∀ l ∈ ls, l.length ≤ 1000) ∧ U.length ≤ 100000 ∧ (∀ f, frB ls F G f → f ∈ U) ∧
  ∀ p kvs t, M p = none → KT encF kvs (frB ls F G) → Q (.ref p) (mset M p (.dict kvs t))
theorem frames_ok : ∀ ds M Q, sp_frames ds M Q → w_allowed_frames sp_row (ends Q) (startD 7 ds) M := by
  rintro ds M Q ⟨ls, a, b, k1, k2, t1, t2, F, G, U, rfl, ha, hb, lt1, lt2, hlen, hU, hin, q⟩
  unfold w_allowed_frames
  have h5 := sz5
  simp [-Bool.exists_bool]
  intro p ta tb hp
  refine fill_map (M := M) (enc := encF) (U := U) (p := p) (S := fun _ => False) (R := fun ρ => ∃ x y z, ρ = [some (.tup (ls.map encL)), some (.ref a), some (.ref b), some (.ref p), x, y, z]) encL (fun m f => ∃ i, i < m.length ∧ ∃ j, i + 2 ≤ j ∧ j ≤ m.length ∧ f = (m.take i, m.drop j) ∧ rowB F G ((m.take j).drop i)) (fun _ _ => trivial) (.start ⟨_, _, _, rfl⟩ hp) ?_ ?_
  · intro m hm S' ρ M' s N hN
    obtain ⟨x, y, z, rfl⟩ := s.env
    have hml := hlen m hm
    unfold w_allowed_frames_3
    simp [-Bool.exists_bool]
    refine ⟨rg (i := 0) (by omega) (by omega), ?_⟩
    refine fill_range (lo := 0) (n := m.length) (M := M) (enc := encF) (U := U) (p := p) (S := S') (R := fun ρ => ∃ y z, ρ = [some (.tup (ls.map encL)), some (.ref a), some (.ref b), some (.ref p), some (encL m), y, z]) (fun i f => ∃ j, i + 2 ≤ j ∧ j ≤ m.length ∧ f = (m.take i, m.drop j) ∧ rowB F G ((m.take j).drop i)) (fun _ _ => trivial) ⟨⟨_, _, rfl⟩, s.sub, s.tab, s.bnd⟩ ?_ ?_
    · intro i _ hi S2 ρ M' s N2 hN2
      obtain ⟨y, z, rfl⟩ := s.env
      unfold w_allowed_frames_2
      simp [-Bool.exists_bool]
      have e1 : (((m.length : Nat) : Int) + 1 - ((i : Int) + 2)).toNat = m.length - 1 - i := by omega
      refine ⟨by unfold RgOk2; omega, ?_⟩
      rw [e1]
      refine fill_range (lo := i + 2) (n := m.length - 1 - i) (M := M) (enc := encF) (U := U) (p := p) (S := S2) (R := fun ρ => ∃ z, ρ = [some (.tup (ls.map encL)), some (.ref a), some (.ref b), some (.ref p), some (encL m), some (.int (i : Int)), z]) (fun j f => f = (m.take i, m.drop j) ∧ rowB F G ((m.take j).drop i)) (fun _ _ => trivial) ⟨⟨_, rfl⟩, s.sub, s.tab, s.bnd⟩ ?_ ?_
      · intro j h1 h2 S3 ρ M' s N3 hN3
        obtain ⟨z, rfl⟩ := s.env
        unfold w_allowed_frames_1
        simp [-Bool.exists_bool]
        refine ⟨_, a, b, k1, k2, t1, t2, F, G, rfl, s.sub a _ ha, s.sub b _ hb, lt1, lt2, by rw [List.length_drop, List.length_take]; omega, fun v hv => ?_⟩
        simp only [ex_tr]
        cases v with
        | false =>
          rw [if_neg Bool.false_ne_true]
          have hno : ¬ rowB F G ((m.take j).drop i) := fun h => Bool.false_ne_true (hv.mpr h)
          exact hN3 _ _ ⟨⟨_, rfl⟩, s.sub, let ⟨k, t, e, q⟩ := s.tab; ⟨k, t, e, q.congr fun l => by simp [hno]⟩, fun l hl => hl.elim (s.bnd l) fun h => absurd h.2 hno⟩
        | true =>
          rw [if_pos rfl]
          have hyes : rowB F G ((m.take j).drop i) := hv.mp rfl
          refine ⟨by omega, ?_⟩
          exact s.put (l := (m.take i, m.drop j)) (R' := fun ρ => ∃ z, ρ = [some (.tup (ls.map encL)), some (.ref a), some (.ref b), some (.ref p), some (encL m), some (.int (i : Int)), z]) encF_ok hU hp (hin _ ⟨m, hm, i, by omega, j, h1, by omega, rfl, hyes⟩) ⟨_, rfl⟩ fun M'' s => hN3 _ _ (s.congr fun l => by simp [hyes])
      · intro ρ M' s
        exact hN2 _ _ ((s.env' fun ρ ⟨z, h⟩ => ⟨_, z, h⟩).congr fun l => or_congr Iff.rfl ⟨fun ⟨j, h1, h2, h3⟩ => ⟨j, h1, by omega, h3⟩, fun ⟨j, h1, h2, h3⟩ => ⟨j, h1, by omega, h3⟩⟩)
    · intro ρ M' s
      exact hN _ _ ((s.env' fun ρ ⟨y, z, h⟩ => ⟨_, y, z, h⟩).congr fun l => or_congr Iff.rfl ⟨fun ⟨i, h1, h2, h3⟩ => ⟨i, by omega, h3⟩, fun ⟨i, h2, h3⟩ => ⟨i, by omega, by omega, h3⟩⟩)
  · intro ρ M' s
    obtain ⟨x, y, z, rfl⟩ := s.env
    obtain ⟨kvs, t, hm, kt⟩ := s.tab
    simp
    exact drops_to (s.sub.to hm) (q p kvs t hp (kt.congr fun l => by unfold frB; simp))
end F83

set_option Elab.async false
set_option linter.all false
set_option maxRecDepth 100000
set_option maxHeartbeats 4000000
namespace F83
open PySem PySem.Spec PyProof.Rows L2 Fw
/-! pair_banned -/
def pairB (bs : Bans) (F G : Line → Prop) : Line → Prop := fun l => ∃ q ∈ bs, ∃ m ∈ q.2, ∃ i, i < m.length ∧ ∃ j, i + 1 ≤ j ∧ j ≤ m.length ∧ l = (m.take j).drop i ∧ ¬ frB q.2 F G (m.take i, m.drop j)
def sp_pair : DSp := fun ds M Q => ∃ (bs : Bans) (a b : Addr) (k1 k2 : List (D × D)) (t1 t2 : Tk) (F G : Line → Prop) (U : List Line) (V : List Fr), ds = [encB bs, .ref a, .ref b] ∧ M a = some (.dict k1 t1) ∧ M b = some (.dict k2 t2) ∧ LT k1 F ∧ LT k2 G ∧ (∀ q ∈ bs, ∀ l ∈ q.2, l.length ≤ 1000) ∧ U.length ≤ 100000 ∧ (∀ l, pairB bs F G l → l ∈ U) ∧ V.length ≤ 100000 ∧ (∀ q ∈ bs, ∀ f, frB q.2 F G f → f ∈ V) ∧
  ∀ p kvs t, M p = none → LT kvs (pairB bs F G) → Q (.ref p) (mset M p (.dict kvs t))
theorem pair_ok : ∀ ds M Q, sp_pair ds M Q → w_pair_banned sp_frames (ends Q) (startD 10 ds) M := by
  rintro ds M Q ⟨bs, a, b, k1, k2, t1, t2, F, G, U, V, rfl, ha, hb, lt1, lt2, hlen, hU, hin, hV, hinV, q⟩
  unfold w_pair_banned
  have h5 := sz5
  simp [-Bool.exists_bool]
  intro p ta tb hp
  refine fill_map (xs := bs) (M := M) (enc := encL) (U := U) (p := p) (S := fun _ => False) (R := fun ρ => ∃ x4 x5 x6 x7 x8 x9, ρ = [some (encB bs), some (.ref a), some (.ref b), some (.ref p), x4, x5, x6, x7, x8, x9]) encP (fun q l => ∃ m ∈ q.2, ∃ i, i < m.length ∧ ∃ j, i + 1 ≤ j ∧ j ≤ m.length ∧ l = (m.take j).drop i ∧ ¬ frB q.2 F G (m.take i, m.drop j)) (fun _ _ => trivial) (.start ⟨_, _, _, _, _, _, rfl⟩ hp) ?_ ?_
  · rintro ⟨nm, ls⟩ hq S' ρ M' s N hN
    obtain ⟨x4, x5, x6, x7, x8, x9, rfl⟩ := s.env
    unfold w_pair_banned_4
    simp [-Bool.exists_bool, encP]
    refine ⟨ls, a, b, k1, k2, t1, t2, F, G, V, rfl, s.sub a _ ha, s.sub b _ hb, lt1, lt2, hlen _ hq, hV, hinV _ hq, fun p6 kf tf hp6 ktf => ?_⟩
    have n6 : M p6 = none := s.sub.none hp6
    have hne : p ≠ p6 := by
      rintro rfl
      obtain ⟨k, t, e, _⟩ := s.tab
      rw [hp6] at e; cases e
    have hpM : mset M p6 (.dict kf tf) p = none := by rw [mset_ne hne]; exact hp
    have s0 : St (fun ρ => ∃ x7 x8 x9, ρ = [some (encB bs), some (.ref a), some (.ref b), some (.ref p), some (.str nm), some (.tup (ls.map encL)), some (.ref p6), x7, x8, x9]) p (mset M p6 (.dict kf tf)) encL U S' [some (encB bs), some (.ref a), some (.ref b), some (.ref p), some (.str nm), some (.tup (ls.map encL)), some (.ref p6), x7, x8, x9] (mset M' p6 (.dict kf tf)) :=
      ⟨⟨_, _, _, rfl⟩, (s.sub.set n6).to mset_same, let ⟨k, t, e, q⟩ := s.tab; ⟨k, t, by rw [mset_ne hne]; exact e, q⟩, s.bnd⟩
    refine fill_map (xs := ls) encL (fun m l => ∃ i, i < m.length ∧ ∃ j, i + 1 ≤ j ∧ j ≤ m.length ∧ l = (m.take j).drop i ∧ ¬ frB ls F G (m.take i, m.drop j)) (fun _ _ => trivial) s0 ?_ ?_
    · intro m hm S1 ρ M1 s N1 hN1
      obtain ⟨x7, x8, x9, rfl⟩ := s.env
      have hml := hlen _ hq m hm
      unfold w_pair_banned_3
      simp [-Bool.exists_bool]
      refine ⟨rg (i := 0) (by omega) (by omega), ?_⟩
      refine fill_range (lo := 0) (n := m.length) (p := p) (M := mset M p6 (.dict kf tf)) (enc := encL) (U := U) (S := S1) (R := fun ρ => ∃ x8 x9, ρ = [some (encB bs), some (.ref a), some (.ref b), some (.ref p), some (.str nm), some (.tup (ls.map encL)), some (.ref p6), some (encL m), x8, x9]) (fun i l => ∃ j, i + 1 ≤ j ∧ j ≤ m.length ∧ l = (m.take j).drop i ∧ ¬ frB ls F G (m.take i, m.drop j)) (fun _ _ => trivial) ⟨⟨_, _, rfl⟩, s.sub, s.tab, s.bnd⟩ ?_ ?_
      · intro i _ hi S2 ρ M2 s N2 hN2
        obtain ⟨x8, x9, rfl⟩ := s.env
        unfold w_pair_banned_2
        simp [-Bool.exists_bool]
        have e1 : (((m.length : Nat) : Int) + 1 - ((i : Int) + 1)).toNat = m.length - i := by omega
        refine ⟨by unfold RgOk2; omega, ?_⟩
        try rw [e1]
        refine fill_range (lo := i + 1) (n := m.length - i) (p := p) (M := mset M p6 (.dict kf tf)) (enc := encL) (U := U) (S := S2) (R := fun ρ => ∃ x9, ρ = [some (encB bs), some (.ref a), some (.ref b), some (.ref p), some (.str nm), some (.tup (ls.map encL)), some (.ref p6), some (encL m), some (.int (i : Int)), x9]) (fun j l => l = (m.take j).drop i ∧ ¬ frB ls F G (m.take i, m.drop j)) (fun _ _ => trivial) ⟨⟨_, rfl⟩, s.sub, s.tab, s.bnd⟩ ?_ ?_
        · intro j h1 h2 S3 ρ M3 s N3 hN3
          obtain ⟨x9, rfl⟩ := s.env
          unfold w_pair_banned_1
          simp [-Bool.exists_bool]
          refine ⟨by omega, ?_⟩
          rw [y_inD (s.sub p6 _ mset_same)]
          show keyOk kf (encF (m.take i, m.drop j)) ∧ _
          refine ⟨ktf.ok encF_ok _, ?_⟩
          simp only [ex_bl]
          show if (!(valD kf (encF (m.take i, m.drop j))).isSome) = true then _ else _
          by_cases hT : frB ls F G (m.take i, m.drop j)
          · rw [(ktf.has encF_ok _).mpr hT, Bool.not_true, if_neg Bool.false_ne_true]
            exact hN3 _ _ ⟨⟨_, rfl⟩, s.sub, let ⟨k, t, e, q⟩ := s.tab; ⟨k, t, e, q.congr fun l => by simp [hT]⟩, fun l hl => hl.elim (s.bnd l) fun h => absurd hT h.2⟩
          · rw [show (valD kf (encF (m.take i, m.drop j))).isSome = false from by rw [Bool.eq_false_iff]; exact fun e => hT ((ktf.has encF_ok _).mp e)]
            rw [Bool.not_false, if_pos rfl]
            exact s.put (R' := fun ρ => ∃ x9, ρ = [some (encB bs), some (.ref a), some (.ref b), some (.ref p), some (.str nm), some (.tup (ls.map encL)), some (.ref p6), some (encL m), some (.int (i : Int)), x9]) encL_ok hU hpM (hin _ ⟨_, hq, m, hm, i, by omega, j, h1, by omega, rfl, hT⟩) ⟨_, rfl⟩ fun M'' s => hN3 _ _ (s.congr fun l => by simp [hT])
        · intro ρ M3 s
          exact hN2 _ _ ((s.env' fun ρ ⟨z, h⟩ => ⟨_, z, h⟩).congr fun l => or_congr Iff.rfl ⟨fun ⟨j, h1, h2, h3⟩ => ⟨j, h1, by omega, h3⟩, fun ⟨j, h1, h2, h3⟩ => ⟨j, h1, by omega, h3⟩⟩)
      · intro ρ M2 s
        exact hN1 _ _ ((s.env' fun ρ ⟨y, z, h⟩ => ⟨_, y, z, h⟩).congr fun l => or_congr Iff.rfl ⟨fun ⟨i, h1, h2, h3⟩ => ⟨i, by omega, h3⟩, fun ⟨i, h2, h3⟩ => ⟨i, by omega, by omega, h3⟩⟩)
    · intro ρ M1 s
      refine hN _ _ ⟨?_, (SubM.new n6).trans s.sub, s.tab, s.bnd⟩
      obtain ⟨x7, x8, x9, rfl⟩ := s.env
      exact ⟨_, _, _, _, _, _, rfl⟩
  · intro ρ M' s
    obtain ⟨x4, x5, x6, x7, x8, x9, rfl⟩ := s.env
    obtain ⟨kvs, t, hm, kt⟩ := s.tab
    simp
    exact drops_to (s.sub.to hm) (q p kvs t hp ((KTlt kt).congr fun l => by unfold pairB; simp))
end F83

set_option Elab.async false
set_option linter.all false
set_option maxRecDepth 100000
set_option maxHeartbeats 4000000
namespace F83
open PySem PySem.Spec PyProof.Rows L2 Fw
/-! kinds -/
inductive Kd where
  | at (a : PySem.Str)
  | op (s : PySem.Str) (l r : Kd)
def encK : Kd → D
  | .at a => .str a
  | .op s l r => .tup [.str s, encK l, encK r]
def Kd.dep : Kd → Nat
  | .at _ => 0
  | .op _ l r => max l.dep r.dep + 1
def over : PySem.Str := "/"
def under : PySem.Str := ">"
def star : PySem.Str := "*"
def kindB (bs : Bans) : Kd → Line → Prop
  | .at a => atomB bs a
  | .op s l r => if s = over then overB (kindB bs l) (kindB bs r) else if s = under then underB (kindB bs l) (kindB bs r) else pairB bs (kindB bs l) (kindB bs r)
/-- the stretches of the lines -/
def strB (bs : Bans) (l : Line) : Prop := ∃ q ∈ bs, ∃ m ∈ q.2, ∃ i j, i < j ∧ j ≤ m.length ∧ l = (m.take j).drop i
structure BsOk (bs : Bans) : Prop where
  len : ∀ q ∈ bs, ∀ m ∈ q.2, 1 ≤ m.length ∧ m.length ≤ 1000
  few : ∀ q ∈ bs, q.2.length ≤ 1000
  uni : ∃ U : List Line, U.length ≤ 100000 ∧ ∀ l, strB bs l → l ∈ U
  fra : ∃ V : List Fr, V.length ≤ 100000 ∧ ∀ q ∈ bs, ∀ m ∈ q.2, ∀ i j, i ≤ m.length → j ≤ m.length → (m.take i, m.drop j) ∈ V
theorem str_len {bs : Bans} (h : BsOk bs) {l : Line} (s : strB bs l) : 1 ≤ l.length ∧ l.length ≤ 1000 := by
  obtain ⟨q, hq, m, hm, i, j, h1, h2, rfl⟩ := s
  have := (h.len q hq m hm).2
  rw [List.length_drop, List.length_take]
  omega
theorem sub_take {bs : Bans} {l : Line} (s : strB bs l) {c : Nat} (h1 : 1 ≤ c) (h2 : c ≤ l.length) : strB bs (l.take c) := by
  obtain ⟨q, hq, m, hm, i, j, h3, h4, rfl⟩ := s
  rw [List.length_drop, List.length_take] at h2
  refine ⟨q, hq, m, hm, i, i + c, by omega, by omega, ?_⟩
  rw [List.drop_take, List.drop_take, List.take_take, Nat.add_sub_cancel_left, Nat.min_eq_left (by omega)]
theorem sub_drop {bs : Bans} {l : Line} (s : strB bs l) {c : Nat} (h2 : c < l.length) : strB bs (l.drop c) := by
  obtain ⟨q, hq, m, hm, i, j, h3, h4, rfl⟩ := s
  rw [List.length_drop, List.length_take] at h2
  refine ⟨q, hq, m, hm, i + c, j, by omega, by omega, ?_⟩
  rw [List.drop_drop]
theorem kind_str {bs : Bans} (h : BsOk bs) : ∀ (k : Kd) (l : Line), kindB bs k l → strB bs l
  | .at a, l, ⟨q, hq, _, hl⟩ => ⟨q, hq, l, hl, 0, l.length, by have := (h.len q hq l hl).1; omega, Nat.le_refl _, by simp⟩
  | .op s a b, l, hl => by
    unfold kindB at hl
    split at hl
    · obtain ⟨m, hm, c, h1, h2, rfl, _⟩ := hl
      exact sub_take (kind_str h a m hm) h1 (by omega)
    · split at hl
      · obtain ⟨m, hm, c, h1, h2, rfl, _⟩ := hl
        exact sub_drop (kind_str h b m hm) h2
      · obtain ⟨q, hq, m, hm, i, hi, j, h1, h2, rfl, _⟩ := hl
        exact ⟨q, hq, m, hm, i, j, by omega, h2, rfl⟩
def sp_kind (n : Nat) : DSp := fun ds M Q => ∃ (bs : Bans) (k : Kd), ds = [encB bs, encK k] ∧ k.dep < n ∧ BsOk bs ∧ ∀ p kvs t, M p = none → LT kvs (kindB bs k) → Q (.ref p) (mset M p (.dict kvs t))
theorem sub_two {M : Mem} {p q : Addr} {a b : MO} (h : M p = none) (h2 : mset M p a q = none) : SubM M (mset (mset M p a) q b) := (SubM.new h).trans (SubM.new h2)
theorem kind_ok (n : Nat) : ∀ ds M Q, sp_kind (n + 1) ds M Q → w_kind_banned sp_atomB (sp_kind n) sp_over sp_under sp_pair (ends Q) (startD 7 ds) M := by
  rintro ds M Q ⟨bs, k, rfl, hn, ok, q⟩
  obtain ⟨U, hU, hin⟩ := ok.uni
  obtain ⟨V, hV, hinV⟩ := ok.fra
  unfold w_kind_banned
  cases k with
  | «at» a =>
    simp [-Bool.exists_bool, encK]
    exact ⟨bs, a, U, rfl, hU, fun l hl => hin l (kind_str ok (.at a) l hl), fun p kvs t hp lt => drops_of (q p kvs t hp lt)⟩
  | op s x y =>
    have hx : x.dep < n := by have : max x.dep y.dep + 1 < n + 1 := hn; omega
    have hy : y.dep < n := by have : max x.dep y.dep + 1 < n + 1 := hn; omega
    simp [-Bool.exists_bool, encK]
    refine ⟨bs, x, rfl, hx, ok, fun p1 k1 t1 hp1 lt1 => ?_⟩
    refine ⟨bs, y, rfl, hy, ok, fun p2 k2 t2 hp2 lt2 => ?_⟩
    have n2 : M p2 = none := (SubM.new hp1).none hp2
    have hne : p1 ≠ p2 := fun e => by subst e; rw [mset_same] at hp2; cases hp2
    have m1 : mset (mset M p1 (.dict k1 t1)) p2 (.dict k2 t2) p1 = some (.dict k1 t1) := by rw [mset_ne hne, mset_same]
    have fin : ∀ (S : Line → Prop), (∀ l, S l ↔ kindB bs (.op s x y) l) → ∀ p kvs t, mset (mset M p1 (.dict k1 t1)) p2 (.dict k2 t2) p = none → LT kvs S → drops Q (.ref p) (mset (mset (mset M p1 (.dict k1 t1)) p2 (.dict k2 t2)) p (.dict kvs t)) := fun S hS p kvs t hp lt => by
      have s := sub_two (b := MO.dict k2 t2) hp1 hp2
      exact drops_to ((s.set (s.none hp)).to mset_same) (q p kvs t (s.none hp) (lt.congr hS))
    have str : ∀ l, kindB bs (.op s x y) l → l ∈ U := fun l hl => hin l (kind_str ok _ l hl)
    show if s = over then _ else _
    by_cases h1 : s = over
    · rw [if_pos h1]
      have e : ∀ l, overB (kindB bs x) (kindB bs y) l ↔ kindB bs (.op s x y) l := fun l => by rw [kindB, if_pos h1]
      exact ⟨p1, p2, k1, k2, t1, t2, _, _, U, rfl, m1, mset_same, lt1, lt2, hU, fun l hl => (str_len ok (kind_str ok x l hl)).2, fun l hl => str l ((e l).mp hl), fin _ e⟩
    · rw [if_neg h1]
      show if s = under then _ else _
      by_cases h2 : s = under
      · rw [if_pos h2]
        have e : ∀ l, underB (kindB bs x) (kindB bs y) l ↔ kindB bs (.op s x y) l := fun l => by rw [kindB, if_neg h1, if_pos h2]
        exact ⟨p1, p2, k1, k2, t1, t2, _, _, U, rfl, m1, mset_same, lt1, lt2, hU, fun l hl => (str_len ok (kind_str ok y l hl)).2, fun l hl => str l ((e l).mp hl), fin _ e⟩
      · rw [if_neg h2]
        have e : ∀ l, pairB bs (kindB bs x) (kindB bs y) l ↔ kindB bs (.op s x y) l := fun l => by rw [kindB, if_neg h1, if_neg h2]
        exact ⟨bs, p1, p2, k1, k2, t1, t2, _, _, U, V, rfl, m1, mset_same, lt1, lt2, fun q hq l hl => (ok.len q hq l hl).2, hU, fun l hl => str l ((e l).mp hl), hV, fun q hq f ⟨m, hm, i, hi, j, h1, h2, e, _⟩ => by rw [e]; exact hinV q hq m hm i j (by omega) h2, fin _ e⟩
end F83

set_option Elab.async false
set_option linter.all false
set_option maxRecDepth 100000
set_option maxHeartbeats 4000000
namespace F83
open PySem PySem.Spec PyProof.Rows L2 Fw
theorem len_app (a b : PySem.Str) : (a ++ b).length = a.length + b.length := by
  rw [← len_cps, ← len_cps a, ← len_cps b]
  show (TL.tl (a ++ b)).length = _
  rw [TL.tl_append, List.length_append]
/-! the kind's text -/
def par : Kd → PySem.Str → PySem.Str
  | .at _, z => z
  | .op _ _ _, z => Str.ofString "(" ++ z ++ Str.ofString ")"
def fmtK : Kd → PySem.Str
  | .at a => a
  | .op s l r => par l (fmtK l) ++ Str.ofString " " ++ s ++ Str.ofString " " ++ par r (fmtK r)
def fmtP (k : Kd) : PySem.Str := par k (fmtK k)
def sp_fk (n : Nat) : DSp := fun ds M Q => ∃ k : Kd, ds = [encK k] ∧ k.dep < n ∧ (fmtK k).length ≤ 100000 ∧ Q (.str (fmtK k)) M
def sp_fp (n : Nat) : DSp := fun ds M Q => ∃ k : Kd, ds = [encK k] ∧ k.dep < n ∧ (fmtP k).length ≤ 100000 ∧ Q (.str (fmtP k)) M
theorem fp_ok (n : Nat) : ∀ ds M Q, sp_fp n ds M Q → w_format_part (sp_fk n) (ends Q) (startD 1 ds) M := by
  rintro ds M Q ⟨k, rfl, hn, hl, q⟩
  have h5 := sz5
  unfold w_format_part
  have o1 : (Str.ofString "(").length = 1 := by decide
  have o2 : (Str.ofString ")").length = 1 := by decide
  cases k with
  | «at» a =>
    simp [-Bool.exists_bool, encK]
    exact drops_of q
  | op s x y =>
    have e : fmtP (.op s x y) = Str.ofString "(" ++ fmtK (.op s x y) ++ Str.ofString ")" := rfl
    rw [e] at q hl
    rw [len_app, len_app, o1, o2] at hl
    simp [-Bool.exists_bool, encK]
    refine ⟨.op s x y, rfl, hn, by omega, ?_⟩
    simp [len_app, o1, o2]
    exact ⟨by omega, by omega, drops_of q⟩
theorem fk_ok (n : Nat) : ∀ ds M Q, sp_fk (n + 1) ds M Q → w_format_kind (sp_fp n) (ends Q) (startD 4 ds) M := by
  rintro ds M Q ⟨k, rfl, hn, hl, q⟩
  have h5 := sz5
  unfold w_format_kind
  have o1 : (Str.ofString " ").length = 1 := by decide
  cases k with
  | «at» a =>
    simp [-Bool.exists_bool, encK]
    exact drops_of q
  | op s x y =>
    have hx : x.dep < n := by have : max x.dep y.dep + 1 < n + 1 := hn; omega
    have hy : y.dep < n := by have : max x.dep y.dep + 1 < n + 1 := hn; omega
    have e : fmtK (.op s x y) = fmtP x ++ Str.ofString " " ++ s ++ Str.ofString " " ++ fmtP y := rfl
    rw [e] at q hl
    simp only [len_app, o1] at hl
    simp [-Bool.exists_bool, encK]
    refine ⟨x, rfl, hx, by omega, ?_⟩
    simp [len_app, o1]
    refine ⟨by omega, by omega, by omega, y, rfl, hy, by omega, ?_⟩
    simp [len_app, o1]
    exact ⟨by omega, drops_of q⟩
/-! the text tells the kind -/
/-- a text of an atom -/
def AtOk (a : PySem.Str) : Prop := ∀ c ∈ a.cps.toList, c ≠ 32 ∧ c ≠ 40 ∧ c ≠ 41
def KdOk : Kd → Prop
  | .at a => AtOk a ∧ a.cps.toList ≠ []
  | .op s l r => (s = over ∨ s = under ∨ s = star) ∧ KdOk l ∧ KdOk r
abbrev tl (z : PySem.Str) : List Nat := z.cps.toList
theorem tl_fmt {s : PySem.Str} {l r : Kd} : tl (fmtK (.op s l r)) = tl (fmtP l) ++ 32 :: (tl s ++ 32 :: tl (fmtP r)) := by
  show TL.tl (fmtP l ++ Str.ofString " " ++ s ++ Str.ofString " " ++ fmtP r) = _
  have e : TL.tl (Str.ofString " ") = [32] := by decide
  rw [TL.tl_append, TL.tl_append, TL.tl_append, TL.tl_append, e]
  simp
theorem tl_par {s : PySem.Str} {l r : Kd} : tl (fmtP (.op s l r)) = 40 :: (tl (fmtK (.op s l r)) ++ [41]) := by
  show TL.tl (Str.ofString "(" ++ fmtK (.op s l r) ++ Str.ofString ")") = _
  have e : TL.tl (Str.ofString "(") = [40] := by decide
  have e2 : TL.tl (Str.ofString ")") = [41] := by decide
  rw [TL.tl_append, TL.tl_append, e, e2]
  rfl
/-- a rest that ends an atom -/
def Stop (r : List Nat) : Prop := r = [] ∨ ∃ c r', r = c :: r' ∧ (c = 32 ∨ c = 41)
theorem at_split : ∀ {a b r r' : List Nat}, (∀ c ∈ a, c ≠ 32 ∧ c ≠ 41) → (∀ c ∈ b, c ≠ 32 ∧ c ≠ 41) → Stop r → Stop r' → a ++ r = b ++ r' → a = b ∧ r = r'
  | [], [], _, _, _, _, _, _, h => ⟨rfl, h⟩
  | [], c :: b, r, r', _, hb, hr, _, h => by
    have hc := hb c List.mem_cons_self
    rcases hr with rfl | ⟨d, r2, rfl, hd⟩
    · simp at h
    · simp at h
      obtain ⟨rfl, _⟩ := h
      rcases hd with hd | hd
      · exact absurd hd hc.1
      · exact absurd hd hc.2
  | c :: a, [], r, r', ha, _, _, hr, h => by
    have hc := ha c List.mem_cons_self
    rcases hr with rfl | ⟨d, r2, rfl, hd⟩
    · simp at h
    · simp at h
      obtain ⟨rfl, _⟩ := h
      rcases hd with hd | hd
      · exact absurd hd hc.1
      · exact absurd hd hc.2
  | c :: a, d :: b, r, r', ha, hb, hr, hr', h => by
    simp at h
    obtain ⟨rfl, h⟩ := h
    obtain ⟨e1, e2⟩ := at_split (fun x hx => ha x (List.mem_cons_of_mem _ hx)) (fun x hx => hb x (List.mem_cons_of_mem _ hx)) hr hr' h
    exact ⟨by rw [e1], e2⟩
theorem sign_tl {s : PySem.Str} (h : s = over ∨ s = under ∨ s = star) : ∃ c, tl s = [c] := by
  rcases h with rfl | rfl | rfl
  · exact ⟨47, by decide⟩
  · exact ⟨62, by decide⟩
  · exact ⟨42, by decide⟩
theorem str_ext {x y : PySem.Str} (h : tl x = tl y) : x = y := TL.ext_tl h
mutual
theorem fmtP_inj : ∀ {k k' : Kd} {r r' : List Nat}, KdOk k → KdOk k' → Stop r → Stop r' → tl (fmtP k) ++ r = tl (fmtP k') ++ r' → k = k' ∧ r = r'
  | .at a, .at b, r, r', ha, hb, hr, hr', h => by
    obtain ⟨e1, e2⟩ := at_split (fun c hc => ⟨(ha.1 c hc).1, (ha.1 c hc).2.2⟩) (fun c hc => ⟨(hb.1 c hc).1, (hb.1 c hc).2.2⟩) hr hr' h
    exact ⟨by rw [str_ext e1], e2⟩
  | .at a, .op s x y, r, r', ha, hb, hr, hr', h => by
    rw [tl_par] at h
    obtain ⟨h1, h2⟩ := ha
    cases c : a.cps.toList with
    | nil => exact absurd c h2
    | cons d q =>
      have e : tl (fmtP (.at a)) = d :: q := c
      rw [e] at h
      simp at h
      exact absurd h.1 (h1 d (by rw [c]; exact List.mem_cons_self)).2.1
  | .op s x y, .at a, r, r', ha, hb, hr, hr', h => by
    rw [tl_par] at h
    obtain ⟨h1, h2⟩ := hb
    cases c : a.cps.toList with
    | nil => exact absurd c h2
    | cons d q =>
      have e : tl (fmtP (.at a)) = d :: q := c
      rw [e] at h
      simp at h
      exact absurd h.1.symm (h1 d (by rw [c]; exact List.mem_cons_self)).2.1
  | .op s x y, .op s' x' y', r, r', ha, hb, hr, hr', h => by
    rw [tl_par, tl_par, tl_fmt, tl_fmt] at h
    simp only [List.cons_append, List.append_assoc, List.cons.injEq, true_and] at h
    obtain ⟨hs, hx, hy⟩ := ha
    obtain ⟨hs', hx', hy'⟩ := hb
    obtain ⟨ex, g⟩ := fmtP_inj hx hx' (.inr ⟨32, _, rfl, .inl rfl⟩) (.inr ⟨32, _, rfl, .inl rfl⟩) h
    obtain ⟨c, e⟩ := sign_tl hs
    obtain ⟨c', e'⟩ := sign_tl hs'
    rw [e, e'] at g
    simp only [List.cons_append, List.nil_append, List.cons.injEq, true_and] at g
    obtain ⟨ec, g⟩ := g
    have es : s = s' := str_ext (e.trans (by rw [ec]; exact e'.symm))
    obtain ⟨ey, g⟩ := fmtP_inj hy hy' (.inr ⟨41, _, rfl, .inr rfl⟩) (.inr ⟨41, _, rfl, .inr rfl⟩) g
    simp only [List.cons.injEq, true_and] at g
    exact ⟨by rw [ex, es, ey], g⟩
end
theorem fmtK_inj {k k' : Kd} (h : KdOk k) (h' : KdOk k') (e : fmtK k = fmtK k') : k = k' := by
  have e2 : tl (fmtK k) = tl (fmtK k') := by rw [e]
  cases k with
  | «at» a =>
    cases k' with
    | «at» b => exact congrArg Kd.at e
    | op s x y =>
      have : (32 : Nat) ∈ tl (fmtK (.op s x y)) := by rw [tl_fmt]; simp
      rw [← e2] at this
      exact absurd rfl (h.1 32 this).1
  | op s x y =>
    cases k' with
    | «at» b =>
      have : (32 : Nat) ∈ tl (fmtK (.op s x y)) := by rw [tl_fmt]; simp
      rw [e2] at this
      exact absurd rfl (h'.1 32 this).1
    | op s' x' y' =>
      have := fmtP_inj (r := []) (r' := []) h h' (.inl rfl) (.inl rfl) (by rw [tl_par, tl_par, e])
      exact this.1
end F83

set_option Elab.async false
set_option linter.all false
set_option maxRecDepth 100000
set_option maxHeartbeats 4000000
namespace F83
open PySem PySem.Spec PyProof.Rows L2 Fw
/-! pieces_of -/
abbrev LP := Line → Prop
def Cut : List LP → List Line → Prop
  | [], [] => True
  | F :: Fs, p :: ps => p ≠ [] ∧ ¬ F p ∧ Cut Fs ps
  | _, _ => False
theorem Cut.snoc : ∀ {Fs : List LP} {ps : List Line} {F : LP} {p : Line}, Cut Fs ps → p ≠ [] → ¬ F p → Cut (Fs ++ [F]) (ps ++ [p])
  | [], [], F, p, _, h1, h2 => ⟨h1, h2, trivial⟩
  | F :: Fs, p :: ps, _, _, h, h1, h2 => ⟨h.1, h.2.1, Cut.snoc h.2.2 h1 h2⟩
theorem Cut.back : ∀ {Fs : List LP} {qs : List Line} {F : LP}, Cut (Fs ++ [F]) qs → ∃ ps p, qs = ps ++ [p] ∧ Cut Fs ps ∧ p ≠ [] ∧ ¬ F p
  | [], [], _, h => h.elim
  | [], [p], F, h => ⟨[], p, rfl, trivial, h.1, h.2.1⟩
  | [], p :: q :: ps, F, h => h.2.2.elim
  | G :: Fs, [], _, h => h.elim
  | G :: Fs, p :: qs, F, h => by
    obtain ⟨ps, p', rfl, h1, h2, h3⟩ := Cut.back h.2.2
    exact ⟨p :: ps, p', rfl, ⟨h.1, h.2.1, h1⟩, h2, h3⟩
def Way (Fs : List LP) (l : Line) (n : Nat) (ps : List Line) : Prop := n ≤ l.length ∧ Cut Fs ps ∧ ps.flatten = l.take n
def Reach (Fs : List LP) (l : Line) (n : Nat) : Prop := ∃ ps, Way Fs l n ps
theorem way_snoc {Fs : List LP} {l : Line} {n m : Nat} {ps : List Line} {F : LP} (w : Way Fs l n ps) (h1 : n + 1 ≤ m) (h2 : m ≤ l.length) (h3 : ¬ F ((l.take m).drop n)) : Way (Fs ++ [F]) l m (ps ++ [(l.take m).drop n]) := by
  refine ⟨h2, w.2.1.snoc (fun e => ?_) h3, ?_⟩
  · have := congrArg List.length e
    rw [List.length_drop, List.length_take, List.length_nil] at this
    omega
  · rw [List.flatten_append, w.2.2]
    simp
    have e : l.take n = (l.take m).take n := by rw [List.take_take, Nat.min_eq_left (by omega)]
    rw [e, List.take_append_drop]
theorem reach_step {Fs : List LP} {l : Line} {m : Nat} {F : LP} : Reach (Fs ++ [F]) l m ↔ ∃ n, Reach Fs l n ∧ n + 1 ≤ m ∧ m ≤ l.length ∧ ¬ F ((l.take m).drop n) := by
  constructor
  · rintro ⟨qs, h1, h2, h3⟩
    obtain ⟨ps, p, rfl, c, hp, hF⟩ := h2.back
    rw [List.flatten_append] at h3
    simp at h3
    have hl : ps.flatten.length + p.length = m := by
      have := congrArg List.length h3
      rw [List.length_append, List.length_take] at this
      omega
    have hpp : 0 < p.length := List.length_pos_iff.mpr hp
    have e1 : ps.flatten = l.take ps.flatten.length := by
      have := congrArg (List.take ps.flatten.length) h3
      rw [List.take_left, List.take_take, Nat.min_eq_left (by omega)] at this
      exact this
    have e2 : p = (l.take m).drop ps.flatten.length := by rw [← h3, List.drop_left]
    exact ⟨ps.flatten.length, ⟨ps, by omega, c, e1⟩, by omega, h1, by rw [← e2]; exact hF⟩
  · rintro ⟨n, ⟨ps, w⟩, h1, h2, h3⟩
    exact ⟨_, way_snoc w h1 h2 h3⟩
/-- a table from whole numbers -/
structure IT (kvs : List (D × D)) (P : Nat → Prop) (V : Nat → D → Prop) : Prop where
  nd : (kys kvs).Nodup
  all : ∀ q ∈ kvs, ∃ m : Nat, q.1 = .int (m : Int) ∧ V m q.2
  mem : ∀ m : Nat, D.int (m : Int) ∈ kys kvs ↔ P m
theorem IT.ok {kvs : List (D × D)} {P : Nat → Prop} {V : Nat → D → Prop} (t : IT kvs P V) (i : Int) : keyOk kvs (.int i) := keyOk_f rfl fun d hd => by
  unfold kys at hd
  rw [List.mem_map] at hd
  obtain ⟨q, hq, rfl⟩ := hd
  obtain ⟨m, e, _⟩ := t.all q hq
  rw [e]; rfl
theorem IT.len {kvs : List (D × D)} {P : Nat → Prop} {V : Nat → D → Prop} {L : Nat} (t : IT kvs P V) (h : ∀ m, P m → m ≤ L) : kvs.length ≤ L + 1 := by
  rw [← kys_len, ← List.length_range (n := L + 1), ← List.length_map (f := fun m : Nat => D.int (m : Int)) (as := List.range (L + 1))]
  refine nodup_le t.nd fun d hd => ?_
  have hd2 := hd
  unfold kys at hd
  rw [List.mem_map] at hd
  obtain ⟨q, hq, rfl⟩ := hd
  obtain ⟨m, e, _⟩ := t.all q hq
  rw [e] at hd2 ⊢
  exact List.mem_map.mpr ⟨m, List.mem_range.mpr (by have := h m ((t.mem m).mp hd2); omega), rfl⟩
theorem IT.new {kvs : List (D × D)} {P : Nat → Prop} {V : Nat → D → Prop} {m : Nat} {v : D} (t : IT kvs P V) (h : ¬ P m) (hv : V m v) : IT (putD kvs (.int (m : Int)) v) (fun j => P j ∨ j = m) V := by
  have hn : D.int (m : Int) ∉ kys kvs := fun z => h ((t.mem m).mp z)
  refine ⟨kys_nodup t.nd, fun q hq => ?_, fun j => ?_⟩
  · unfold putD at hq
    rw [if_neg (by
      intro z
      rw [List.any_eq_true] at z
      obtain ⟨q, hq, e⟩ := z
      exact hn (by rw [← of_decide_eq_true e]; exact List.mem_map_of_mem hq))] at hq
    rw [List.mem_append, List.mem_singleton] at hq
    rcases hq with hq | rfl
    · exact t.all q hq
    · exact ⟨m, rfl, hv⟩
  · rw [kys_put, t.mem]
    refine or_congr Iff.rfl ⟨fun e => ?_, fun e => by rw [e]⟩
    injection e with e
    omega
theorem IT.val {kvs : List (D × D)} {P : Nat → Prop} {V : Nat → D → Prop} {m : Nat} (t : IT kvs P V) : (∃ v, valD kvs (.int (m : Int)) = some v ∧ V m v ∧ P m) ∨ (valD kvs (.int (m : Int)) = none ∧ ¬ P m) := by
  have hs := valD_some (kvs := kvs) (k := .int (m : Int))
  cases h : valD kvs (.int (m : Int)) with
  | none =>
    rw [h] at hs
    exact .inr ⟨rfl, fun z => by have := (t.mem m).mpr z; unfold kys at this; simp [this] at hs⟩
  | some v =>
    rw [h] at hs
    have hp : P m := (t.mem m).mp (of_decide_eq_true (show decide (D.int (m : Int) ∈ kvs.map (·.1)) = true from hs.symm))
    unfold valD at h
    rw [Option.map_eq_some_iff] at h
    obtain ⟨q, hq, rfl⟩ := h
    have h1 := List.find?_some hq
    obtain ⟨j, e, hv⟩ := t.all q (List.mem_of_find?_eq_some hq)
    have : q.1 = .int (m : Int) := of_decide_eq_true h1
    rw [this] at e
    injection e with e
    have : j = m := by omega
    subst this
    exact .inl ⟨_, rfl, hv, hp⟩
def encLs (ps : List Line) : D := .tup (ps.map encL)
theorem way_pieces {Fs : List LP} {l : Line} {n : Nat} {ps : List Line} (w : Way Fs l n ps) : ps.length = Fs.length := by
  have : ∀ {Fs : List LP} {ps : List Line}, Cut Fs ps → ps.length = Fs.length := by
    intro Fs
    induction Fs with
    | nil => intro ps h; cases ps with | nil => rfl | cons => exact h.elim
    | cons F Fs ih => intro ps h; cases ps with | nil => exact h.elim | cons p ps => simp [ih h.2.2]
  exact this w.2.1
theorem IT.congr {kvs : List (D × D)} {P P' : Nat → Prop} {V : Nat → D → Prop} (t : IT kvs P V) (h : ∀ m, P m ↔ P' m) : IT kvs P' V := ⟨t.nd, t.all, fun m => (t.mem m).trans (h m)⟩
/-- what is reached from the entries that are done; from one start, up to e -/
def PA (F : LP) (l : Line) (dn : List (D × D)) (j : Nat) : Prop := ∃ q ∈ dn, ∃ n : Nat, q.1 = .int (n : Int) ∧ n + 1 ≤ j ∧ j ≤ l.length ∧ ¬ F ((l.take j).drop n)
def PB (F : LP) (l : Line) (n e j : Nat) : Prop := n + 1 ≤ j ∧ j < e ∧ j ≤ l.length ∧ ¬ F ((l.take j).drop n)
theorem PB_no {F : LP} {l : Line} {n m : Nat} (h : F ((l.take m).drop n)) (j : Nat) : PB F l n m j ↔ PB F l n (m + 1) j :=
  ⟨fun ⟨h1, h2, h3⟩ => ⟨h1, by omega, h3⟩, fun ⟨h1, h2, h3, h4⟩ => ⟨h1, by
    by_cases hj : j = m
    · subst hj; exact absurd h h4
    · omega, h3, h4⟩⟩
theorem PB_yes {F : LP} {l : Line} {n m : Nat} (h : ¬ F ((l.take m).drop n)) (h1 : n + 1 ≤ m) (h2 : m ≤ l.length) (j : Nat) : (PB F l n m j ∨ j = m) ↔ PB F l n (m + 1) j := by
  constructor
  · rintro (⟨h1, h2, h3⟩ | rfl)
    · exact ⟨h1, by omega, h3⟩
    · exact ⟨h1, by omega, h2, h⟩
  · rintro ⟨h1, h2, h3⟩
    by_cases hj : j = m
    · exact .inr hj
    · exact .inl ⟨h1, by omega, h3⟩
@[simp] theorem y_addT {a b : List D} {M : Mem} {Q : DK} : dAdd (.tup a) (.tup b) M Q = (a.length + b.length ≤ sizeLine ∧ Q (.tup (a ++ b)) M) := rfl
/-- the tables of a row, in the memory -/
def TabL (M : Mem) (xs : List (Addr × LP)) : Prop := ∀ x ∈ xs, ∃ k t, M x.1 = some (.dict k t) ∧ LT k x.2
theorem TabL.sub {M M' : Mem} {xs : List (Addr × LP)} (s : SubM M M') (h : TabL M xs) : TabL M' xs := fun x hx => let ⟨k, t, e, q⟩ := h x hx; ⟨k, t, s _ _ e, q⟩
def sp_pieces : DSp := fun ds M Q => ∃ (l : Line) (xs : List (Addr × LP)), ds = [encL l, .fl (xs.map fun x => .ref x.1)] ∧ TabL M xs ∧ l.length ≤ 1000 ∧ xs.length ≤ 1000 ∧
  (∀ ps, Way (xs.map (·.2)) l l.length ps → Q (encLs ps) M) ∧ ((¬ Reach (xs.map (·.2)) l l.length) → Q .non M)
theorem pieces_ok : ∀ ds M Q, sp_pieces ds M Q → w_pieces_of (ends Q) (startD 8 ds) M := by
  rintro ds M Q ⟨l, xs, rfl, htab, hl, hxs, q1, q2⟩
  have h5 := sz5
  unfold w_pieces_of
  simp [-Bool.exists_bool]
  refine ⟨rfl, fun p0 ta tb hp0 => ?_⟩
  let V : List LP → Nat → D → Prop := fun Fs m v => ∃ ps, v = encLs ps ∧ Way Fs l m ps
  refine loop_map (xs := xs) (fun x => D.ref x.1) (fun done ρ M' => ∃ pr x3 x4 x5 x6 x7 kvs t, ρ = [some (encL l), some (.fl (xs.map fun x => D.ref x.1)), some (.ref pr), x3, x4, x5, x6, x7] ∧ SubM M M' ∧ M' pr = some (.dict kvs t) ∧ IT kvs (Reach (done.map (·.2)) l) (V (done.map (·.2)))) ⟨p0, none, none, none, none, none, _, (ta, tb), rfl, SubM.new hp0, mset_same, ?_⟩ ?_ ?_
  · refine ⟨by simp [kys], fun q hq => ?_, fun m => ?_⟩
    · rw [List.mem_singleton] at hq
      subst hq
      exact ⟨0, rfl, [], rfl, Nat.zero_le _, trivial, by simp⟩
    · simp only [kys, List.map_cons, List.map_nil, List.mem_singleton]
      constructor
      · intro e
        injection e with e
        have : m = 0 := by omega
        subst this
        exact ⟨[], Nat.zero_le _, trivial, by simp⟩
      · rintro ⟨ps, h1, h2, h3⟩
        cases ps with
        | nil =>
          have := congrArg List.length h3
          simp at this
          have e0 : m = 0 := by omega
          rw [e0]; rfl
        | cons => exact h2.elim
  · rintro done ⟨aF, F⟩ rest hx ρ M' ⟨pr, x3, x4, x5, x6, x7, kvs, t, rfl, sm, hm, it⟩ N hN
    refine ⟨_, _, .refl, .refl, trivial, ?_⟩
    obtain ⟨kF, tF, haF, ltF⟩ := htab (aF, F) (by rw [hx]; simp)
    unfold w_pieces_of_3
    simp [-Bool.exists_bool]
    intro p2 tc td hp2
    have n2 : M p2 = none := sm.none hp2
    have hr2 : pr ≠ p2 := fun e => by rw [e, hp2] at hm; cases hm
    rw [y_entIt (show mset M' p2 (.dict [] (tc, td)) pr = some (.dict kvs t) by rw [mset_ne hr2]; exact hm)]
    have hda : ∀ {M'' : Mem}, SubM M M'' → M'' aF = some (.dict kF tF) := fun s => s aF _ haF
    refine loop_map (xs := kvs) (fun p => D.tup [p.1, p.2]) (fun dn ρ M'' => ∃ x5 x6 x7 kvs2 t2, ρ = [some (encL l), some (.fl (xs.map fun x => D.ref x.1)), some (.ref pr), some (.ref aF), some (.ref p2), x5, x6, x7] ∧ SubM M M'' ∧ M'' pr = some (.dict kvs t) ∧ M'' p2 = some (.dict kvs2 t2) ∧ IT kvs2 (PA F l dn) (V (done.map (·.2) ++ [F]))) ⟨x5, x6, x7, [], (tc, td), rfl, sm.set n2, by rw [mset_ne hr2]; exact hm, mset_same, ⟨by simp [kys], by simp, by simp [kys, PA]⟩⟩ ?_ ?_
    · rintro dn ⟨qk, qv⟩ rest2 hx2 ρ M'' ⟨x5, x6, x7, kvs2, t2, rfl, sm, hm, hm2, it2⟩ N2 hN2
      refine ⟨_, _, .refl, .refl, hm, ?_⟩
      obtain ⟨n, e1, ps, e2, w⟩ := it.all (qk, qv) (by rw [hx2]; simp)
      simp only at e1 e2
      subst e1 e2
      have hnl : n ≤ l.length := w.1
      have hpl : ps.length ≤ 1000 := by
        have := way_pieces w
        rw [this, List.length_map]
        have h2 : xs.length = _ := congrArg List.length hx
        simp at h2
        omega
      unfold w_pieces_of_2
      simp [-Bool.exists_bool]
      refine ⟨by unfold RgOk2; omega, ?_⟩
      have en : (((l.length : Nat) : Int) + 1 - ((n : Int) + 1)).toNat = l.length - n := by omega
      try rw [en]
      have e3 : ((n : Int) + 1) = ((n + 1 : Nat) : Int) := by omega
      rw [e3]
      refine loop_range (fun i ρ M'' => ∃ x7 kvs2 t2, ρ = [some (encL l), some (.fl (xs.map fun x => D.ref x.1)), some (.ref pr), some (.ref aF), some (.ref p2), some (.int (n : Int)), some (encLs ps), x7] ∧ SubM M M'' ∧ M'' pr = some (.dict kvs t) ∧ M'' p2 = some (.dict kvs2 t2) ∧ IT kvs2 (fun m => PA F l dn m ∨ PB F l n (n + 1 + i) m) (V (done.map (·.2) ++ [F]))) ⟨x7, kvs2, t2, rfl, sm, hm, hm2, it2.congr fun m => ⟨.inl, fun z => z.elim id fun ⟨z1, z2, _⟩ => by omega⟩⟩ ?_ ?_
      · rintro i hi ρ M3 ⟨x7, kvs2, t2, rfl, sm, hm, hm2, it2⟩ N3 hN3
        refine ⟨_, _, .refl, .refl, trivial, ?_⟩
        rw [show n + 1 + (i + 1) = (n + 1 + i) + 1 by omega] at hN3
        have h1m : n + 1 ≤ n + 1 + i := by omega
        have hml : n + 1 + i ≤ l.length := by omega
        generalize n + 1 + i = m at *
        unfold w_pieces_of_1
        simp [-Bool.exists_bool, -Int.natCast_add]
        rw [y_inD (hda sm)]
        refine ⟨ltF.ok _, ?_⟩
        simp only [ex_bl]
        by_cases hT : F ((l.take m).drop n)
        · rw [(ltF.has _).mpr hT]
          simp
          exact hN3 _ _ ⟨_, kvs2, t2, rfl, sm, hm, hm2, it2.congr fun j => or_congr Iff.rfl (PB_no hT j)⟩
        · rw [show (valD kF (encL ((l.take m).drop n))).isSome = false from by rw [Bool.eq_false_iff]; exact fun e => hT ((ltF.has _).mp e)]
          rw [Bool.not_false, if_pos rfl, y_inD hm2]
          refine ⟨it2.ok _, ?_⟩
          simp only [ex_bl]
          rcases it2.val (m := m) with ⟨v, e1, _, hP⟩ | ⟨e1, hP⟩
          · rw [e1]
            simp
            refine hN3 _ _ ⟨_, kvs2, t2, rfl, sm, hm, hm2, it2.congr fun j => ?_⟩
            rw [← PB_yes hT h1m hml]
            constructor
            · exact fun z => z.imp id .inl
            · rintro (z | z | rfl)
              · exact .inl z
              · exact .inr z
              · exact hP
          · rw [e1]
            simp [encLs]
            refine ⟨by omega, by omega, ?_⟩
            rw [y_putD hm2]
            have hn2 := it2.len (L := 1000) (fun j hj => by
              rcases hj with ⟨_, _, _, _, _, z, _⟩ | ⟨_, _, z, _⟩ <;> omega)
            refine ⟨it2.ok _, by omega, fun t3 => hN3 _ _ ⟨_, _, t3, rfl, sm.set n2, by rw [mset_ne hr2]; exact hm, mset_same, (it2.new hP ⟨ps ++ [(l.take m).drop n], by simp [encLs], way_snoc w h1m hml hT⟩).congr fun j => ?_⟩⟩
            rw [or_assoc]
            exact or_congr Iff.rfl (PB_yes hT h1m hml j)
      · rintro ρ M3 ⟨x7, kvs2, t2, rfl, sm, hm, hm2, it2⟩
        refine ⟨_, _, .refl, .refl, trivial, hN2 _ _ ⟨_, _, x7, kvs2, t2, rfl, sm, hm, hm2, it2.congr fun j => ?_⟩⟩
        unfold PA
        constructor
        · rintro (⟨q, h1, h2⟩ | ⟨h1, h2, h3⟩)
          · exact ⟨q, by simp [h1], h2⟩
          · exact ⟨(.int (n : Int), encLs ps), by simp, n, rfl, h1, h3⟩
        · rintro ⟨q, h1, n', h2, h3, h4⟩
          rw [List.mem_append, List.mem_singleton] at h1
          rcases h1 with h1 | rfl
          · exact .inl ⟨q, h1, n', h2, h3, h4⟩
          · injection h2 with h2
            have : n' = n := by omega
            subst this
            exact .inr ⟨h3, by omega, h4⟩
    · rintro ρ M'' ⟨x5, x6, x7, kvs2, t2, rfl, sm, hm, hm2, it2⟩
      refine ⟨_, _, .refl, .refl, hm, ?_⟩
      simp
      refine hN _ _ ⟨p2, _, _, _, _, _, kvs2, t2, rfl, sm, hm2, ?_⟩
      rw [List.map_append]
      refine it2.congr fun m => ?_
      show PA F l kvs m ↔ Reach (done.map (·.2) ++ [F]) l m
      rw [reach_step]
      constructor
      · rintro ⟨q, hq, n, e, h⟩
        exact ⟨n, (it.mem n).mp (by rw [← e]; exact List.mem_map_of_mem hq), h⟩
      · rintro ⟨n, hn, h⟩
        have := (it.mem n).mpr hn
        unfold kys at this
        rw [List.mem_map] at this
        obtain ⟨q, hq, e⟩ := this
        exact ⟨q, hq, n, e, h⟩
  · rintro ρ M' ⟨pr, x3, x4, x5, x6, x7, kvs, t, rfl, sm, hm, it⟩
    refine ⟨_, _, .refl, .refl, trivial, ?_⟩
    simp [-Bool.exists_bool]
    refine ⟨⟨kvs, y_entR hm⟩, kvs, y_entR hm, it.ok _, drops_to sm ?_⟩
    rcases it.val (m := l.length) with ⟨v, e1, ⟨ps, rfl, w⟩, hP⟩ | ⟨e1, hP⟩
    · rw [e1]; exact q1 ps w
    · rw [e1]; exact q2 hP
end F83

set_option Elab.async false
set_option linter.all false
set_option maxRecDepth 100000
set_option maxHeartbeats 4000000
namespace F83
open PySem PySem.Spec PyProof.Rows L2 Fw
/-! class Truth -/
def IsTab (M : Mem) (a : Addr) (S : LP) : Prop := ∃ k t, M a = some (.dict k t) ∧ LT k S
def But (d : Addr) (M M' : Mem) : Prop := ∀ b o, b ≠ d → M b = some o → M' b = some o
theorem IsTab.but {d : Addr} {M M' : Mem} {a : Addr} {S : LP} (h : IsTab M a S) (b : But d M M') (ne : a ≠ d) : IsTab M' a S := let ⟨k, t, e, q⟩ := h; ⟨k, t, b a _ ne e, q⟩
theorem SubM.but {d : Addr} {M M' Mb : Mem} (b : But d M M') (s : SubM Mb M) (h : Mb d = none) : SubM Mb M' := fun a o e => b a o (fun z => by subst z; rw [h] at e; cases e) (s a o e)
abbrev tFs (bs : Bans) (d : Addr) : List (PySem.Str × D) := [(Str.ofString "bans", encB bs), (Str.ofString "banned", D.ref d)]
structure TrAt (C : Addr) (M : Mem) (x d : Addr) (bs : Bans) (n : Nat) : Prop where
  ins : M x = some (.ins C (tFs bs d))
  ne : x ≠ d
  tab : ∃ cache t, M d = some (.dict cache t) ∧ cache.length ≤ n ∧ ∀ q ∈ cache, ∃ k, KdOk k ∧ q.1 = .str (fmtK k) ∧ ∃ a, q.2 = .ref a ∧ a ≠ d ∧ IsTab M a (kindB bs k)
def sp_by (C : Addr) (nn : Nat) : DSp := fun ds M Q => ∃ (x d : Addr) (bs : Bans) (k : Kd) (n : Nat), ds = [.ref x, encK k] ∧ TrAt C M x d bs n ∧ n ≤ 50000 ∧ KdOk k ∧ k.dep < nn ∧ (fmtK k).length ≤ 100000 ∧ BsOk bs ∧
  ∀ a M', a ≠ d → But d M M' → TrAt C M' x d bs (n + 1) → IsTab M' a (kindB bs k) → Q (.ref a) M'
theorem lk1 {bs : Bans} {d : Addr} : (tFs bs d).lookup (Str.ofString "bans") = some (encB bs) := by
  rw [List.lookup_cons]; rfl
theorem lk2 {bs : Bans} {d : Addr} : (tFs bs d).lookup (Str.ofString "banned") = some (.ref d) := by
  rw [List.lookup_cons, show (Str.ofString "banned" == Str.ofString "bans") = false by decide, List.lookup_cons]; rfl
theorem by_ok (C : Addr) (nn : Nat) : ∀ ds M Q, sp_by C nn ds M Q → w_Truth_banned_by C (sp_fk nn) (sp_kind nn) (ends Q) (startD 3 ds) M := by
  rintro ds M Q ⟨x, d, bs, k, n, rfl, tr, hn, kok, hd, hl, bok, q⟩
  have h5 := sz5
  obtain ⟨cache, t, hc, hcl, hall⟩ := tr.tab
  have hins := tr.ins
  unfold w_Truth_banned_by
  simp [-Bool.exists_bool]
  refine ⟨k, rfl, hd, hl, ?_⟩
  simp [-Bool.exists_bool]
  have fk2 : ∀ {M' : Mem} (cache : List (D × D)), (∀ q ∈ cache, ∃ k, KdOk k ∧ q.1 = .str (fmtK k) ∧ ∃ a, q.2 = .ref a ∧ a ≠ d ∧ IsTab M' a (kindB bs k)) → keyOk cache (.str (fmtK k)) := fun cache h => keyOk_f rfl fun e he => by
    unfold kys at he
    rw [List.mem_map] at he
    obtain ⟨z, hz, rfl⟩ := he
    obtain ⟨k', _, e, _⟩ := h z hz
    rw [e]; rfl
  refine ⟨_, hins, _, lk2, ?_⟩
  rw [y_inD hc]
  refine ⟨fk2 cache hall, ?_⟩
  simp only [ex_bl]
  cases hv : valD cache (.str (fmtK k)) with
  | some v =>
    simp
    refine ⟨_, hins, _, lk2, ?_⟩
    rw [y_ixD hc]
    refine ⟨fk2 cache hall, v, hv, ?_⟩
    unfold valD at hv
    rw [Option.map_eq_some_iff] at hv
    obtain ⟨z, hz, rfl⟩ := hv
    have h0 := List.find?_some hz
    have h1 : z.1 = .str (fmtK k) := of_decide_eq_true h0
    obtain ⟨k', kok', e, a, ea, na, tb⟩ := hall z (List.mem_of_find?_eq_some hz)
    rw [h1] at e
    injection e with e
    have ek := fmtK_inj kok kok' e
    subst ek
    rw [ea]
    exact drops_of (q a M na (fun _ _ _ h => h) ⟨hins, tr.ne, cache, t, hc, by omega, hall⟩ tb)
  | none =>
    simp
    refine ⟨_, hins, _, lk1, bs, k, rfl, hd, bok, fun p kvs t2 hp lt => ?_⟩
    have px : x ≠ p := fun e => by rw [e, hp] at hins; cases hins
    have pd : d ≠ p := fun e => by rw [e, hp] at hc; cases hc
    refine ⟨tFs bs d, by rw [mset_ne px]; exact hins, _, lk2, ?_⟩
    rw [y_putD (kvs := cache) (t := t) (by rw [mset_ne pd]; exact hc)]
    refine ⟨fk2 cache hall, by omega, fun t3 => ?_⟩
    have hins' : mset (mset M p (.dict kvs t2)) d (.dict (putD cache (.str (fmtK k)) (.ref p)) t3) x = some (.ins C (tFs bs d)) := by rw [mset_ne tr.ne, mset_ne px]; exact hins
    refine ⟨_, hins', _, lk2, ?_⟩
    have but : But d M (mset (mset M p (.dict kvs t2)) d (.dict (putD cache (.str (fmtK k)) (.ref p)) t3)) := fun b o hb e => by
      rw [mset_ne hb, mset_ne (fun z => by rw [z, hp] at e; cases e)]; exact e
    have hno : ¬ (cache.any fun kv => decide (kv.1 = D.str (fmtK k))) = true := fun z => by
      have := valD_some (kvs := cache) (k := .str (fmtK k))
      rw [hv] at this
      have h2 : ¬ D.str (fmtK k) ∈ cache.map (·.1) := of_decide_eq_false this.symm
      rw [List.any_eq_true] at z
      obtain ⟨y, hy, e⟩ := z
      exact h2 (by rw [← of_decide_eq_true e]; exact List.mem_map_of_mem hy)
    have eput : putD cache (.str (fmtK k)) (.ref p) = cache ++ [(.str (fmtK k), .ref p)] := by unfold putD; rw [if_neg hno]
    have tabp : IsTab (mset (mset M p (.dict kvs t2)) d (.dict (putD cache (.str (fmtK k)) (.ref p)) t3)) p (kindB bs k) := ⟨kvs, t2, by rw [mset_ne (Ne.symm pd), mset_same], lt⟩
    have hnew : ∀ q ∈ putD cache (.str (fmtK k)) (.ref p), ∃ j, KdOk j ∧ q.1 = .str (fmtK j) ∧ ∃ a, q.2 = .ref a ∧ a ≠ d ∧ IsTab (mset (mset M p (.dict kvs t2)) d (.dict (putD cache (.str (fmtK k)) (.ref p)) t3)) a (kindB bs j) := fun q hq => by
      rw [eput] at hq
      rw [List.mem_append, List.mem_singleton] at hq
      rcases hq with hq | rfl
      · obtain ⟨k', h1, h2, a, h3, h4, h6⟩ := hall q hq
        exact ⟨k', h1, h2, a, h3, h4, h6.but but h4⟩
      · exact ⟨k, kok, rfl, p, rfl, Ne.symm pd, tabp⟩
    rw [y_ixD mset_same]
    refine ⟨fk2 _ hnew, .ref p, by rw [valD_put, if_pos rfl], drops_of (q p _ (Ne.symm pd) but ⟨hins', tr.ne, _, t3, mset_same, by rw [eput, List.length_append]; simp; omega, hnew⟩ tabp)⟩
def sp_init (C : Addr) : DSp := fun ds M Q => ∃ (x : Addr) (bs : Bans), ds = [.ref x, encB bs] ∧ M x = some (.ins C []) ∧ ∀ d M', M d = none → But x M M' → TrAt C M' x d bs 0 → Q .non M'
theorem init_ok (C : Addr) : ∀ ds M Q, sp_init C ds M Q → w_Truth___init__ C (ends Q) (startD 2 ds) M := by
  rintro ds M Q ⟨x, bs, rfl, hx, q⟩
  unfold w_Truth___init__
  simp [-Bool.exists_bool]
  refine ⟨[], hx, by simp, ?_⟩
  intro p ta tb hp
  have hpx : p ≠ x := fun e => by rw [e, mset_same] at hp; cases hp
  have np : M p = none := by rw [mset_ne hpx] at hp; exact hp
  refine ⟨[(Str.ofString "bans", encB bs)], by rw [mset_ne (Ne.symm hpx), mset_same]; rfl, (by show (1 : Nat) < 1000; decide), drops_of (q p _ np (fun b o hb e => ?_) ⟨by rw [mset_same]; rfl, Ne.symm hpx, [], (ta, tb), by rw [mset_ne hpx, mset_same], Nat.le_refl _, by simp⟩)⟩
  rw [mset_ne hb, mset_ne (fun z => by rw [z, np] at e; cases e), mset_ne hb]
  exact e
theorem comp_invM' {α : Type} {stab : Mem → Prop} {i : Nat} {ρ : Fw.Env} {we : WE} {Q : List D → Mem → Prop} {xs : List α} (enc : α → D) (I : List α → List D → Mem → Prop) (hst : ∀ done acc M, I done acc M → stab M)
    (turn : ∀ done x rest acc M, xs = done ++ x :: rest → I done acc M → ∀ N : D → Mem → Prop, (∀ d M2, I (done ++ [x]) (acc ++ [d]) M2 → N d M2) → we (ρ.set i (some (enc x))) M N) (fin : ∀ acc M, I xs acc M → Q acc M) (hz : xs.length ≤ sizeLine) :
    ∀ (ys done : List α) (acc : List D) (M : Mem), xs = done ++ ys → I done acc M → acc.length = done.length → compD stab (.nm i) ρ wYes we (ys.map enc) acc M Q
  | [], done, acc, M, h, hi, _ => by rw [List.append_nil] at h; subst h; exact ⟨M, .refl, hst _ _ _ hi, fin acc M hi⟩
  | y :: ys, done, acc, M, h, hi, hl => by
    refine ⟨M, .refl, hst _ _ _ hi, ?_⟩
    have hz' : acc.length < sizeLine := by
      have : xs.length = done.length + (ys.length + 1) := by rw [h]; simp
      omega
    simp only [y_tg1, y_yes, if_true]
    exact turn done y ys acc M h hi _ fun d M2 hi2 => ⟨hz', comp_invM' enc I hst turn fin hz ys (done ++ [y]) (acc ++ [d]) M2 (by rw [h]; simp) hi2 (by simp [hl])⟩
theorem comp_invM {α : Type} {stab : Mem → Prop} {i : Nat} {ρ : Fw.Env} {we : WE} {Q : List D → Mem → Prop} {xs : List α} {M : Mem} (enc : α → D) (I : List α → List D → Mem → Prop) (hst : ∀ done acc M, I done acc M → stab M) (h0 : I [] [] M)
    (turn : ∀ done x rest acc M, xs = done ++ x :: rest → I done acc M → ∀ N : D → Mem → Prop, (∀ d M2, I (done ++ [x]) (acc ++ [d]) M2 → N d M2) → we (ρ.set i (some (enc x))) M N) (fin : ∀ acc M, I xs acc M → Q acc M) (hz : xs.length ≤ sizeLine) : compD stab (.nm i) ρ wYes we (xs.map enc) [] M Q :=
  comp_invM' enc I hst turn fin hz xs [] [] M rfl h0 rfl
theorem TrAt.new {C : Addr} {M : Mem} {x d p : Addr} {bs : Bans} {n : Nat} {o : MO} (t : TrAt C M x d bs n) (hp : M p = none) : TrAt C (mset M p o) x d bs n := by
  obtain ⟨cache, tk, hc, hl, hall⟩ := t.tab
  have s : SubM M (mset M p o) := SubM.new hp
  exact ⟨s _ _ t.ins, t.ne, cache, tk, s _ _ hc, hl, fun q hq => let ⟨k, a1, a2, a, a3, a4, kk, tt, a5, a6⟩ := hall q hq; ⟨k, a1, a2, a, a3, a4, kk, tt, s _ _ a5, a6⟩⟩
theorem TrAt.more {C : Addr} {M : Mem} {x d : Addr} {bs : Bans} {n m : Nat} (t : TrAt C M x d bs n) (h : n ≤ m) : TrAt C M x d bs m := ⟨t.ins, t.ne, let ⟨c, k, a, b, e⟩ := t.tab; ⟨c, k, a, Nat.le_trans b h, e⟩⟩
/-! Truth.failing -/
def encS (ks : List Kd) (g : Kd) : D := .tup [.tup (ks.map encK), encK g]
def sp_failing (C : Addr) (nn : Nat) : DSp := fun ds M Q => ∃ (x d : Addr) (bs : Bans) (ks : List Kd) (g : Kd) (Mb : Mem), ds = [.ref x, encS ks g] ∧ TrAt C M x d bs 0 ∧ Mb d = none ∧ SubM Mb M ∧ BsOk bs ∧ ks.length ≤ 1000 ∧ (∀ k ∈ g :: ks, KdOk k ∧ k.dep < nn ∧ (fmtK k).length ≤ 100000) ∧
  (∀ l ps, kindB bs g l → Way (ks.map (kindB bs)) l l.length ps → Q (encLs ps) Mb) ∧ ((∀ l, kindB bs g l → ¬ Reach (ks.map (kindB bs)) l l.length) → Q .non Mb)
theorem failing_ok (C : Addr) (nn : Nat) : ∀ ds M Q, sp_failing C nn ds M Q → w_Truth_failing C (sp_by C nn) sp_pieces (ends Q) (startD 8 ds) M := by
  rintro ds M Q ⟨x, d, bs, ks, g, Mb, rfl, tr, hd, sb, bok, hks, hk, q1, q2⟩
  have h5 := sz5
  unfold w_Truth_failing encS
  simp [-Bool.exists_bool]
  have lkm : (tFs bs d).lookup (Str.ofString "banned_by") = none := by
    rw [List.lookup_cons, show (Str.ofString "banned_by" == Str.ofString "bans") = false by decide, List.lookup_cons, show (Str.ofString "banned_by" == Str.ofString "banned") = false by decide]; rfl
  refine comp_invM encK (fun done acc M' => ∃ zs : List (Addr × Kd), zs.map (·.2) = done ∧ acc = zs.map (fun z => D.ref z.1) ∧ TrAt C M' x d bs done.length ∧ SubM Mb M' ∧ ∀ z ∈ zs, z.1 ≠ d ∧ IsTab M' z.1 (kindB bs z.2)) (fun _ _ _ _ => trivial) ⟨[], rfl, rfl, tr, sb, by simp⟩ ?_ ?_ (by omega)
  · rintro done k rest acc M' hx ⟨zs, rfl, rfl, tr, sb, hzs⟩ N hN
    obtain ⟨k1, k2, k3⟩ := hk k (by rw [hx]; simp)
    have hle : (zs.map (·.2)).length ≤ 1000 := by
      have : ks.length = _ := congrArg List.length hx
      rw [List.length_append] at this
      omega
    simp only [y_meth, y_var, y_cons, y_nil, List.set_cons_succ, List.set_cons_zero]
    refine ⟨.ref x, rfl, x, tFs bs d, rfl, tr.ins, lkm, encK k, rfl, x, d, bs, k, _, rfl, tr, by omega, k1, k2, k3, bok, fun a M2 na bt tr2 tb => hN _ _ ⟨zs ++ [(a, k)], by simp, by simp, by simpa using tr2, SubM.but bt sb hd, fun z hz => ?_⟩⟩
    rw [List.mem_append, List.mem_singleton] at hz
    rcases hz with hz | rfl
    · exact ⟨(hzs z hz).1, (hzs z hz).2.but bt (hzs z hz).1⟩
    · exact ⟨na, tb⟩
  · rintro acc M' ⟨zs, rfl, rfl, tr, sb, hzs⟩
    obtain ⟨k1, k2, k3⟩ := hk g (by simp)
    refine ⟨tFs bs d, tr.ins, fun a b hab => ?_, ?_⟩
    · simp at hab
      rcases hab with ⟨rfl, _⟩ | ⟨rfl, _⟩ <;> decide
    refine ⟨x, d, bs, g, _, rfl, tr, by omega, k1, k2, k3, bok, fun a M2 na bt tr2 ⟨kvs, t, ha, lt⟩ => ?_⟩
    show withSrc (.ref a) M2 _
    rw [y_srcD ha]
    obtain ⟨ls, els, hls, nls⟩ := lt.lines
    show loopD _ _ _ (kvs.map (·.1)) _ _ _
    rw [els]
    have sb2 : SubM Mb M2 := SubM.but bt sb hd
    refine loop_map (xs := ls) encL (fun done ρ M3 => M3 = M2 ∧ (∃ x6 x7, ρ = [some (.ref x), some (encS (zs.map (·.2)) g), some (.tup ((zs.map (·.2)).map encK)), some (encK g), some (.fl (zs.map fun z => D.ref z.1)), none, x6, x7]) ∧ ∀ l ∈ done, ¬ Reach ((zs.map (·.2)).map (kindB bs)) l l.length) ⟨rfl, ⟨none, none, rfl⟩, by simp⟩ ?_ ?_
    · rintro done l rest hx ρ M3 ⟨rfl, ⟨x6, x7, rfl⟩, hno⟩ N hN
      refine ⟨_, _, .refl, .refl, ha, ?_⟩
      have hSl := (hls l).mp (by rw [hx]; simp)
      unfold w_Truth_failing_1
      simp [-Bool.exists_bool]
      have efs : (zs.map fun z => (z.1, kindB bs z.2)).map (·.2) = (zs.map (·.2)).map (kindB bs) := by simp
      refine ⟨l, zs.map fun z => (z.1, kindB bs z.2), by rw [List.map_map]; rfl, fun y hy => ?_, (str_len bok (kind_str bok g l hSl)).2, by simpa using hks, fun ps w => ?_, fun nr => ?_⟩
      · rw [List.mem_map] at hy
        obtain ⟨z, hz, rfl⟩ := hy
        obtain ⟨na', tb⟩ := hzs z hz
        exact tb.but bt na'
      · rw [efs] at w
        simp [isN, encLs]
        exact drops_to sb2 (q1 l ps hSl w)
      · rw [efs] at nr
        simp [isN]
        exact hN _ _ ⟨rfl, ⟨some (encL l), some .non, by rw [List.map_map]⟩, fun m hm => by
          rw [List.mem_append, List.mem_singleton] at hm
          rcases hm with hm | rfl
          · exact hno m hm
          · exact nr⟩
    · rintro ρ M3 ⟨rfl, ⟨x6, x7, rfl⟩, hno⟩
      refine ⟨_, _, .refl, .refl, ha, ?_⟩
      simp
      exact drops_to sb2 (q2 fun l hl => hno l ((hls l).mpr hl))
end F83

set_option Elab.async false
set_option linter.all false
set_option maxRecDepth 100000
set_option maxHeartbeats 4000000
namespace F83
open PySem PySem.Spec PyProof.Rows L2 Fw
structure SeqOk (nn : Nat) (bs : Bans) (ks : List Kd) (g : Kd) : Prop where
  bans : BsOk bs
  few : ks.length ≤ 1000
  kinds : ∀ k ∈ g :: ks, KdOk k ∧ k.dep < nn ∧ (fmtK k).length ≤ 100000
/-- a line that the goal bans is made up of lines that the premises allow -/
def Fails (bs : Bans) (ks : List Kd) (g : Kd) : Prop := ∃ l, kindB bs g l ∧ Reach (ks.map (kindB bs)) l l.length
def sp_fl (nn : Nat) : DSp := fun ds M Q => ∃ (bs : Bans) (ks : List Kd) (g : Kd), ds = [encB bs, encS ks g] ∧ SeqOk nn bs ks g ∧
  (∀ l ps, kindB bs g l → Way (ks.map (kindB bs)) l l.length ps → Q (encLs ps) M) ∧ (¬ Fails bs ks g → Q .non M)
theorem fl_ok (C : Addr) (nn : Nat) : ∀ ds M Q, sp_fl nn ds M Q → w_failing_lines C (sp_init C) (sp_failing C nn) (ends Q) (startD 2 ds) M := by
  rintro ds M Q ⟨bs, ks, g, rfl, ok, q1, q2⟩
  unfold w_failing_lines
  simp [-Bool.exists_bool]
  intro x hx
  refine ⟨x, bs, rfl, mset_same, fun d M' hd bt tr => ⟨rfl, ?_⟩⟩
  refine ⟨tFs bs d, tr.ins, fun a b hab => ?_, ?_⟩
  · simp at hab
    rcases hab with ⟨rfl, _⟩ | ⟨rfl, _⟩ <;> decide
  · have hdx : d ≠ x := fun e => by rw [e, mset_same] at hd; cases hd
    have nd : M d = none := by rw [mset_ne hdx] at hd; exact hd
    have sb : SubM M M' := fun b o e => by
      have hbx : b ≠ x := fun z => by rw [z, hx] at e; cases e
      exact bt b o hbx (by rw [mset_ne hbx]; exact e)
    exact ⟨x, d, bs, ks, g, M, rfl, tr, nd, sb, ok.bans, ok.few, ok.kinds, fun l ps h1 h2 => drops_of (q1 l ps h1 h2), fun h => drops_of (q2 fun ⟨l, h1, h2⟩ => h l h1 h2)⟩
def sp_holds (nn : Nat) : DSp := fun ds M Q => ∃ (bs : Bans) (ks : List Kd) (g : Kd), ds = [encB bs, encS ks g] ∧ SeqOk nn bs ks g ∧ ∀ b, (b = true ↔ ¬ Fails bs ks g) → Q (.bl b) M
theorem holds_ok (nn : Nat) : ∀ ds M Q, sp_holds nn ds M Q → w_holds (sp_fl nn) (ends Q) (startD 2 ds) M := by
  rintro ds M Q ⟨bs, ks, g, rfl, ok, q⟩
  unfold w_holds
  simp [-Bool.exists_bool]
  refine ⟨bs, ks, g, rfl, ok, fun l ps h1 h2 => ?_, fun h => ?_⟩
  · simp [isN, encLs]
    exact drops_of (q false (by
      constructor
      · intro h; cases h
      · intro h; exact absurd ⟨l, h1, ps, h2⟩ h))
  · simp [isN]
    exact drops_of (q true (by simp [h]))
end F83

set_option Elab.async false
set_option linter.all false
set_option maxRecDepth 100000
set_option maxHeartbeats 4000000
namespace F83
open PySem PySem.Spec PyProof.Rows L2 Fw
/-! orders of lines -/
def pyL (l : Line) : PyData := .tuple (l.map .int)
theorem pys_ints : ∀ l : Line, D.pys (l.map D.int) = some (l.map PyData.int)
  | [] => by simp [D.pys]
  | i :: l => by simp [D.pys, D.py, pys_ints l]
theorem py_encL (l : Line) : (encL l).py = some (pyL l) := by simp [encL, D.py, pys_ints, pyL]
theorem pyd_encL (l : Line) : (encL l).pyd = pyL l := by unfold D.pyd; rw [py_encL]; rfl
theorem lt_pyL (a b : Line) : PySem.W.dataLt (pyL a) (pyL b) = decide (a < b) := by
  have h := congrFun (congrFun (PySem.W.dataLe_rows (β := Line) id) b) a
  rw [PySem.W.dataLe_eq] at h
  have h2 : (!PySem.W.dataLt (.list (a.map .int)) (.list (b.map .int))) = decide (b ≤ a) := h
  have e : PySem.W.dataLt (pyL a) (pyL b) = PySem.W.dataLt (.list (a.map .int)) (.list (b.map .int)) := by
    unfold pyL; rw [PySem.W.dataLt_tuple, PySem.W.dataLt_list]
  rw [e]
  cases c : PySem.W.dataLt (.list (a.map .int)) (.list (b.map .int)) with
  | true =>
    rw [c] at h2
    have : ¬ b ≤ a := of_decide_eq_false h2.symm
    exact (decide_eq_true (List.not_le.mp this)).symm
  | false =>
    rw [c] at h2
    have : b ≤ a := of_decide_eq_true h2.symm
    exact (decide_eq_false (List.not_lt.mpr this)).symm
/-- the shortest first, those of one length ascending -/
def Kle (a b : Line) : Prop := a.length < b.length ∨ (a.length = b.length ∧ a ≤ b)
theorem Kle.trans {a b c : Line} (h : Kle a b) (h' : Kle b c) : Kle a c := by
  rcases h with h | ⟨h, g⟩ <;> rcases h' with h' | ⟨h', g'⟩
  · exact .inl (by omega)
  · exact .inl (by omega)
  · exact .inl (by omega)
  · exact .inr ⟨by omega, List.le_trans g g'⟩
theorem Kle.anti {a b : Line} (h : Kle a b) (h' : Kle b a) : a = b := by
  rcases h with h | ⟨h, g⟩ <;> rcases h' with h' | ⟨h', g'⟩
  · omega
  · omega
  · omega
  · exact List.le_antisymm g g'
theorem Kle.total (a b : Line) : Kle a b ∨ Kle b a := by
  by_cases h : a.length < b.length
  · exact .inl (.inl h)
  · by_cases h2 : b.length < a.length
    · exact .inr (.inl h2)
    · rcases List.le_total a b with g | g
      · exact .inl (.inr ⟨by omega, g⟩)
      · exact .inr (.inr ⟨by omega, g⟩)
theorem kle_uniq : ∀ {ls ms : List Line}, ls.Pairwise Kle → ms.Pairwise Kle → ls.Nodup → ms.Nodup → (∀ l, l ∈ ls ↔ l ∈ ms) → ls = ms
  | [], [], _, _, _, _, _ => rfl
  | [], m :: ms, _, _, _, _, h => absurd ((h m).mpr List.mem_cons_self) (by simp)
  | l :: ls, [], _, _, _, _, h => absurd ((h l).mp List.mem_cons_self) (by simp)
  | l :: ls, m :: ms, p1, p2, n1, n2, h => by
    rw [List.pairwise_cons] at p1 p2
    rw [List.nodup_cons] at n1 n2
    have e : l = m := by
      rcases List.mem_cons.mp ((h l).mp List.mem_cons_self) with e | h1
      · exact e
      · rcases List.mem_cons.mp ((h m).mpr List.mem_cons_self) with e | h2
        · exact e.symm
        · exact Kle.anti (p1.1 m h2) (p2.1 l h1)
    subst e
    rw [kle_uniq p1.2 p2.2 n1.2 n2.2 fun x => ?_]
    constructor
    · intro hx
      rcases List.mem_cons.mp ((h x).mp (List.mem_cons_of_mem _ hx)) with e | h1
      · subst e; exact absurd hx n1.1
      · exact h1
    · intro hx
      rcases List.mem_cons.mp ((h x).mpr (List.mem_cons_of_mem _ hx)) with e | h1
      · subst e; exact absurd hx n2.1
      · exact h1
/-! line_key -/
def sp_key : DSp := fun ds M Q => ∃ l : Line, ds = [encL l] ∧ Q (.tup [.int l.length, encL l]) M
theorem key_ok : ∀ ds M Q, sp_key ds M Q → w_line_key (ends Q) (startD 1 ds) M := by
  rintro ds M Q ⟨l, rfl, q⟩
  unfold w_line_key
  have h5 := sz5
  simp [-Bool.exists_bool]
  exact ⟨by omega, drops_of q⟩
def keyD : D → D
  | .tup l => .tup [.int l.length, .tup l]
  | d => d
theorem keyD_L (l : Line) : keyD (encL l) = .tup [.int l.length, encL l] := by unfold encL keyD; simp
theorem pyd_key (l : Line) : (keyD (encL l)).pyd = .tuple [.int l.length, pyL l] := by
  rw [keyD_L]
  unfold D.pyd
  simp [D.py, D.pys, py_encL]
theorem lt_key (a b : Line) : PySem.W.dataLt (.tuple [.int a.length, pyL a]) (.tuple [.int b.length, pyL b]) = decide (a.length < b.length ∨ (a.length = b.length ∧ a < b)) := by
  rw [PySem.W.dataLt_tuple]
  by_cases h : a.length = b.length
  · rw [PySem.W.dataLt_all_yes (by simp [PySem.W.alike]) (by simp [PyData.eqv, h])]
    have al : PySem.W.alike (pyL a) (pyL b) = true := by
      unfold pyL
      simp only [PySem.W.alike]
      have : ∀ a b : Line, PySem.W.alikeAll (a.map PyData.int) (b.map PyData.int) = true := by
        intro a
        induction a with
        | nil => intro b; simp [PySem.W.alikeAll]
        | cons x a ih => intro b; cases b with
          | nil => simp [PySem.W.alikeAll]
          | cons y b => simp [PySem.W.alikeAll, PySem.W.alike, ih]
      exact this a b
    cases c : PyData.eqv (pyL a) (pyL b) with
    | true =>
      rw [PySem.W.dataLt_all_yes al c]
      have e : a = b := by
        have := D.eqv_cl (encL a) (encL b) (pyL a) (pyL b) (encL_cl a) (encL_cl b) (py_encL a) (py_encL b)
        rw [c] at this
        exact encL_inj.mp (of_decide_eq_true this.symm)
      subst e
      rw [show decide (a.length < a.length ∨ (a.length = a.length ∧ a < a)) = false by simp [List.lt_irrefl]]
      exact lex_irrefl _
    | false =>
      rw [PySem.W.dataLt_all_no al c, lt_pyL]
      simp [h]
  · rw [PySem.W.dataLt_all_no (by simp [PySem.W.alike]) (by simp [PyData.eqv]; omega), PySem.W.dataLt_int]
    simp [h]
end F83

set_option Elab.async false
set_option linter.all false
set_option maxRecDepth 100000
set_option maxHeartbeats 4000000
namespace F83
open PySem PySem.Spec PyProof.Rows L2 Fw
theorem keys_py : ∀ ls : List Line, D.pys ((ls.map encL).map keyD) = some (ls.map fun l => PyData.tuple [.int l.length, pyL l])
  | [] => by simp [D.pys]
  | l :: ls => by
    have ih := keys_py ls
    simp only [List.map_cons, D.pys, ih]
    rw [keyD_L]
    simp [D.py, D.pys, py_encL]
theorem pyL_depth (l : Line) : (pyL l).depth = 1 := by
  unfold pyL
  have : ∀ l : Line, PyData.depthAll (l.map PyData.int) = 0 := by
    intro l; induction l with
    | nil => simp [PyData.depthAll]
    | cons x l ih => simp [PyData.depthAll, PyData.depth, ih]
  simp [PyData.depth, this]
theorem alike_ints : ∀ a b : Line, PySem.W.alikeAll (a.map PyData.int) (b.map PyData.int) = true := by
  intro a
  induction a with
  | nil => intro b; simp [PySem.W.alikeAll]
  | cons x a ih => intro b; cases b with
    | nil => simp [PySem.W.alikeAll]
    | cons y b => simp [PySem.W.alikeAll, PySem.W.alike, ih]
theorem sortOk_keys (ls : List Line) : SortOk ((ls.map encL).map keyD) := by
  refine ⟨_, keys_py ls, fun d hd d' hd' => ?_, .inl fun d hd => ?_, fun d hd => ?_⟩
  · rw [List.mem_map] at hd hd'
    obtain ⟨l, _, rfl⟩ := hd
    obtain ⟨m, _, rfl⟩ := hd'
    simp [PySem.W.alike, PySem.W.alikeAll, pyL, alike_ints]
  · rw [List.mem_map] at hd
    obtain ⟨l, _, rfl⟩ := hd
    exact ⟨_, _, rfl⟩
  · rw [List.mem_map] at hd
    obtain ⟨l, _, rfl⟩ := hd
    simp [PyData.depth, PyData.depthAll, pyL_depth]
theorem kle_le (a b : Line) : PySem.W.dataLe false (fun d => (keyD d).pyd) (encL a) (encL b) = true ↔ Kle a b := by
  rw [PySem.W.dataLe_eq]
  show (!PySem.W.dataLt (keyD (encL b)).pyd (keyD (encL a)).pyd) = true ↔ _
  rw [pyd_key, pyd_key, lt_key, Bool.not_eq_true', decide_eq_false_iff_not]
  unfold Kle
  constructor
  · intro h
    by_cases h1 : a.length < b.length
    · exact .inl h1
    · have h2 : ¬ b.length < a.length := fun z => h (.inl z)
      have h3 : a.length = b.length := by omega
      exact .inr ⟨h3, List.not_lt.mp fun z => h (.inr ⟨h3.symm, z⟩)⟩
  · rintro (h | ⟨h, g⟩) (z | ⟨z, y⟩)
    · omega
    · omega
    · omega
    · exact List.not_lt.mpr g y
/-- a list of lines, sorted as keys -/
theorem sort_keys (ls : List Line) (hn : ls.Nodup) : ∃ ms : List Line, (ls.map encL).mergeSort (PySem.W.dataLe false fun d => (keyD d).pyd) = ms.map encL ∧ ms.Pairwise Kle ∧ ms.Nodup ∧ ∀ l, l ∈ ms ↔ l ∈ ls := by
  have hp := List.mergeSort_perm (ls.map encL) (PySem.W.dataLe false fun d => (keyD d).pyd)
  obtain ⟨ms, e⟩ := enc_list (ds := (ls.map encL).mergeSort (PySem.W.dataLe false fun d => (keyD d).pyd)) fun d hd => by
    rw [hp.mem_iff, List.mem_map] at hd
    obtain ⟨l, _, rfl⟩ := hd
    exact ⟨l, rfl⟩
  have hs : ((ls.map encL).mergeSort (PySem.W.dataLe false fun d => (keyD d).pyd)).Pairwise (fun a b => PySem.W.dataLe false (fun d => (keyD d).pyd) a b = true) := PySem.W.sort_pairwise (PySem.W.sortLe_total _ _ _) _
  rw [e] at hs hp
  refine ⟨ms, e, ?_, ?_, fun l => ?_⟩
  · rw [List.pairwise_map] at hs
    exact hs.imp fun h => (kle_le _ _).mp h
  · have h1 : (ls.map encL).Nodup := by
      rw [List.Nodup, List.pairwise_map]
      exact hn.imp fun h e => h (encL_inj.mp e)
    have h2 := (hp.nodup_iff).mpr h1
    exact (List.pairwise_map.mp h2).imp fun h e => h (by rw [e])
  · rw [← mem_enc, hp.mem_iff, mem_enc]
@[simp] theorem y_sortK {sp : List D → Mem → DK → Prop} {we : WE} {ρ : Fw.Env} {M : Mem} {Q : DK} : wSortK sp we ρ M Q = we ρ M fun d M1 => ∃ xs, ∃ key : D → D, seqD d M1 = some xs ∧ SortOk (xs.map key) ∧ (∀ x ∈ xs, ∀ Q' : DK, Q' (key x) M1 → sp [x] M1 Q') ∧ ∀ p, M1 p = none → Q (.ref p) (mset M1 p (.lst (xs.mergeSort (PySem.W.dataLe false fun d => (key d).pyd)))) := rfl
def sp_bl (nn : Nat) : DSp := fun ds M Q => ∃ (bs : Bans) (k : Kd), ds = [encB bs, encK k] ∧ k.dep < nn ∧ BsOk bs ∧ ∀ ls : List Line, ls.Pairwise Kle → ls.Nodup → (∀ l, l ∈ ls ↔ kindB bs k l) → Q (.tup (ls.map encL)) M
theorem bl_ok (nn : Nat) : ∀ ds M Q, sp_bl nn ds M Q → w_banned_lines (sp_kind nn) sp_key (ends Q) (startD 2 ds) M := by
  rintro ds M Q ⟨bs, k, rfl, hd, bok, q⟩
  unfold w_banned_lines
  simp [-Bool.exists_bool]
  refine ⟨bs, k, rfl, hd, bok, fun p kvs t hp lt => ?_⟩
  obtain ⟨ls, e, hls, hn⟩ := lt.lines
  obtain ⟨ms, em, h1, h2, h3⟩ := sort_keys ls hn
  refine ⟨kvs.map (·.1), by unfold seqD; simp only [mset_same], keyD, by rw [e]; exact sortOk_keys ls, fun x hx Q' hQ => ?_, fun p2 hp2 => ?_⟩
  · rw [e, List.mem_map] at hx
    obtain ⟨l, _, rfl⟩ := hx
    exact ⟨l, rfl, by rw [← keyD_L]; exact hQ⟩
  · rw [y_tupL mset_same]
    refine drops_to (sub_two hp hp2) ?_
    rw [e, em]
    exact q ms h1 h2 fun l => by rw [h3, hls]
end F83

set_option Elab.async false
set_option linter.all false
set_option maxRecDepth 100000
set_option maxHeartbeats 4000000
namespace F83
open PySem PySem.Spec PyProof.Rows L2 Fw
@[simp] theorem y_int1 {i : Int} {M : Mem} {Q : DK} : dInt1 [.int i] M Q = Q (.int i) M := rfl
@[simp] theorem y_int1b {b : Bool} {M : Mem} {Q : DK} : dInt1 [.bl b] M Q = Q (.int (if b = true then 1 else 0)) M := rfl
@[simp] theorem y_abs {i : Int} {M : Mem} {Q : DK} : dAbs [.int i] M Q = Q (.int (if i < 0 then -i else i)) M := rfl
@[simp] theorem y_str1 {i : Int} {M : Mem} {Q : DK} : dStr1 [.int i] M Q = (i.natAbs.log2 < 1920 ∧ Q (.str (toString i)) M) := rfl
theorem at_nat {α : Type} {l : List α} {n : Nat} {a : α} (h : l[n]? = some a) : L2.atI l (n : Int) = some a := by
  have hl : n < l.length := (List.getElem?_eq_some_iff.mp h).1
  unfold L2.atI ixN
  rw [if_pos (by omega), if_pos (by omega)]
  simp [h]
theorem at_some {α : Type} {l : List α} {n : Nat} (h : n < l.length) : L2.atI l (n : Int) = some l[n] := at_nat (List.getElem?_eq_getElem h)
/-! the texts of numbers -/
theorem digs_in : ∀ d, d < 10 → (48 + d) ∈ digs.cps.toList := by decide
theorem num_digits : ∀ (k n : Nat), n < 10 ^ k → 0 < n → ∃ h t, TL.numL n = h :: t ∧ h ≠ 48 ∧ (h :: t).length ≤ k ∧ ∀ c ∈ h :: t, c ∈ digs.cps.toList
  | 0, n, h, h0 => by simp at h; omega
  | k + 1, n, h, h0 => by
    by_cases h10 : n < 10
    · exact ⟨48 + n, [], TL.numL_lt h10, by omega, by simp, fun c hc => by rw [List.mem_singleton] at hc; subst hc; exact digs_in n h10⟩
    · obtain ⟨x, t, e, hx, hl, hd⟩ := num_digits k (n / 10) (by rw [Nat.pow_succ] at h; omega) (by omega)
      refine ⟨x, t ++ [48 + n % 10], by rw [TL.numL_step (by omega), e]; rfl, hx, ?_, fun c hc => ?_⟩
      · simp at hl ⊢; omega
      · rw [← List.cons_append, List.mem_append, List.mem_singleton] at hc
        rcases hc with hc | rfl
        · exact hd c hc
        · exact digs_in _ (Nat.mod_lt _ (by decide))
/-! drawn atoms -/
def Base (z : PySem.Str) (n : Nat) : Prop := ∃ c r, z.cps.toList = c :: r ∧ c ∈ lets.cps.toList ∧ (∀ x ∈ c :: r, okCh x = true) ∧ r.length = n
theorem ok_dot {c : Nat} (h : okCh c = true) : c ≠ 46 ∧ c ≠ 32 ∧ c ≠ 40 ∧ c ≠ 41 := by
  have : ∀ x ∈ lets.cps.toList ++ digs.cps.toList, x ≠ 46 ∧ x ≠ 32 ∧ x ≠ 40 ∧ x ≠ 41 := by decide
  unfold okCh at h
  rw [Bool.or_eq_true, decide_eq_true_eq, decide_eq_true_eq] at h
  exact this c (List.mem_append.mpr h)
theorem tw_all {p : Nat → Bool} : ∀ {l : List Nat}, (∀ x ∈ l, p x = true) → ∀ r, (l ++ r).takeWhile p = l ++ r.takeWhile p ∧ (l ++ r).dropWhile p = r.dropWhile p
  | [], _, r => ⟨rfl, rfl⟩
  | x :: l, h, r => by
    have hx := h x List.mem_cons_self
    have ih := tw_all (l := l) (fun y hy => h y (List.mem_cons_of_mem _ hy)) r
    rw [List.cons_append, List.takeWhile_cons, List.dropWhile_cons, if_pos hx, if_pos hx, ih.1, ih.2]
    exact ⟨rfl, rfl⟩
theorem base_cut {z : PySem.Str} {n : Nat} (h : Base z n) (t : List Nat) : (z.cps.toList ++ t).takeWhile (fun c => decide (c ≠ 46)) = z.cps.toList ++ t.takeWhile (fun c => decide (c ≠ 46)) ∧ (z.cps.toList ++ t).dropWhile (fun c => decide (c ≠ 46)) = t.dropWhile (fun c => decide (c ≠ 46)) := by
  obtain ⟨c, r, e, hc, hall, hr⟩ := h
  exact tw_all (fun x hx => decide_eq_true (ok_dot (hall x (by rw [← e]; exact hx))).1) t
theorem base_atom {z y : PySem.Str} {n : Nat} (h : Base z n) (hn : n ≤ 7) (hu : upTo y = z.cps.toList) (ht : onFrom y = [] ∨ isNum (strOf (onFrom y).tail) = true) : isAtom y = true := by
  obtain ⟨c, r, e, hc, hall, hr⟩ := h
  unfold isAtom
  rw [hu, e]
  have h1 : ¬ (c :: r).length < 1 := by simp
  have h2 : ¬ 8 < (c :: r).length := by simp; omega
  have h3 : (c :: r).all okCh = true := List.all_eq_true.mpr hall
  simp only [h1, h2, hc, h3, decide_false, decide_true, Bool.not_false, Bool.true_and, Bool.or_eq_true, decide_eq_true_eq]
  exact ht
theorem base_plain {z : PySem.Str} {n : Nat} (h : Base z n) (hn : n ≤ 7) : isAtom z = true := by
  have := base_cut h []
  simp only [List.append_nil, List.takeWhile_nil, List.dropWhile_nil] at this
  exact base_atom h hn this.1 (.inl this.2)
theorem base_num {z : PySem.Str} {n m : Nat} (h : Base z n) (hn : n ≤ 7) (hm : 0 < m) (hm2 : m < 10 ^ 6) : isAtom (z ++ Str.ofString "." ++ Str.ofString (toString ((m : Nat) : Int))) = true ∧ (Str.ofString (toString ((m : Nat) : Int))).length ≤ 6 := by
  obtain ⟨x, t, e, hx, hl, hd⟩ := num_digits 6 m hm2 hm
  have en : TL.tl (Str.ofString (toString ((m : Nat) : Int))) = x :: t := by rw [TL.tl_num, e]
  have ed : TL.tl (Str.ofString ".") = [46] := by decide
  have ey : (z ++ Str.ofString "." ++ Str.ofString (toString ((m : Nat) : Int))).cps.toList = z.cps.toList ++ 46 :: (x :: t) := by
    show TL.tl _ = _
    rw [TL.tl_append, TL.tl_append, en, ed]
    simp
  have hc := base_cut h (46 :: (x :: t))
  have hu : upTo (z ++ Str.ofString "." ++ Str.ofString (toString ((m : Nat) : Int))) = z.cps.toList := by
    unfold upTo; rw [ey, hc.1]; simp
  have ho : onFrom (z ++ Str.ofString "." ++ Str.ofString (toString ((m : Nat) : Int))) = 46 :: (x :: t) := by
    unfold onFrom; rw [ey, hc.2]; simp
  refine ⟨base_atom h hn hu (.inr ?_), by rw [← len_cps]; show (TL.tl _).length ≤ 6; rw [en]; exact hl⟩
  rw [ho]
  unfold isNum
  have hs : (strOf (List.tail (46 :: (x :: t)))).cps.toList = x :: t := rfl
  have h1 : ¬ (strOf (List.tail (46 :: (x :: t)))).length < 1 := by rw [strOf_len]; simp
  have h2 : ¬ 6 < (strOf (List.tail (46 :: (x :: t)))).length := by rw [strOf_len]; simp at hl ⊢; omega
  have h3 : (x :: t).all (fun c => decide (c ∈ digs.cps.toList)) = true := List.all_eq_true.mpr fun c hc => decide_eq_true (hd c hc)
  rw [hs]
  simp only [h1, h2, hx, h3, decide_false, Bool.not_false, Bool.true_and]
theorem atom_chars {z : PySem.Str} (h : isAtom z = true) : AtOk z ∧ z.cps.toList ≠ [] := by
  unfold isAtom at h
  simp only [Bool.and_eq_true, Bool.or_eq_true, decide_eq_true_eq] at h
  obtain ⟨⟨_, h1⟩, h2⟩ := h
  have hsp : z.cps.toList = upTo z ++ onFrom z := (List.takeWhile_append_dropWhile ..).symm
  cases hu : upTo z with
  | nil => rw [hu] at h1; cases h1
  | cons c r =>
    rw [hu] at h1
    simp only [Bool.and_eq_true] at h1
    refine ⟨fun x hx => ?_, by rw [hsp, hu]; simp⟩
    rw [hsp, List.mem_append] at hx
    rcases hx with hx | hx
    · rw [hu] at hx
      exact (ok_dot (List.all_eq_true.mp h1.2 x hx)).2
    · rcases h2 with h2 | h2
      · rw [h2] at hx; cases hx
      · cases ho : onFrom z with
        | nil => rw [ho] at hx; cases hx
        | cons d q =>
          rw [ho] at hx h2
          have hd : d = 46 := by
            have := List.head_dropWhile_not (fun c => decide (c ≠ 46)) (l := z.cps.toList) (by show onFrom z ≠ []; rw [ho]; simp)
            have h3 : (onFrom z).head (by rw [ho]; simp) = d := by simp [ho]
            unfold onFrom at h3
            rw [h3] at this
            simpa using this
          rcases List.mem_cons.mp hx with rfl | hx
          · rw [hd]; decide
          · unfold isNum at h2
            simp only [Bool.and_eq_true] at h2
            have h4 := h2.2
            have hs : (strOf (List.tail (d :: q))).cps.toList = q := rfl
            rw [hs] at h4
            cases q with
            | nil => cases hx
            | cons y q =>
              simp only [Bool.and_eq_true] at h4
              have h5 := List.all_eq_true.mp h4.2 x hx
              exact (ok_dot (c := x) (by unfold okCh; rw [h5, Bool.or_true])).2
end F83

set_option Elab.async false
set_option linter.all false
set_option maxRecDepth 100000
set_option maxHeartbeats 4000000
namespace F83
open PySem PySem.Spec PyProof.Rows L2 Fw
/-! sources of draws -/
def srcO (x y z : Int) : MO := .lst [.int x, .int y, .int z]
/-- M is M0 with a source at a, of at most n stirs -/
def Sr (a : Addr) (n : Nat) (M0 M : Mem) : Prop := ∃ x y z : Int, M = mset M0 a (srcO x y z) ∧ 0 ≤ x ∧ 0 ≤ y ∧ y < 2 ^ 40 ∧ 0 ≤ z ∧ z ≤ n
theorem Sr.more {a : Addr} {n m : Nat} {M0 M : Mem} (s : Sr a n M0 M) (h : n ≤ m) : Sr a m M0 M := let ⟨x, y, z, e, h1, h2, h3, h4, h5⟩ := s; ⟨x, y, z, e, h1, h2, h3, h4, by omega⟩
theorem mset_comm {M : Mem} {a b : Addr} {o u : MO} (h : a ≠ b) : mset (mset M a o) b u = mset (mset M b u) a o := by
  funext c
  unfold mset
  by_cases h1 : c = b
  · subst h1; rw [if_pos rfl, if_neg (Ne.symm h), if_pos rfl]
  · by_cases h2 : c = a
    · subst h2; simp [h1]
    · simp [h1, h2]
theorem mset_mset {M : Mem} {a : Addr} {o u : MO} : mset (mset M a o) a u = mset M a u := by
  funext c; unfold mset; split <;> rfl
theorem mset_id {M : Mem} {a : Addr} {o : MO} (h : M a = some o) : mset M a o = M := by
  funext c
  unfold mset
  by_cases h1 : c = a
  · subst h1; rw [if_pos rfl, h]
  · rw [if_neg h1]
theorem Sr.set {a p : Addr} {n : Nat} {M0 M : Mem} {o : MO} (s : Sr a n M0 M) (h : p ≠ a) : Sr a n (mset M0 p o) (mset M p o) := by
  obtain ⟨x, y, z, rfl, r⟩ := s
  exact ⟨x, y, z, mset_comm (Ne.symm h), r⟩
theorem Sr.get {a p : Addr} {n : Nat} {M0 M : Mem} (s : Sr a n M0 M) (h : p ≠ a) : M p = M0 p := by
  obtain ⟨x, y, z, rfl, _⟩ := s
  exact mset_ne h
theorem Sr.new {a p : Addr} {n : Nat} {M0 M : Mem} (s : Sr a n M0 M) (h : M p = none) : p ≠ a ∧ M0 p = none := by
  obtain ⟨x, y, z, rfl, _⟩ := s
  by_cases e : p = a
  · subst e; rw [mset_same] at h; cases h
  · exact ⟨e, by rwa [mset_ne e] at h⟩
def sp_stir : DSp := fun ds M Q => ∃ x y : Int, ds = [.int x, .int y] ∧ 0 ≤ x ∧ x < 2 ^ 40 ∧ 0 ≤ y ∧ y < 2 ^ 30 ∧ ∀ i, 0 ≤ i → Q (.int i) M
theorem stir_ok : ∀ ds M Q, sp_stir ds M Q → w__law_stir (ends Q) (startD 3 ds) M := by
  rintro ds M Q ⟨x, y, rfl, hx, hx2, hy, hy2, q⟩
  unfold w__law_stir
  simp [-Bool.exists_bool]
  have p1 := Int.emod_nonneg (x * 7681 + y * 104711 + 31) (b := 2147483647) (by decide)
  have p2 := Int.emod_lt_of_pos (x * 7681 + y * 104711 + 31) (b := 2147483647) (by decide)
  generalize (x * 7681 + y * 104711 + 31) % 2147483647 = u at p1 p2
  have p3 := Int.emod_nonneg (u * u + 12289 * y + 5) (b := 2147483629) (by decide)
  have p4 := Int.emod_lt_of_pos (u * u + 12289 * y + 5) (b := 2147483629) (by decide)
  generalize (u * u + 12289 * y + 5) % 2147483629 = v at p3 p4
  have p5 := Int.emod_nonneg (v * v + x + 786433) (b := 2147483587) (by decide)
  refine ⟨.inl ⟨by omega, by omega⟩, .inl ⟨by omega, by omega⟩, .inl ⟨by omega, by omega⟩, .inl ⟨by omega, by omega⟩, .inl ⟨by omega, by omega⟩, ⟨by decide, by decide⟩, drops_of (q _ ?_)⟩
  omega
def sp_source : DSp := fun ds M Q => ∃ (ns : List Int) (k : Nat), ds = [.fl (ns.map D.int), .int k] ∧ k ≤ 10 ∧ ∀ p M', M p = none → Sr p 0 M M' → Q (.ref p) M'
theorem source_ok : ∀ ds M Q, sp_source ds M Q → w__law_source (ends Q) (startD 3 ds) M := by
  rintro ds M Q ⟨ns, k, rfl, hk, q⟩
  unfold w__law_source
  have cp : CPow 10 18 := ⟨by decide, by decide, by decide⟩
  simp only [sq_eq]
  have fin : ∀ i : Int, (sq (wIf (wB (wBin dGe (wVar 2) (wBin dPow (wC (.int 10)) (wC (.int 18))))) (wRet (wLst (wCons (wBin dSub (wVar 2) (wBin dPow (wC (.int 10)) (wC (.int 18)))) (wCons (wBin dAdd (wVar 1) (wC (.int 1))) (wCons (wC (.int 0)) wNil))))) wNext)
    (wRet (wLst (wCons (wC (.int 0)) (wCons (wBin dAdd (wBin dAdd (wBin dMul (wBin dMod (wCall dInt1 (wCons (wCall dAbs (wCons (wVar 2) wNil)) wNil)) (wC (.int 1999999973))) (wC (.int 61))) (wVar 1)) (wC (.int 1))) (wCons (wC (.int 0)) wNil)))))) (ends Q) [some (.fl (ns.map D.int)), some (.int k), some (.int i)] M := by
    intro i
    rw [sq1]
    simp [-Bool.exists_bool, cp]
    by_cases h : (1000000000000000000 : Int) ≤ i
    · rw [if_pos h]
      exact ⟨by rw [sizeLine_eq]; decide, fun p hp => drops_of (q p _ hp ⟨_, _, _, rfl, by omega, by omega, by omega, by omega, by omega⟩)⟩
    · rw [if_neg h]
      have h1 := Int.emod_nonneg (if i < 0 then -i else i) (b := 1999999973) (by decide)
      have h2 := Int.emod_lt_of_pos (if i < 0 then -i else i) (b := 1999999973) (by decide)
      exact ⟨.inl ⟨by omega, by omega⟩, by rw [sizeLine_eq]; decide, fun p hp => drops_of (q p _ hp ⟨_, _, _, rfl, by omega, by omega, by omega, by omega, by omega⟩)⟩
  rw [sq1]
  simp [-Bool.exists_bool]
  rw [sq1]
  simp [-Bool.exists_bool]
  by_cases h : k < ns.length
  · rw [if_pos h]
    exact ⟨.int ns[k], at_nat (by rw [List.getElem?_map, List.getElem?_eq_getElem h]; rfl), fin _⟩
  · rw [if_neg h]
    exact fin 0
def sp_take : DSp := fun ds M Q => ∃ (a : Addr) (n m : Nat) (M0 : Mem), ds = [.ref a, .int m] ∧ Sr a n M0 M ∧ n < 1000000 ∧ 1 ≤ m ∧ m ≤ 1000000 ∧ ∀ (d : Nat) M', d < m → Sr a (n + 1) M0 M' → Q (.int d) M'
theorem take_use {a : Addr} {n : Nat} (m : Nat) {M0 M : Mem} {Q : DK} (s : Sr a n M0 M) (q : ∀ (d : Nat) M', d < m → Sr a (n + 1) M0 M' → Q (.int d) M') (h1 : n < 1000000 := by omega) (h2 : 1 ≤ m := by omega) (h3 : m ≤ 1000000 := by omega) : sp_take [.ref a, .int m] M Q := ⟨a, n, m, M0, rfl, s, h1, h2, h3, q⟩
theorem take_ok : ∀ ds M Q, sp_take ds M Q → w__law_take sp_stir (ends Q) (startD 3 ds) M := by
  rintro ds M Q ⟨a, n, m, M0, rfl, ⟨x, y, z, rfl, hx, hy, hy2, hz, hzn⟩, hn, hm, hm2, q⟩
  unfold w__law_take
  have ha : mset M0 a (srcO x y z) a = some (.lst [.int x, .int y, .int z]) := mset_same
  have g0 : L2.atI [D.int x, D.int y, D.int z] 0 = some (.int x) := rfl
  have g2 : L2.atI [D.int x, D.int y, D.int z] 2 = some (.int z) := rfl
  simp [-Bool.exists_bool]
  rw [y_ixL ha, g0]
  simp [-Bool.exists_bool]
  by_cases h : 0 < x
  · rw [if_pos h]
    rw [y_ixL ha, g0]
    simp [-Bool.exists_bool]
    refine ⟨by omega, ?_⟩
    rw [y_ixL ha, g0]
    simp [-Bool.exists_bool]
    refine ⟨⟨by omega, by omega⟩, ?_⟩
    rw [y_putL ha]
    have e1 := Int.emod_nonneg x (b := (m : Int)) (by omega)
    have e2 := Int.emod_lt_of_pos x (b := (m : Int)) (by omega)
    obtain ⟨d, hd⟩ : ∃ d : Nat, x % (m : Int) = d := ⟨(x % (m : Int)).toNat, by omega⟩
    refine ⟨0, 0, rfl, rfl, ?_⟩
    rw [hd, mset_mset]
    exact drops_of (q d _ (by omega) ⟨_, y, z, rfl, Int.ediv_nonneg hx (by omega), hy, hy2, hz, by omega⟩)
  · rw [if_neg h]
    rw [y_ixL ha, g2]
    simp [-Bool.exists_bool]
    rw [y_putL ha]
    refine ⟨2, 2, rfl, rfl, ?_⟩
    have ha' : mset (mset M0 a (srcO x y z)) a (.lst ([D.int x, D.int y, D.int z].set 2 (.int (z + 1)))) a = some (.lst [.int x, .int y, .int (z + 1)]) := mset_same
    have g1' : L2.atI [D.int x, D.int y, D.int (z + 1)] 1 = some (.int y) := rfl
    have g2' : L2.atI [D.int x, D.int y, D.int (z + 1)] 2 = some (.int (z + 1)) := rfl
    rw [y_ixL ha', g1']
    simp only [Option.some.injEq, exists_eq_left']
    rw [y_ixL ha', g2']
    simp [-Bool.exists_bool]
    refine ⟨y, z + 1, rfl, hy, by omega, by omega, by omega, fun i hi => ?_⟩
    simp [-Bool.exists_bool]
    have e1 := Int.emod_nonneg i (b := (m : Int)) (by omega)
    have e2 := Int.emod_lt_of_pos i (b := (m : Int)) (by omega)
    obtain ⟨d, hd⟩ : ∃ d : Nat, i % (m : Int) = d := ⟨(i % (m : Int)).toNat, by omega⟩
    refine ⟨by omega, ?_⟩
    rw [hd, mset_mset]
    exact drops_of (q d _ (by omega) ⟨x, y, z + 1, rfl, hx, hy, hy2, by omega, by omega⟩)
end F83

set_option Elab.async false
set_option linter.all false
set_option maxRecDepth 100000
set_option maxHeartbeats 4000000
namespace F83
open PySem PySem.Spec PyProof.Rows L2 Fw
theorem Sr.del {a p : Addr} {n : Nat} {M0 M : Mem} {o : MO} (s : Sr a n (mset M0 p o) M) (h : p ≠ a) (h0 : M0 p = none) : ∃ M1, M = mset M1 p o ∧ M1 p = none ∧ Sr a n M0 M1 := by
  obtain ⟨x, y, z, rfl, r⟩ := s
  exact ⟨mset M0 a (srcO x y z), mset_comm h, by rw [mset_ne h]; exact h0, x, y, z, rfl, r⟩
theorem Sr.upd {a p : Addr} {n : Nat} {M0 M : Mem} {o u : MO} (s : Sr a n (mset M0 p o) M) (h : p ≠ a) : Sr a n (mset M0 p u) (mset M p u) := by
  have := s.set (o := u) h
  rwa [mset_mset] at this
theorem Sr.at {a p : Addr} {n : Nat} {M0 M : Mem} {o : MO} (s : Sr a n (mset M0 p o) M) (h : p ≠ a) : M p = some o := by rw [s.get h]; exact mset_same
/-- a local list is given back -/
theorem Sr.ret {a p : Addr} {n : Nat} {M0 M : Mem} {ds : List D} {Q : DK} (s : Sr a n (mset M0 p (.lst ds)) M) (h : p ≠ a) (h0 : M0 p = none) (q : ∀ M', Sr a n M0 M' → Q (.fl ds) M') : drops Q (.ref p) M := by
  obtain ⟨M1, rfl, n1, s1⟩ := s.del h h0
  exact drops_fl (SubM.new n1) n1 mset_same (q _ s1)
theorem Sr.retD {a p : Addr} {n : Nat} {M0 M : Mem} {kvs : List (D × D)} {t : Tk} {Q : DK} (s : Sr a n (mset M0 p (.dict kvs t)) M) (h : p ≠ a) (h0 : M0 p = none) (q : ∀ M', Sr a n M0 M' → Q (.fd (kvs.map (·.1)) (kvs.map (·.2))) M') : drops Q (.ref p) M := by
  obtain ⟨M1, rfl, n1, s1⟩ := s.del h h0
  exact drops_fd (SubM.new n1) n1 mset_same (q _ s1)
/-- a local thing is forgotten -/
theorem Sr.out {a p : Addr} {n : Nat} {M0 M : Mem} {o : MO} {d : D} {Q : DK} (s : Sr a n (mset M0 p o) M) (h : p ≠ a) (h0 : M0 p = none) (q : ∀ M', Sr a n M0 M' → Q d M') : drops Q d M := by
  obtain ⟨M1, rfl, n1, s1⟩ := s.del h h0
  exact drops_to (SubM.new n1) (q _ s1)

def sp_lat : DSp := fun ds M Q => ∃ (a : Addr) (n : Nat) (M0 : Mem), ds = [.ref a] ∧ Sr a n M0 M ∧ n + 20 < 1000000 ∧ ∀ (z : PySem.Str) (m : Nat) M', Base z m → m ≤ 7 → Sr a (n + 9) M0 M' → Q (.str z) M'
theorem lat_ok : ∀ ds M Q, sp_lat ds M Q → w__law_atom sp_take (ends Q) (startD 4 ds) M := by
  rintro ds M Q ⟨a, n, M0, rfl, hp, hn, q⟩
  have h5 := sz5
  unfold w__law_atom
  have l1 : (Str.ofString "abcdefghijklmnopqrstuvwxyz").length = 26 := by decide
  have l2 : (Str.ofString "0123456789").length = 10 := by decide
  have t1 : (Str.ofString "abcdefghijklmnopqrstuvwxyz").cps.toList.length = 26 := by decide
  have t2 : (Str.ofString "abcdefghijklmnopqrstuvwxyz" ++ Str.ofString "0123456789").cps.toList = lets.cps.toList ++ digs.cps.toList := by
    show TL.tl _ = _
    rw [TL.tl_append]
  simp [-Bool.exists_bool]
  refine take_use 26 hp fun d M1 hd p1 => ?_
  simp [-Bool.exists_bool, -Array.length_toList]
  rw [at_some (by rw [t1]; exact hd)]
  refine ⟨by omega, _, rfl, ?_⟩
  refine ⟨by omega, take_use 4 p1 fun e M2 he p2 => ?_⟩
  obtain ⟨m, hm, hm7⟩ : ∃ m : Nat, L2.atI [D.int 0, D.int 0, D.int 1, D.int 7] (e : Int) = some (.int m) ∧ m ≤ 7 := by
    match e, he with
    | 0, _ => exact ⟨0, rfl, by omega⟩
    | 1, _ => exact ⟨0, rfl, by omega⟩
    | 2, _ => exact ⟨1, rfl, by omega⟩
    | 3, _ => exact ⟨7, rfl, by omega⟩
  simp [-Bool.exists_bool, -Array.length_toList]
  rw [hm]
  refine ⟨_, rfl, ?_⟩
  refine ⟨rg (i := 0) (j := m) (by omega) (by omega), ?_⟩
  have hget : (Str.ofString "abcdefghijklmnopqrstuvwxyz").cps[d]'(by rw [← Array.length_toList, t1]; exact hd) ∈ lets.cps.toList := by
    rw [← Array.getElem_toList]; exact List.getElem_mem _
  have hB : Base ⟨#[(Str.ofString "abcdefghijklmnopqrstuvwxyz").cps[d]'(by rw [← Array.length_toList, t1]; exact hd)]⟩ 0 := ⟨_, [], rfl, hget, fun x hx => by
    rw [List.mem_singleton] at hx
    subst hx
    unfold okCh
    rw [decide_eq_true hget, Bool.true_or], rfl⟩
  refine loop_range (lo := 0) (n := m) (fun i ρ M' => ∃ z x3, ρ = [some (.ref a), some (.str (Str.ofString "abcdefghijklmnopqrstuvwxyz")), some (.str z), x3] ∧ Base z i ∧ Sr a (n + 2 + i) M0 M') ⟨_, none, rfl, hB, p2⟩ ?_ ?_
  · rintro i hi ρ M3 ⟨z, x3, rfl, bz, p3⟩ N hN
    refine ⟨_, _, .refl, .refl, trivial, ?_⟩
    unfold w__law_atom_1
    have lz : z.length = i + 1 := by
      obtain ⟨c, r, e, _, _, hr⟩ := bz
      rw [← len_cps, e]; simp [hr]
    simp [-Bool.exists_bool, -Array.length_toList, l1, l2]
    refine ⟨by omega, take_use 36 p3 fun e M4 he p4 => ?_⟩
    have hlen : (lets.cps.toList ++ digs.cps.toList).length = 36 := by decide
    simp [-Bool.exists_bool, -Array.length_toList, len_app, l1, l2, -Array.toList_append]
    rw [t2, at_some (by rw [hlen]; exact he)]
    refine ⟨by omega, _, rfl, ?_⟩
    have l4 : (⟨#[(lets.cps.toList ++ digs.cps.toList)[e]'(by rw [hlen]; exact he)]⟩ : PySem.Str).length = 1 := rfl
    simp [-Bool.exists_bool, -Array.length_toList, len_app, lz, -Array.toList_append]
    refine ⟨by omega, hN _ _ ⟨_, _, rfl, ?_, p4⟩⟩
    obtain ⟨c, r, ez, hc, hall, hr⟩ := bz
    have hmem : (lets.cps.toList ++ digs.cps.toList)[e]'(by rw [hlen]; exact he) ∈ lets.cps.toList ++ digs.cps.toList := List.getElem_mem _
    refine ⟨c, r ++ [_], by show TL.tl _ = _; rw [TL.tl_append]; show z.cps.toList ++ [_] = _; rw [ez]; rfl, hc, fun x hx => ?_, by simp [hr]⟩
    rw [← List.cons_append, List.mem_append, List.mem_singleton] at hx
    rcases hx with hx | rfl
    · exact hall x hx
    · unfold okCh
      rw [Bool.or_eq_true, decide_eq_true_eq, decide_eq_true_eq]
      exact List.mem_append.mp hmem
  · rintro ρ M3 ⟨z, x3, rfl, bz, p3⟩
    refine ⟨_, _, .refl, .refl, trivial, ?_⟩
    simp [-Bool.exists_bool]
    exact drops_of (q z m _ bz hm7 (p3.more (by omega)))
/-- a name: a base, perhaps with a number -/
def NmOk (z : PySem.Str) : Prop := isAtom z = true ∧ z.length ≤ 20 ∧ ∃ (b : PySem.Str) (m : Nat), Base b m ∧ m ≤ 7 ∧ upTo z = b.cps.toList
theorem base_len {z : PySem.Str} {m : Nat} (h : Base z m) : z.length = m + 1 := by
  obtain ⟨c, r, e, _, _, hr⟩ := h
  rw [← len_cps, e]; simp [hr]
theorem NmOk.base {z : PySem.Str} {m : Nat} (h : Base z m) (hm : m ≤ 7) : NmOk z := ⟨base_plain h hm, by rw [base_len h]; omega, z, m, h, hm, by
  have := base_cut h []
  simp only [List.append_nil, List.takeWhile_nil] at this
  exact this.1⟩
theorem base_up {z : PySem.Str} {n m : Nat} (h : Base z n) (hm : 0 < m) (hm2 : m < 10 ^ 6) : upTo (z ++ Str.ofString "." ++ Str.ofString (toString ((m : Nat) : Int))) = z.cps.toList := by
  obtain ⟨x, t, e, hx, hl, hd⟩ := num_digits 6 m hm2 hm
  have en : TL.tl (Str.ofString (toString ((m : Nat) : Int))) = x :: t := by rw [TL.tl_num, e]
  have ed : TL.tl (Str.ofString ".") = [46] := by decide
  have ey : (z ++ Str.ofString "." ++ Str.ofString (toString ((m : Nat) : Int))).cps.toList = z.cps.toList ++ 46 :: (x :: t) := by
    show TL.tl _ = _
    rw [TL.tl_append, TL.tl_append, en, ed]
    simp
  have hc := base_cut h (46 :: (x :: t))
  unfold upTo; rw [ey, hc.1]; simp
theorem NmOk.num {z : PySem.Str} {m k : Nat} (h : Base z m) (hm : m ≤ 7) (hk : 0 < k) (hk2 : k < 10 ^ 6) : NmOk (z ++ Str.ofString "." ++ Str.ofString (toString ((k : Nat) : Int))) := by
  obtain ⟨g1, g2⟩ := base_num h hm hk hk2
  have ld : (Str.ofString ".").length = 1 := by decide
  exact ⟨g1, by rw [len_app, len_app, base_len h, ld]; omega, z, m, h, hm, base_up h hk hk2⟩
def sp_base : DSp := fun ds M Q => ∃ z : PySem.Str, ds = [.str z] ∧ z.length ≤ 100 ∧ Q (.str (strOf (upTo z))) M
theorem lbase_ok : ∀ ds M Q, sp_base ds M Q → w__law_base (ends Q) (startD 1 ds) M := by
  rintro ds M Q ⟨z, rfl, hz, q⟩
  have h5 := sz5
  unfold w__law_base
  simp [-Bool.exists_bool]
  refine ⟨by decide, by omega, ?_⟩
  rw [part_dot]
  exact ⟨_, rfl, drops_of q⟩
theorem strOf_cps {z : PySem.Str} : strOf z.cps.toList = z := by
  cases z; rfl
def sp_names : DSp := fun ds M Q => ∃ (a : Addr) (n m : Nat) (M0 : Mem), ds = [.ref a, .int m] ∧ Sr a n M0 M ∧ m ≤ 100 ∧ n + 2000 < 1000000 ∧ ∀ (names : List PySem.Str) M', names.length = m → (∀ s ∈ names, NmOk s) → Sr a (n + 12 * m) M0 M' → Q (.fl (names.map D.str)) M'
theorem names_ok : ∀ ds M Q, sp_names ds M Q → w__law_names sp_lat sp_take sp_base (ends Q) (startD 5 ds) M := by
  rintro ds M Q ⟨a, n, m, M0, rfl, sr, hm, hn, q⟩
  have h5 := sz5
  unfold w__law_names
  simp [-Bool.exists_bool]
  intro p hp
  obtain ⟨pa, p0⟩ := sr.new hp
  refine ⟨rg (i := 0) (by omega) (by omega), ?_⟩
  refine loop_range (lo := 0) (n := m) (fun i ρ M' => ∃ names x3 x4, ρ = [some (D.ref a), some (.int m), some (.ref p), x3, x4] ∧ names.length = i ∧ (∀ s ∈ names, NmOk s) ∧ Sr a (n + 12 * i) (mset M0 p (.lst (names.map D.str))) M') ⟨[], none, none, rfl, rfl, by simp, sr.set pa⟩ ?_ ?_
  · rintro i hi ρ M' ⟨names, x3, x4, rfl, hl, hnm, s⟩ N hN
    refine ⟨_, _, .refl, .refl, trivial, ?_⟩
    unfold w__law_names_1
    simp only [sq_eq, y_tg1]
    rw [sq1]
    simp [-Bool.exists_bool]
    refine ⟨a, n + 12 * i, _, rfl, s, by omega, fun z k M1 bz hk s1 => ?_⟩
    have fin : ∀ (y : PySem.Str) M2, NmOk y → Sr a (n + 12 * (i + 1)) (mset M0 p (.lst (names.map D.str))) M2 → (wDrop (wApp (wVar 2) (wVar 4))) { nx := N, rt := drops Q, bk := wRet (wVar 2) (ends Q), ct := N } [some (D.ref a), some (.int m), some (.ref p), some (.int (i : Int)), some (.str y)] M2 := by
      intro y M2 hy s2
      have g := s2.at pa
      simp [-Bool.exists_bool]
      refine ⟨⟨_, g⟩, _, g, by simp [hl]; omega, hN _ _ ⟨names ++ [y], _, _, rfl, by simp [hl], fun t ht => ?_, ?_⟩⟩
      · rw [List.mem_append, List.mem_singleton] at ht
        rcases ht with ht | rfl
        · exact hnm t ht
        · exact hy
      · have := s2.upd (u := .lst ((names ++ [y]).map D.str)) pa
        simpa using this
    have bas : ∀ (y : PySem.Str) (k : Nat) M2, Base y k → k ≤ 7 → Sr a (n + 12 * i + 10) (mset M0 p (.lst (names.map D.str))) M2 →
        (wSet 4 (wBin dAdd (wBin dAdd (wVar 4) (wC (.str "."))) (wCall dStr1 (wCons (wBin dAdd (wC (.int 1)) (wCall sp_take (wCons (wVar 0) (wCons (wBin dIxA (wFl (wCons (wC (.int 9)) (wCons (wC (.int 999999)) wNil))) (wCall sp_take (wCons (wVar 0) (wCons (wC (.int 2)) wNil)))) wNil)))) wNil))))
          { nx := wDrop (wApp (wVar 2) (wVar 4)) { nx := N, rt := drops Q, bk := wRet (wVar 2) (ends Q), ct := N }, rt := drops Q, bk := wRet (wVar 2) (ends Q), ct := N } [some (D.ref a), some (.int m), some (.ref p), some (.int (i : Int)), some (.str y)] M2 := by
      intro y k M2 by_ hk s2
      have ld : (Str.ofString ".").length = 1 := by decide
      simp [-Bool.exists_bool, -y_drop]
      refine ⟨by rw [base_len by_, ld]; omega, by omega, take_use 2 s2 fun e M3 he s3 => ?_⟩
      obtain ⟨top, ht, h1, h2⟩ : ∃ t : Nat, L2.atI [D.int 9, D.int 999999] (e : Int) = some (.int t) ∧ 1 ≤ t ∧ t ≤ 999999 := by
        match e, he with
        | 0, _ => exact ⟨9, rfl, by omega, by omega⟩
        | 1, _ => exact ⟨999999, rfl, by omega, by omega⟩
      simp [-Bool.exists_bool, -y_drop]
      rw [ht]
      refine ⟨_, rfl, take_use top s3 fun f M4 hf s4 => ?_⟩
      have ef : (1 : Int) + (f : Int) = ((1 + f : Nat) : Int) := by omega
      have nm := NmOk.num (k := 1 + f) by_ hk (by omega) (by omega)
      have g3 := (base_num (m := 1 + f) by_ hk (by omega) (by omega)).2
      simp [-Int.natCast_add] at g3
      simp [-Bool.exists_bool, -Int.natCast_add, -y_drop, ef, len_app, base_len by_, ld]
      refine ⟨?_, by omega, fin _ _ nm (s4.more (by omega))⟩
      have h2 : Nat.log2 (1 + f) < 20 := (Nat.log2_lt (by omega)).mpr (by omega)
      omega
    show sq _ _ _ _ _
    rw [sq1]
    simp [-Bool.exists_bool, -y_drop, -y_set]
    refine take_use 3 s1 fun d M2 hd s2 => ?_
    simp [-Bool.exists_bool, -y_drop, -y_set]
    by_cases h0 : d = 0
    · subst h0
      simp [-Bool.exists_bool, -y_drop, -y_set]
      rw [sq1]
      by_cases hi0 : i = 0
      · subst hi0
        simp [-Bool.exists_bool, -y_drop, -y_set]
        exact bas z k _ bz hk (s2.more (by omega))
      · simp [-Bool.exists_bool, -y_drop, -y_set, show 0 < i by omega]
        rw [y_set]
        simp [-Bool.exists_bool, -y_drop, -y_set]
        rw [y_ixL (s2.at pa)]
        obtain ⟨n0, h0⟩ : ∃ n0, names[0]? = some n0 := ⟨_, List.getElem?_eq_getElem (by omega)⟩
        obtain ⟨ok1, ok2, b, kb, hb, hkb, eb⟩ := hnm n0 (List.mem_of_getElem? h0)
        refine ⟨.str n0, at_nat (n := 0) (by rw [List.getElem?_map, h0]; rfl), n0, rfl, by omega, ?_⟩
        rw [eb, strOf_cps]
        exact bas b kb _ hb hkb (s2.more (by omega))
    · simp [-Bool.exists_bool, -y_drop, h0]
      exact fin z _ (.base bz hk) (s2.more (by omega))
  · rintro ρ M' ⟨names, x3, x4, rfl, hl, hnm, s⟩
    refine ⟨_, _, .refl, .refl, trivial, ?_⟩
    simp [-Bool.exists_bool]
    exact s.ret pa p0 fun M'' s' => q names _ hl hnm s'
end F83

set_option Elab.async false
set_option linter.all false
set_option maxRecDepth 100000
set_option maxHeartbeats 4000000
namespace F83
open PySem PySem.Spec PyProof.Rows L2 Fw
@[simp] theorem at_0 {x : D} {xs : List D} : L2.atI (x :: xs) 0 = some x := by
  have := at_nat (l := x :: xs) (n := 0) (a := x) rfl
  exact this
@[simp] theorem at_1 {x y : D} {xs : List D} : L2.atI (x :: y :: xs) 1 = some y := at_nat (l := x :: y :: xs) (n := 1) rfl
@[simp] theorem at_2 {x y z : D} {xs : List D} : L2.atI (x :: y :: z :: xs) 2 = some z := at_nat (l := x :: y :: z :: xs) (n := 2) rfl
@[simp] theorem at_3 {x y z u : D} {xs : List D} : L2.atI (x :: y :: z :: u :: xs) 3 = some u := at_nat (l := x :: y :: z :: u :: xs) (n := 3) rfl
@[simp] theorem at_4 {x y z u v : D} {xs : List D} : L2.atI (x :: y :: z :: u :: v :: xs) 4 = some v := at_nat (l := x :: y :: z :: u :: v :: xs) (n := 4) rfl
@[simp] theorem at_5 {x y z u v w : D} {xs : List D} : L2.atI (x :: y :: z :: u :: v :: w :: xs) 5 = some w := at_nat (l := x :: y :: z :: u :: v :: w :: xs) (n := 5) rfl
@[simp] theorem y_isiK {k : Kd} {T : Ty} {M : Mem} : isiD T (encK k) M = some (match k with
  | .at _ => tyLe "str" T
  | .op _ _ _ => tyLe "tuple" T) := by cases k <;> rfl
/-! drawn kinds -/
def KdN (names : List PySem.Str) : Kd → Prop
  | .at a => a ∈ names
  | .op s l r => (s = over ∨ s = under ∨ s = star) ∧ KdN names l ∧ KdN names r
def Kd.cnt : Kd → Nat
  | .at _ => 1
  | .op _ l r => l.cnt + r.cnt
theorem cnt_pos : ∀ k : Kd, 1 ≤ k.cnt
  | .at _ => Nat.le_refl _
  | .op _ l r => by have := cnt_pos l; show 1 ≤ l.cnt + r.cnt; omega
theorem dep_cnt : ∀ k : Kd, k.dep < k.cnt
  | .at _ => Nat.zero_lt_one
  | .op _ l r => by
    have h1 := dep_cnt l
    have h2 := dep_cnt r
    have h3 := cnt_pos l
    have h4 := cnt_pos r
    show max l.dep r.dep + 1 < l.cnt + r.cnt
    omega
def Kd.lv : Kd → List PySem.Str
  | .at a => [a]
  | .op _ l r => l.lv ++ r.lv
theorem lv_len : ∀ k : Kd, k.lv.length = k.cnt
  | .at _ => rfl
  | .op _ l r => by show (l.lv ++ r.lv).length = l.cnt + r.cnt; rw [List.length_append, lv_len l, lv_len r]
theorem lv_in {names : List PySem.Str} : ∀ k : Kd, KdN names k → ∀ s ∈ k.lv, s ∈ names
  | .at a, h, s, hs => by
    have : s = a := List.mem_singleton.mp hs
    rw [this]; exact h
  | .op _ l r, ⟨_, h1, h2⟩, s, hs => by
    rcases List.mem_append.mp hs with hs | hs
    · exact lv_in l h1 s hs
    · exact lv_in r h2 s hs
def sp_size (N : Nat) : DSp := fun ds M Q => ∃ k : Kd, ds = [encK k] ∧ k.dep < N ∧ Q (.int k.cnt) M
theorem size_ok (N : Nat) : ∀ ds M Q, sp_size (N + 1) ds M Q → w__law_size (sp_size N) (ends Q) (startD 1 ds) M := by
  rintro ds M Q ⟨k, rfl, hk, q⟩
  unfold w__law_size
  cases k with
  | «at» a => simp [-Bool.exists_bool]; exact drops_of q
  | op s l r =>
    have hk : max l.dep r.dep + 1 < N + 1 := hk
    simp [-Bool.exists_bool, encK]
    refine ⟨l, rfl, by omega, ?_⟩
    simp [-Bool.exists_bool]
    refine ⟨r, rfl, by omega, ?_⟩
    have q : Q (.int ((l.cnt + r.cnt : Nat) : Int)) M := q
    simp at q ⊢
    exact drops_of q
def sp_leaves (N : Nat) : DSp := fun ds M Q => ∃ k : Kd, ds = [encK k] ∧ k.dep < N ∧ k.cnt ≤ 1000 ∧ Q (.fl (k.lv.map D.str)) M
theorem leaves_ok (N : Nat) : ∀ ds M Q, sp_leaves (N + 1) ds M Q → w__law_leaves (sp_leaves N) (ends Q) (startD 1 ds) M := by
  rintro ds M Q ⟨k, rfl, hk, hz, q⟩
  have h5 := sz5
  unfold w__law_leaves
  cases k with
  | «at» a => simp [-Bool.exists_bool]; exact ⟨by omega, drops_of q⟩
  | op s l r =>
    have hk : max l.dep r.dep + 1 < N + 1 := hk
    have hz : l.cnt + r.cnt ≤ 1000 := hz
    simp [-Bool.exists_bool, encK]
    refine ⟨l, rfl, by omega, by omega, ?_⟩
    simp [-Bool.exists_bool]
    refine ⟨r, rfl, by omega, by omega, ?_⟩
    have q : Q (.fl ((l.lv ++ r.lv).map D.str)) M := q
    simp [lv_len] at q ⊢
    exact ⟨by omega, drops_of q⟩
/-- all leaves of a line, as a list that may be changed -/
def lvS (ks : List Kd) (g : Kd) : List PySem.Str := (ks ++ [g]).flatMap Kd.lv
def tot (ks : List Kd) (g : Kd) : Nat := ((ks ++ [g]).map Kd.cnt).sum
theorem flat_lv : ∀ ks : List Kd, (ks.flatMap Kd.lv).length = (ks.map Kd.cnt).sum
  | [] => rfl
  | k :: ks => by rw [List.flatMap_cons, List.length_append, lv_len, flat_lv ks]; simp
theorem sum_mem {k : Kd} : ∀ {ks : List Kd}, k ∈ ks → k.cnt ≤ (ks.map Kd.cnt).sum
  | x :: xs, h => by
    rcases List.mem_cons.mp h with rfl | h
    · simp
    · have := sum_mem h; simp; omega
def sp_spots (N : Nat) : DSp := fun ds M Q => ∃ (ks : List Kd) (g : Kd), ds = [encS ks g] ∧ (∀ k ∈ ks ++ [g], k.dep < N) ∧ tot ks g ≤ 1000 ∧ ks.length ≤ 1000 ∧ ∀ p, M p = none → Q (.ref p) (mset M p (.lst ((lvS ks g).map D.str)))
theorem spots_ok (N : Nat) : ∀ ds M Q, sp_spots N ds M Q → w__law_spots (sp_leaves N) (ends Q) (startD 3 ds) M := by
  rintro ds M Q ⟨ks, g, rfl, hd, ht, hl, q⟩
  have h5 := sz5
  unfold w__law_spots
  simp [-Bool.exists_bool, encS]
  intro p0 hp0
  refine ⟨by omega, ?_⟩
  rw [show List.map encK ks ++ [encK g] = (ks ++ [g]).map encK by simp]
  refine ⟨by omega, ?_⟩
  refine loop_map (xs := ks ++ [g]) encK (fun done ρ M' => ∃ p x2, ρ = [some (encS ks g), some (.ref p), x2] ∧ M p = none ∧ SubM (mset M p (.lst ((done.flatMap Kd.lv).map D.str))) M') ⟨p0, none, rfl, hp0, .refl⟩ ?_ ?_
  · rintro done k rest hx ρ M' ⟨p, x2, rfl, hp, s⟩ N2 hN
    refine ⟨_, _, .refl, .refl, trivial, ?_⟩
    unfold w__law_spots_1
    have hk : k ∈ ks ++ [g] := by rw [hx]; simp
    have hc := sum_mem hk
    have hsum : ((done.map Kd.cnt).sum) + k.cnt ≤ tot ks g := by
      unfold tot; rw [hx]; simp
      try omega
    have hM := s p _ mset_same
    simp [-Bool.exists_bool]
    refine ⟨k, rfl, hd k hk, by omega, ?_⟩
    refine ⟨_, _, y_readR hM, rfl, by rw [List.length_map, flat_lv, List.length_map, lv_len]; omega, fun p' hp' => hN _ _ ⟨p', _, rfl, ?_, ?_⟩⟩
    · have := s.none hp'
      by_cases e : p' = p
      · rw [e] at hp'; rw [hM] at hp'; cases hp'
      · rwa [mset_ne e] at this
    · have e : p' ≠ p := fun e => by rw [e, hM] at hp'; cases hp'
      have s2 : SubM M (mset M' p' (.lst ((done.flatMap Kd.lv).map D.str ++ k.lv.map D.str))) := ((SubM.new hp).trans s).set (((SubM.new hp).trans s).none hp')
      have := s2.to (p := p') mset_same
      rwa [show ((done ++ [k]).flatMap Kd.lv).map D.str = (done.flatMap Kd.lv).map D.str ++ k.lv.map D.str by simp]
  · rintro ρ M' ⟨p, x2, rfl, hp, s⟩
    refine ⟨_, _, .refl, .refl, trivial, ?_⟩
    simp [-Bool.exists_bool]
    exact drops_to s (q p hp)
def sp_bush (N : Nat) : DSp := fun ds M Q => ∃ (a : Addr) (n sz : Nat) (names : List PySem.Str) (M0 : Mem), ds = [.ref a, .fl (names.map D.str), .int sz] ∧ Sr a n M0 M ∧ names ≠ [] ∧ names.length ≤ 1000 ∧ 1 ≤ sz ∧ sz < N ∧ sz ≤ 1000 ∧ n + 3 * sz < 900000 ∧
  ∀ (k : Kd) M', KdN names k → k.cnt = sz → Sr a (n + (3 * sz - 2)) M0 M' → Q (encK k) M'
theorem sign_at {e : Nat} (h : e < 3) : ∃ c, L2.atI (Str.ofString "/>*").cps.toList (e : Int) = some c ∧ ((⟨#[c]⟩ : PySem.Str) = over ∨ (⟨#[c]⟩ : PySem.Str) = under ∨ (⟨#[c]⟩ : PySem.Str) = star) := by
  match e, h with
  | 0, _ => exact ⟨47, by decide, .inl (by decide)⟩
  | 1, _ => exact ⟨62, by decide, .inr (.inl (by decide))⟩
  | 2, _ => exact ⟨42, by decide, .inr (.inr (by decide))⟩
theorem bush_use {N : Nat} {a : Addr} {n : Nat} (sz : Nat) {names : List PySem.Str} {M0 M : Mem} {Q : DK} {d : D} (s : Sr a n M0 M) (q : ∀ (k : Kd) M', KdN names k → k.cnt = sz → Sr a (n + (3 * sz - 2)) M0 M' → Q (encK k) M') (hd : d = .int sz) (h1 : names ≠ []) (h2 : names.length ≤ 1000) (h3 : 1 ≤ sz ∧ sz < N ∧ sz ≤ 1000 ∧ n + 3 * sz < 900000) : sp_bush N [.ref a, .fl (names.map D.str), d] M Q :=
  ⟨a, n, sz, names, M0, by rw [hd], s, h1, h2, h3.1, h3.2.1, h3.2.2.1, h3.2.2.2, q⟩
theorem bush_ok (N : Nat) : ∀ ds M Q, sp_bush (N + 1) ds M Q → w__law_bush sp_take (sp_bush N) (ends Q) (startD 6 ds) M := by
  rintro ds M Q ⟨a, n, sz, names, M0, rfl, sr, hne, hnl, h1, h2, h3, h4, q⟩
  have h5 := sz5
  have hnp : 0 < names.length := List.length_pos_iff.mpr hne
  unfold w__law_bush
  simp [-Bool.exists_bool]
  by_cases hs : sz = 1
  · subst hs
    simp [-Bool.exists_bool]
    refine take_use names.length sr fun d M1 hd s1 => ?_
    simp [-Bool.exists_bool]
    exact ⟨.str names[d], at_nat (by rw [List.getElem?_map, List.getElem?_eq_getElem hd]; rfl), drops_of (q (.at names[d]) _ (List.getElem_mem _) rfl s1)⟩
  · rw [if_neg (by omega)]
    rw [show ((sz : Int) - 1) = ((sz - 1 : Nat) : Int) by omega]
    refine take_use (sz - 1) sr fun d M1 hd s1 => ?_
    simp [-Bool.exists_bool]
    refine take_use 3 s1 fun e M2 he s2 => ?_
    obtain ⟨c, hc, hs3⟩ := sign_at he
    have l3 : (Str.ofString "/>*").length = 3 := by decide
    simp [-Bool.exists_bool, hc, l3]
    refine ⟨by omega, bush_use (1 + d) s2 (fun k1 M3 kn1 kc1 s3 => ?_) (by simp) hne hnl (by omega)⟩
    refine bush_use (sz - (1 + d)) s3 (fun k2 M4 kn2 kc2 s4 => ?_) (by congr 1; omega) hne hnl (by omega)
    exact ⟨by omega, drops_of (q (.op ⟨#[c]⟩ k1 k2) _ ⟨hs3, kn1, kn2⟩ (by show k1.cnt + k2.cnt = sz; omega) (s4.more (by omega)))⟩
/-- a drawn line -/
def LnN (names : List PySem.Str) (ks : List Kd) (g : Kd) : Prop := ∀ k ∈ ks ++ [g], KdN names k
def sp_bushes : DSp := fun ds M Q => ∃ (a : Addr) (n many cap most : Nat) (names : List PySem.Str) (M0 : Mem), ds = [.ref a, .fl (names.map D.str), .int many, .int cap, .int most] ∧ Sr a n M0 M ∧ names ≠ [] ∧ names.length ≤ 1000 ∧ many ≤ 10 ∧ 1 ≤ cap ∧ cap ≤ 20 ∧ most ≤ 1000 ∧ n < 800000 ∧
  ∀ ks g M', ks.length = many → LnN names ks g → (∀ k ∈ ks ++ [g], k.cnt ≤ cap) → Sr a (n + 1000) M0 M' → Q (encS ks g) M'
theorem bushes_ok : ∀ ds M Q, sp_bushes ds M Q → w__law_bushes sp_take (sp_bush 30) (ends Q) (startD 9 ds) M := by
  rintro ds M Q ⟨a, n, many, cap, most, names, M0, rfl, sr, hne, hnl, hm, hc1, hc2, hmo, hn, q⟩
  have h5 := sz5
  unfold w__law_bushes
  simp [-Bool.exists_bool]
  intro p hp
  obtain ⟨pa, p0⟩ := sr.new hp
  refine ⟨by unfold RgOk2; omega, ?_⟩
  refine loop_range (lo := 0) (n := many + 1) (fun i ρ M' => ∃ (ks : List Kd) (left : Int) (x7 x8 : Option D), ρ = [some (D.ref a), some (.fl (names.map D.str)), some (.int many), some (.int cap), some (.int most), some (.ref p), some (.int left), x7, x8] ∧ ks.length = i ∧ left ≤ most ∧ (-1000 ≤ left + 30 * (i : Int)) ∧ (∀ k ∈ ks, KdN names k ∧ k.cnt ≤ cap) ∧ Sr a (n + 61 * i) (mset M0 p (.lst (ks.map encK))) M') ⟨[], most, none, none, rfl, rfl, by omega, by omega, by simp, sr.set pa⟩ ?_ ?_
  · rintro i hi ρ M' ⟨ks, left, x7, x8, rfl, hl, hl1, hl2, hk, s⟩ N hN
    refine ⟨_, _, .refl, .refl, trivial, ?_⟩
    unfold w__law_bushes_1
    simp [-Bool.exists_bool]
    obtain ⟨tp, ht, ht1, ht2⟩ : ∃ tp : Nat, max 1 (min (cap : Int) (left - (many : Int) + (i : Int))) = tp ∧ 1 ≤ tp ∧ tp ≤ cap := ⟨(max 1 (min (cap : Int) (left - (many : Int) + (i : Int)))).toNat, by omega, by omega, by omega⟩
    rw [ht]
    refine take_use tp s fun d M1 hd s1 => ?_
    simp [-Bool.exists_bool]
    have g1 := s1.at pa
    refine ⟨⟨_, g1⟩, bush_use (1 + d) s1 (fun k M2 kn kc s2 => ?_) (by simp) hne hnl (by omega)⟩
    have g2 := s2.at pa
    refine ⟨_, g2, by simp [hl]; omega, hN _ _ ⟨ks ++ [k], _, _, _, rfl, by simp [hl], by omega, by omega, fun x hx => ?_, ?_⟩⟩
    · rw [List.mem_append, List.mem_singleton] at hx
      rcases hx with hx | rfl
      · exact hk x hx
      · exact ⟨kn, by omega⟩
    · have := s2.upd (u := .lst ((ks ++ [k]).map encK)) pa
      simp at this ⊢
      exact this.more (by omega)
  · rintro ρ M' ⟨ks, left, x7, x8, rfl, hl, hl1, hl2, hk, s⟩
    refine ⟨_, _, .refl, .refl, trivial, ?_⟩
    have g := s.at pa
    cases ks with
    | nil => simp at hl
    | cons g0 ks =>
      simp [-Bool.exists_bool]
      show dSl (.ref p) _ _ M' _
      unfold dSl
      simp only [g]
      rw [show cutD (List.map encK (g0 :: ks)) (some 1) none = ks.map encK from (cut_from (n := 1)).trans (by simp)]
      simp [-Bool.exists_bool]
      rw [y_ixL g]
      simp [-Bool.exists_bool]
      refine ⟨by omega, s.out pa p0 fun M'' s' => q ks g0 _ (by simpa using hl) (fun k hk' => (hk k ?_).1) (fun k hk' => (hk k ?_).2) (s'.more (by omega))⟩
      · simp at hk' ⊢; exact hk'.symm
      · simp at hk' ⊢; exact hk'.symm
end F83

set_option Elab.async false
set_option linter.all false
set_option maxRecDepth 100000
set_option maxHeartbeats 4000000
namespace F83
open PySem PySem.Spec PyProof.Rows L2 Fw
@[simp] theorem y_ixS0 {ks : List Kd} {g : Kd} {M : Mem} {Q : DK} : dIxA (encS ks g) (.int 0) M Q = Q (.tup (ks.map encK)) M := by simp [encS]
@[simp] theorem y_ixS1 {ks : List Kd} {g : Kd} {M : Mem} {Q : DK} : dIxA (encS ks g) (.int 1) M Q = Q (encK g) M := by simp [encS]
@[simp] theorem cut_head {xs : List D} {x : D} : Fw.cutD (x :: xs) (some 1) none = xs := (cut_from (n := 1)).trans (by simp)
theorem at_mid {α : Type} {us vs : List α} {x : α} : L2.atI (us ++ x :: vs) (us.length : Int) = some x := at_nat (by simp)
theorem cut_l {us vs : List D} {n : Nat} (h : n = us.length) : Fw.cutD (us ++ vs) none (some (n : Int)) = us := by rw [cut_to, h]; simp
theorem cut_r {us vs : List D} {n : Nat} (h : n = us.length) : Fw.cutD (us ++ vs) (some (n : Int)) none = vs := by rw [cut_from, h]; simp
theorem cut_r1 {us vs : List D} {x : D} {n : Nat} (h : n = us.length + 1) : Fw.cutD (us ++ x :: vs) (some (n : Int)) none = vs := by
  have e : us ++ x :: vs = (us ++ [x]) ++ vs := by simp
  rw [e]; exact cut_r (by simp [h])
theorem cut_r2 {us vs : List D} {x y : D} {n : Nat} (h : n = us.length + 2) : Fw.cutD (us ++ x :: y :: vs) (some (n : Int)) none = vs := by
  have e : us ++ x :: y :: vs = (us ++ [x, y]) ++ vs := by simp
  rw [e]; exact cut_r (by simp [h])
/-! refilled lines -/
def sp_poured (N : Nat) : DSp := fun ds M Q => ∃ (k : Kd) (r : Addr) (ys zs nm nm0 : List PySem.Str), ds = [encK k, .ref r] ∧ k.dep < N ∧ KdN nm0 k ∧ M r = some (.lst ((ys ++ zs).map D.str)) ∧ zs.length = k.cnt ∧ (∀ z ∈ zs, z ∈ nm) ∧
  ∀ k', KdN nm k' → k'.cnt = k.cnt → Q (encK k') (mset M r (.lst (ys.map D.str)))
theorem poured_ok (N : Nat) : ∀ ds M Q, sp_poured (N + 1) ds M Q → w__law_poured (sp_poured N) (ends Q) (startD 3 ds) M := by
  rintro ds M Q ⟨k, r, ys, zs, nm, nm0, rfl, hd, hk, hr, hz, hin, q⟩
  have h5 := sz5
  unfold w__law_poured
  cases k with
  | «at» a =>
    match zs, hz with
    | [z], _ =>
      simp [-Bool.exists_bool]
      exact ⟨ys.map D.str, .str z, by rw [hr]; simp, drops_of (q (.at z) (hin z (by simp)) rfl)⟩
  | op s l rr =>
    have hd : max l.dep rr.dep + 1 < N + 1 := hd
    have hz : zs.length = l.cnt + rr.cnt := hz
    obtain ⟨hs, k1, k2⟩ := hk
    have e1 : ys ++ zs = (ys ++ zs.take rr.cnt) ++ zs.drop rr.cnt := by rw [List.append_assoc, List.take_append_drop]
    simp [-Bool.exists_bool, encK]
    refine ⟨l, r, ys ++ zs.take rr.cnt, zs.drop rr.cnt, nm, nm0, rfl, by omega, k1, by rw [hr, e1], by rw [List.length_drop]; omega, fun z hz => hin z (List.mem_of_mem_drop hz), fun l' kl cl => ?_⟩
    simp [-Bool.exists_bool]
    refine ⟨rr, r, ys, zs.take rr.cnt, nm, nm0, rfl, by omega, k2, by rw [mset_same]; simp, by rw [List.length_take]; omega, fun z hz => hin z (List.mem_of_mem_take hz), fun r' kr cr => ?_⟩
    rw [mset_mset]
    exact ⟨by omega, drops_of (q (.op s l' r') ⟨hs, kl, kr⟩ (by show l'.cnt + r'.cnt = l.cnt + rr.cnt; omega))⟩
def sp_refilled (N : Nat) : DSp := fun ds M Q => ∃ (ks : List Kd) (g : Kd) (p : Addr) (zs nm nm0 : List PySem.Str), ds = [encS ks g, .ref p] ∧ (∀ k ∈ ks ++ [g], k.dep < N) ∧ LnN nm0 ks g ∧ ks.length ≤ 1000 ∧ M p = some (.lst (zs.map D.str)) ∧ zs.length = tot ks g ∧ (∀ z ∈ zs, z ∈ nm) ∧
  ∀ ks' g', LnN nm ks' g' → ks'.map Kd.cnt = ks.map Kd.cnt → g'.cnt = g.cnt → Q (encS ks' g') M
theorem refilled_ok (N : Nat) : ∀ ds M Q, sp_refilled N ds M Q → w__law_refilled (sp_poured N) (ends Q) (startD 5 ds) M := by
  rintro ds M Q ⟨ks, g, p, zs, nm, nm0, rfl, hd, hln, hl, hp, hz, hin, q⟩
  have h5 := sz5
  unfold w__law_refilled
  simp [-Bool.exists_bool, encS]
  refine ⟨_, y_readR hp, fun r hr p2 hp2 => ?_⟩
  have n2 : r ≠ p2 := fun e => by rw [e, mset_same] at hp2; cases hp2
  have hp2' : M p2 = none := by rwa [mset_ne n2.symm] at hp2
  have ht : zs.length = (ks.map Kd.cnt).sum + g.cnt := by rw [hz]; unfold tot; simp
  refine loop_map (xs := ks) encK (fun done ρ M' => ∃ ks' us x4, ρ = [some (encS ks g), some (.ref p), some (.ref r), some (.ref p2), x4] ∧ ks'.map Kd.cnt = done.map Kd.cnt ∧ (∀ k ∈ ks', KdN nm k) ∧ us.length + (done.map Kd.cnt).sum = zs.length ∧ (∀ z ∈ us, z ∈ nm) ∧ SubM M M' ∧ M' r = some (.lst (us.map D.str)) ∧ M' p2 = some (.lst (ks'.map encK)))
    ⟨[], zs.reverse, none, rfl, rfl, by simp, by simp, fun z hz => hin z (by simpa using hz), (SubM.new hr).trans (SubM.new hp2), by rw [mset_ne n2, mset_same, List.map_reverse], mset_same⟩ ?_ ?_
  · rintro done k rest hx ρ M' ⟨ks', us, x4, rfl, hc, hkn, hu, huin, sm, g1, g2⟩ N2 hN
    refine ⟨_, _, .refl, .refl, trivial, ?_⟩
    unfold w__law_refilled_1
    have hks : (ks.map Kd.cnt).sum = (done.map Kd.cnt).sum + (k.cnt + (rest.map Kd.cnt).sum) := by rw [hx]; simp
    have eu : us = us.take (us.length - k.cnt) ++ us.drop (us.length - k.cnt) := (List.take_append_drop _ _).symm
    have hlk : ks'.length = done.length := by simpa using congrArg List.length hc
    have hld : done.length < ks.length := by rw [hx]; simp
    simp [-Bool.exists_bool]
    refine ⟨⟨_, g2⟩, k, r, us.take (us.length - k.cnt), us.drop (us.length - k.cnt), nm, nm0, rfl, hd k (by rw [hx]; simp), hln k (by rw [hx]; simp), by rw [← eu]; exact g1, by rw [List.length_drop]; omega, fun z hz => huin z (List.mem_of_mem_drop hz), fun k' kn kc => ?_⟩
    have g3 : mset M' r (.lst ((us.take (us.length - k.cnt)).map D.str)) p2 = some (.lst (ks'.map encK)) := by rw [mset_ne n2.symm]; exact g2
    refine ⟨_, g3, by simp; omega, hN _ _ ⟨ks' ++ [k'], us.take (us.length - k.cnt), _, rfl, by simp [hc, kc], fun x hx => ?_, by simp; omega, fun z hz => huin z (List.mem_of_mem_take hz), ?_, ?_, ?_⟩⟩
    · rw [List.mem_append, List.mem_singleton] at hx
      rcases hx with hx | rfl
      · exact hkn x hx
      · exact kn
    · intro c o hc
      have c1 : c ≠ r := fun e => by rw [e, hr] at hc; cases hc
      have c2 : c ≠ p2 := fun e => by rw [e, hp2'] at hc; cases hc
      rw [mset_ne c2, mset_ne c1]; exact sm _ _ hc
    · rw [mset_ne n2, mset_same]
    · rw [mset_same]; simp
  · rintro ρ M' ⟨ks', us, x4, rfl, hc, hkn, hu, huin, sm, g1, g2⟩
    refine ⟨_, _, .refl, .refl, trivial, ?_⟩
    simp [-Bool.exists_bool]
    rw [y_tupL g2]
    refine ⟨g, r, [], us, nm, nm0, rfl, hd g (by simp), hln g (by simp), by rw [List.nil_append]; exact g1, by omega, huin, fun g' kn kc => ?_⟩
    refine ⟨by omega, drops_to (M0 := M) ?_ (q ks' g' (fun k hk => ?_) hc kc)⟩
    · intro c o hc
      have c1 : c ≠ r := fun e => by rw [e, hr] at hc; cases hc
      rw [mset_ne c1]; exact sm _ _ hc
    · rw [List.mem_append, List.mem_singleton] at hk
      rcases hk with hk | rfl
      · exact hkn k hk
      · exact kn
/-! rules -/
inductive Stp : PySem.Str → Nat → List (List Kd × Kd) → List Kd → Kd → Nat → Prop
  | overR (L : List Kd) (B A : Kd) (h : L ≠ []) : Stp "over right" 0 [(L ++ [B], A)] L (.op over A B) 0
  | underR (B : Kd) (L : List Kd) (A : Kd) (h : L ≠ []) : Stp "under right" 0 [(B :: L, A)] L (.op under B A) 0
  | pairL (L : List Kd) (A B : Kd) (R : List Kd) (C : Kd) : Stp "pair left" L.length [(L ++ A :: B :: R, C)] ((L ++ [.op star A B]) ++ R) C 0
  | pairR (L : List Kd) (A : Kd) (R : List Kd) (B : Kd) : Stp "pair right" L.length [(L, A), (R, B)] (L ++ R) (.op star A B) 0
  | overL (T : List Kd) (B : Kd) (L : List Kd) (A : Kd) (R : List Kd) (C : Kd) : Stp "over left" L.length [(T, B), (L ++ A :: R, C)] (((L ++ [.op over A B]) ++ T) ++ R) C T.length
  | underL (T : List Kd) (B : Kd) (L : List Kd) (A : Kd) (R : List Kd) (C : Kd) : Stp "under left" (L.length + T.length) [(T, B), (L ++ A :: R, C)] (((L ++ T) ++ [.op under B A]) ++ R) C T.length
def encLn (p : List Kd × Kd) : D := encS p.1 p.2
def sp_below : DSp := fun ds M Q => ∃ (rule : PySem.Str) (at_ w : Nat) (lines : List (List Kd × Kd)) (row : List Kd) (g : Kd), ds = [.str rule, .int at_, .fl (lines.map encLn)] ∧ Stp rule at_ lines row g w ∧ row.length ≤ 1000 ∧ (∀ l ∈ lines, l.1.length ≤ 1000) ∧ Q (.tup [.tup (row.map encK), encK g, .int w]) M
@[simp] theorem at_m1 {x : D} : L2.atI [x] (-1) = some x := rfl
@[simp] theorem at_m2 {x y : D} : L2.atI [x, y] (-1) = some y := rfl
@[simp] theorem at_last {α : Type} {ys : List α} {b : α} : L2.atI (ys ++ [b]) (-1) = some b := by
  unfold L2.atI ixN
  have hl : (ys ++ [b]).length = ys.length + 1 := by simp
  rw [if_neg (by omega), if_pos (by rw [hl]; omega)]
  simp only [hl]
  rw [show (-1 + ((ys.length + 1 : Nat) : Int)).toNat = ys.length by omega]
  simp
@[simp] theorem cut_init {ys : List D} {b : D} : Fw.cutD (ys ++ [b]) none (some (-1)) = ys := by
  have h : HT.sIx (ys ++ [b]).length (ys ++ [b]).length (some (-1)) = ys.length := by
    unfold HT.sIx
    simp
    omega
  unfold Fw.cutD
  rw [HT.sIx_none, h]
  simp
theorem below_ok : ∀ ds M Q, sp_below ds M Q → w__law_below (ends Q) (startD 9 ds) M := by
  rintro ds M Q ⟨rule, at_, w, lines, row, g, rfl, st, hr, hl, q⟩
  have h5 := sz5
  unfold w__law_below
  have n01 : ¬ (Str.ofString "under right" = Str.ofString "over right") := by decide
  have n02 : ¬ (Str.ofString "pair left" = Str.ofString "over right") := by decide
  have n03 : ¬ (Str.ofString "pair left" = Str.ofString "under right") := by decide
  have n04 : ¬ (Str.ofString "over left" = Str.ofString "pair right") := by decide
  have n05 : ¬ (Str.ofString "under left" = Str.ofString "pair right") := by decide
  have n06 : ¬ (Str.ofString "under left" = Str.ofString "over left") := by decide
  cases st with
  | overR L B A h =>
    have hg : (1 : Int) < (row.length : Int) + 1 := by have := List.length_pos_iff.mpr h; omega
    simp [-Bool.exists_bool, encLn, encS, hg]
    exact ⟨by omega, drops_of q⟩
  | underR B L A h =>
    have hg : (1 : Int) < (row.length : Int) + 1 := by have := List.length_pos_iff.mpr h; omega
    simp [-Bool.exists_bool, encLn, encS, n01, hg]
    exact ⟨by omega, drops_of q⟩
  | pairL L A B R C =>
    simp at hr
    have h1 : (L.length : Int) < (L.length : Int) + ((R.length : Int) + 1 + 1) - 1 := by omega
    have a1 : L2.atI (List.map encK L ++ encK A :: encK B :: List.map encK R) (L.length : Int) = some (encK A) := at_nat (by simp)
    have a2 : L2.atI (List.map encK L ++ encK A :: encK B :: List.map encK R) ((L.length : Int) + 1) = some (encK B) := at_nat (n := L.length + 1) (by simp)
    have c1 : Fw.cutD (List.map encK L ++ encK A :: encK B :: List.map encK R) none (some (L.length : Int)) = List.map encK L := cut_l (by simp)
    have c2 : Fw.cutD (List.map encK L ++ encK A :: encK B :: List.map encK R) (some ((L.length : Int) + 2)) none = List.map encK R := cut_r2 (n := L.length + 2) (by simp)
    simp [-Bool.exists_bool, encLn, encS, n02, n03, h1, a1, a2, c1, c2]
    simp at q
    exact ⟨by omega, by omega, by omega, by omega, by omega, drops_of q⟩
  | pairR L A R B =>
    simp at hr
    simp [-Bool.exists_bool, encLn, encS]
    simp [encK] at q
    exact ⟨by omega, by omega, drops_of q⟩
  | overL T B L A R C =>
    simp at hr
    have h1 : (L.length : Int) < (L.length : Int) + ((R.length : Int) + 1) := by omega
    have a1 : L2.atI (List.map encK L ++ encK A :: List.map encK R) (L.length : Int) = some (encK A) := at_nat (by simp)
    have c1 : Fw.cutD (List.map encK L ++ encK A :: List.map encK R) none (some (L.length : Int)) = List.map encK L := cut_l (by simp)
    have c2 : Fw.cutD (List.map encK L ++ encK A :: List.map encK R) (some ((L.length : Int) + 1)) none = List.map encK R := cut_r1 (n := L.length + 1) (by simp)
    simp [-Bool.exists_bool, encLn, encS, n04, h1, a1, c1, c2]
    simp [encK] at q
    exact ⟨by omega, by omega, by omega, by omega, by omega, by omega, drops_of q⟩
  | underL T B L A R C =>
    simp at hr
    have h1 : (L.length : Int) < (L.length : Int) + ((R.length : Int) + 1) := by omega
    have h2 : (L.length : Int) + (T.length : Int) - (T.length : Int) = (L.length : Int) := by omega
    have a1 : L2.atI (List.map encK L ++ encK A :: List.map encK R) (L.length : Int) = some (encK A) := at_nat (by simp)
    have c1 : Fw.cutD (List.map encK L ++ encK A :: List.map encK R) none (some (L.length : Int)) = List.map encK L := cut_l (by simp)
    have c2 : Fw.cutD (List.map encK L ++ encK A :: List.map encK R) (some ((L.length : Int) + 1)) none = List.map encK R := cut_r1 (n := L.length + 1) (by simp)
    simp [-Bool.exists_bool, encLn, encS, n05, n06, h2, h1, a1, c1, c2]
    simp [encK] at q
    exact ⟨by omega, by omega, by omega, by omega, by omega, by omega, drops_of q⟩
end F83

set_option Elab.async false
set_option linter.all false
set_option maxRecDepth 100000
set_option maxHeartbeats 4000000
namespace F83
open PySem PySem.Spec PyProof.Rows L2 Fw
/-- a paper's first entries and its rest -/
structure Pq where
  r : PySem.Str
  row : List Kd
  g : Kd
  n : Nat
  z : Nat
  parts : List D
def encQ (p : Pq) : D := .tup [.str p.r, .tup (p.row.map encK), encK p.g, .int p.n, .int p.z, .tup p.parts]
inductive Pap (nm : List PySem.Str) : Pq → Prop
  | ax (a : PySem.Str) (h : a ∈ nm) : Pap nm ⟨"axiom", [.at a], .at a, 0, 0, []⟩
  | one {rule : PySem.Str} {n w : Nat} {row : List Kd} {g : Kd} {p : Pq} (s : Stp rule n [(p.row, p.g)] row g w) (h : Pap nm p) : Pap nm ⟨rule, row, g, n, w, [encQ p]⟩
  | two {rule : PySem.Str} {n w : Nat} {row : List Kd} {g : Kd} {p q : Pq} (s : Stp rule n [(p.row, p.g), (q.row, q.g)] row g w) (h : Pap nm p) (h2 : Pap nm q) : Pap nm ⟨rule, row, g, n, w, [encQ p, encQ q]⟩
theorem tot_eq {ks : List Kd} {g : Kd} : tot ks g = (ks.map Kd.cnt).sum + g.cnt := by unfold tot; simp
/-- a step keeps the number of leaves, and the names -/
theorem Stp.tot {rule n lines row g w} (s : Stp rule n lines row g w) : F83.tot row g = (lines.map fun l => F83.tot l.1 l.2).sum := by
  cases s <;> simp [tot_eq, Kd.cnt] <;> omega
theorem Stp.nm {rule n lines row g w} {nm : List PySem.Str} (s : Stp rule n lines row g w) (h : ∀ l ∈ lines, LnN nm l.1 l.2) : LnN nm row g := by
  cases s <;> simp [LnN, or_imp, forall_and, KdN] at h ⊢ <;> grind
theorem Stp.ne {rule n lines row g w} (s : Stp rule n lines row g w) (h : ∀ l ∈ lines, l.1 ≠ []) : row ≠ [] := by
  cases s <;> simp at h ⊢ <;> first | exact h | (intro e; grind)
theorem Pap.nms {nm p} (h : Pap nm p) : LnN nm p.row p.g := by
  induction h with
  | ax a h => intro k hk; simp at hk; rcases hk with rfl | rfl <;> exact h
  | one s h ih => exact s.nm (by simpa using ih)
  | two s h h2 ih ih2 => exact s.nm (by simp; exact ⟨ih, ih2⟩)
theorem Pap.ne {nm p} (h : Pap nm p) : p.row ≠ [] := by
  induction h with
  | ax a h => simp
  | one s h ih => exact s.ne (by simpa using ih)
  | two s h h2 ih ih2 => exact s.ne (by simp; exact ⟨ih, ih2⟩)
theorem len_tot {ks : List Kd} {g : Kd} : ks.length + 1 ≤ tot ks g := by
  rw [tot_eq]
  have : ∀ ks : List Kd, ks.length ≤ (ks.map Kd.cnt).sum := by
    intro ks
    induction ks with
    | nil => simp
    | cons k ks ih => have := cnt_pos k; simp; omega
  have h1 := this ks
  have h2 := cnt_pos g
  omega
theorem cnt_tot {ks : List Kd} {g k : Kd} (h : k ∈ ks ++ [g]) : k.cnt ≤ tot ks g := sum_mem h
def sp_axiom : DSp := fun ds M Q => ∃ a : PySem.Str, ds = [.str a] ∧ Q (encQ ⟨"axiom", [.at a], .at a, 0, 0, []⟩) M
theorem axiom_ok : ∀ ds M Q, sp_axiom ds M Q → w__law_axiom (ends Q) (startD 1 ds) M := by
  rintro ds M Q ⟨a, rfl, q⟩
  have h5 := sz5
  unfold w__law_axiom
  simp [-Bool.exists_bool]
  exact ⟨by omega, by omega, drops_of q⟩
def sp_step : DSp := fun ds M Q => ∃ (rule : PySem.Str) (n w : Nat) (ps : List Pq) (row : List Kd) (g : Kd), ds = [.str rule, .int n, .fl (ps.map encQ)] ∧ Stp rule n (ps.map fun p => (p.row, p.g)) row g w ∧ row.length ≤ 1000 ∧ (∀ p ∈ ps, p.row.length ≤ 1000) ∧ ps.length ≤ 1000 ∧ Q (encQ ⟨rule, row, g, n, w, ps.map encQ⟩) M
theorem step_ok : ∀ ds M Q, sp_step ds M Q → w__law_step sp_below (ends Q) (startD 5 ds) M := by
  rintro ds M Q ⟨rule, n, w, ps, row, g, rfl, st, h1, h2, h3, q⟩
  have h5 := sz5
  unfold w__law_step
  simp only [sq_eq]
  rw [sq1]
  simp [-Bool.exists_bool]
  refine comp_all encQ (fun p => encLn (p.row, p.g)) trivial ?_ (by omega) ?_
  · intro p hp N hN
    simp [-Bool.exists_bool, encQ]
    exact ⟨by omega, hN⟩
  · refine ⟨rule, n, w, ps.map fun p => (p.row, p.g), row, g, by simp, st, h1, ?_, ?_⟩
    · intro l hl
      obtain ⟨p, hp, rfl⟩ := List.mem_map.mp hl
      exact h2 p hp
    · show sq _ _ _ _ _
      rw [sq1]
      simp [-Bool.exists_bool, isN]
      exact ⟨by omega, drops_of q⟩
/-- a turn: the paper stays, or a step is made upon it -/
def sp_turned (N : Nat) : DSp := fun ds M Q => ∃ (nm : List PySem.Str) (p : Pq) (way n : Nat), ds = [encQ p, .int way, .int n] ∧ Pap nm p ∧ p.row ≠ [] ∧ tot p.row p.g ≤ N ∧ N ≤ 1000 ∧ ∀ p', Pap nm p' → tot p'.row p'.g = tot p.row p.g → Q (encQ p') M
theorem tot_dep {N : Nat} {ks : List Kd} {g : Kd} (h : tot ks g ≤ N) : ∀ k ∈ ks ++ [g], k.dep < N := fun k hk => by
  have := cnt_tot hk
  have := dep_cnt k
  omega
theorem turned_ok (N : Nat) : ∀ ds M Q, sp_turned N ds M Q → w__law_turned sp_step (sp_size N) (ends Q) (startD 6 ds) M := by
  rintro ds M Q ⟨nm, p, way, n, rfl, hp, hne, ht, hN, q⟩
  have h5 := sz5
  have lt := len_tot (ks := p.row) (g := p.g)
  unfold w__law_turned
  simp only [sq_eq]
  rw [sq1]
  simp [-Bool.exists_bool, encQ]
  rw [sq1]
  simp [-Bool.exists_bool]
  by_cases hw : 2 < way
  · rw [if_pos (by omega)]
    exact drops_of (q p hp rfl)
  rw [if_neg (by omega)]
  by_cases hl : p.row.length < 2
  · rw [if_pos (by omega)]
    exact drops_of (q p hp rfl)
  rw [if_neg (by omega)]
  -- what is done with the paper that a step makes
  have fin : ∀ (rule : PySem.Str) (n' w : Nat) (row : List Kd) (g : Kd) (x5 : Option D), Stp rule n' [(p.row, p.g)] row g w → (∀ M', Q (encQ ⟨rule, row, g, n', w, [encQ p]⟩) M' ∨ True) → sq (wIf (wB (wBin dGt (wCall dMax (wCons (wLcF (wIt (wBin dAdd (wBin dIxA (wVar 4) (wC (.int 1))) (wTup (wCons (wBin dIxA (wVar 4) (wC (.int 2))) wNil)))) (.nm 5) [5] wYes (wCall (sp_size N) (wCons (wVar 5) wNil))) wNil)) (wC (.int 40)))) (wRet (wVar 0)) wNext) (wRet (wVar 4)) (ends Q) [some (encQ p), some (.int way), some (.int n), some (.int p.row.length), some (encQ ⟨rule, row, g, n', w, [encQ p]⟩), x5] M := by
    intro rule n' w row g x5 st _
    have tt := st.tot
    simp at tt
    have lt2 := len_tot (ks := row) (g := g)
    rw [sq1]
    simp [-Bool.exists_bool, encQ]
    refine ⟨by omega, by omega, ?_⟩
    rw [show List.map encK row ++ [encK g] = (row ++ [g]).map encK by simp]
    refine comp_all encK (fun k => .int (k.cnt : Int)) trivial ?_ (by simp; omega) ?_
    · intro k hk N' hN'
      simp [-Bool.exists_bool]
      exact ⟨k, rfl, tot_dep (N := N) (by rw [tt]; exact ht) k hk, hN'⟩
    · simp [-Bool.exists_bool]
      refine ⟨(row ++ [g]).map fun k => (k.cnt : Int), by simp, by simp, fun m hm _ => ?_⟩
      by_cases h40 : 40 < m
      · rw [if_pos (by simpa using h40)]
        exact drops_of (q p hp rfl)
      · rw [if_neg (by simpa using h40)]
        exact drops_of (q _ (.one st hp) tt)
  rw [sq1]
  simp [-Bool.exists_bool]
  obtain ⟨ini, lst, el⟩ : ∃ ini lst, p.row = ini ++ [lst] := ⟨p.row.dropLast, p.row.getLast hne, (List.dropLast_concat_getLast hne).symm⟩
  by_cases w0 : way = 0
  · rw [if_pos (by omega)]
    have li : ini ≠ [] := by rintro rfl; rw [el] at hl; simp at hl
    have st : Stp "over right" 0 [(p.row, p.g)] ini (.op over p.g lst) 0 := by rw [el]; exact .overR ini lst p.g li
    refine ⟨by omega, "over right", 0, 0, [p], ini, _, rfl, st, ?_, ?_, by simp, fin _ _ _ _ _ _ st (fun _ => .inr trivial)⟩
    · have := congrArg List.length el; simp at this; omega
    · intro p' hp'; simp at hp'; subst hp'; omega
  rw [if_neg (by omega)]
  by_cases w1 : way = 1
  · rw [if_pos (by omega)]
    obtain ⟨fst, tl, ef⟩ : ∃ fst tl, p.row = fst :: tl := by cases h : p.row with
      | nil => exact absurd h hne
      | cons a b => exact ⟨a, b, rfl⟩
    have li : tl ≠ [] := by rintro rfl; rw [ef] at hl; simp at hl
    have st : Stp "under right" 0 [(p.row, p.g)] tl (.op under fst p.g) 0 := by rw [ef]; exact .underR fst tl p.g li
    refine ⟨by omega, "under right", 0, 0, [p], tl, _, rfl, st, ?_, ?_, by simp, fin _ _ _ _ _ _ st (fun _ => .inr trivial)⟩
    · have := congrArg List.length ef; simp at this; omega
    · intro p' hp'; simp at hp'; subst hp'; omega
  rw [if_neg (by omega)]
  obtain ⟨m, hm1, hm2⟩ : ∃ m : Nat, (n : Int) % ((p.row.length : Int) - 1) = m ∧ m + 1 < p.row.length := by
    have h1 := Int.emod_nonneg (n : Int) (b := (p.row.length : Int) - 1) (by omega)
    have h2 := Int.emod_lt_of_pos (n : Int) (b := (p.row.length : Int) - 1) (by omega)
    exact ⟨((n : Int) % ((p.row.length : Int) - 1)).toNat, by omega, by omega⟩
  refine ⟨by omega, by omega, ?_⟩
  rw [hm1]
  have em : p.row = p.row.take m ++ p.row[m] :: p.row[m + 1] :: p.row.drop (m + 2) := by
    rw [List.getElem_cons_drop, List.getElem_cons_drop, List.take_append_drop]
  have lm : (p.row.take m).length = m := by rw [List.length_take]; omega
  have st0 := Stp.pairL (p.row.take m) p.row[m] p.row[m + 1] (p.row.drop (m + 2)) p.g
  rw [← em, lm] at st0
  refine ⟨"pair left", m, 0, [p], _, _, rfl, st0, ?_, ?_, by simp, fin _ _ _ _ _ _ st0 (fun _ => .inr trivial)⟩
  · simp; omega
  · intro p' hp'; simp at hp'; subst hp'; omega
end F83

set_option Elab.async false
set_option linter.all false
set_option maxRecDepth 100000
set_option maxHeartbeats 4000000
namespace F83
open PySem PySem.Spec PyProof.Rows L2 Fw
/-! grown papers -/
def sp_grown (B N : Nat) : DSp := fun ds M Q => ∃ (a : Addr) (n sz : Nat) (nm : List PySem.Str) (M0 : Mem), ds = [.ref a, .fl (nm.map D.str), .int sz] ∧ Sr a n M0 M ∧ nm ≠ [] ∧ nm.length ≤ 1000 ∧ 1 ≤ sz ∧ sz < N ∧ 2 * sz ≤ B ∧ B ≤ 1000 ∧ n + 20 * sz < 900000 ∧
  ∀ (p : Pq) M', Pap nm p → tot p.row p.g = 2 * sz → Sr a (n + (20 * sz - 10)) M0 M' → Q (encQ p) M'
theorem split_at {ks : List Kd} {i : Nat} (h : i < ks.length) : ks = ks.take i ++ ks[i] :: ks.drop (i + 1) := by
  rw [List.getElem_cons_drop, List.take_append_drop]
theorem grown_ok (B N : Nat) : ∀ ds M Q, sp_grown B (N + 1) ds M Q → w__law_grown sp_take sp_axiom (sp_grown B N) sp_step (sp_turned B) (ends Q) (startD 10 ds) M := by
  rintro ds M Q ⟨a, n, sz, nm, M0, rfl, sr, hne, hnl, h1, h2, h3, h4, hn, q⟩
  have h5 := sz5
  unfold w__law_grown
  simp only [sq_eq]
  rw [sq1]
  have fin : ∀ (p : Pq) (m : Nat) (M1 : Mem) (x4 x5 x6 x7 x8 : Option D), Pap nm p → tot p.row p.g = 2 * sz → Sr a m M0 M1 → m + 6 ≤ n + (20 * sz - 10) → sq (wFor (wRange1 (wC (.int 3))) (.nm 9) (w__law_grown_1 sp_take sp_axiom (sp_grown B N) sp_step (sp_turned B))) (wRet (wVar 3)) (ends Q) [some (.ref a), some (.fl (nm.map D.str)), some (.int sz), some (encQ p), x4, x5, x6, x7, x8, none] M1 := by
    intro p m M1 x4 x5 x6 x7 x8 hp ht s hm
    rw [sq1]
    simp [-Bool.exists_bool]
    refine ⟨by unfold RgOk2; omega, ?_⟩
    refine loop_range (lo := 0) (n := 3) (fun i ρ M' => ∃ (p : Pq) (x9 : Option D), ρ = [some (.ref a), some (.fl (nm.map D.str)), some (.int sz), some (encQ p), x4, x5, x6, x7, x8, x9] ∧ Pap nm p ∧ tot p.row p.g = 2 * sz ∧ Sr a (m + 2 * i) M0 M') ⟨p, none, rfl, hp, ht, s⟩ ?_ ?_
    · rintro i hi ρ M' ⟨p, x9, rfl, hp, ht, s⟩ N' hN
      refine ⟨_, _, .refl, .refl, trivial, ?_⟩
      unfold w__law_grown_1
      simp [-Bool.exists_bool]
      refine take_use 9 s fun d M2 hd s2 => ?_
      refine take_use 40 s2 fun e M3 he s3 => ?_
      exact ⟨nm, p, d, e, rfl, hp, hp.ne, by omega, h4, fun p' hp' ht' => hN _ _ ⟨p', _, rfl, hp', by omega, s3⟩⟩
    · rintro ρ M' ⟨p, x9, rfl, hp, ht, s⟩
      refine ⟨_, _, .refl, .refl, trivial, ?_⟩
      simp [-Bool.exists_bool]
      exact drops_of (q p M' hp ht (s.more (by omega)))
  have hnp : 0 < nm.length := List.length_pos_iff.mpr hne
  simp [-Bool.exists_bool]
  by_cases hs : sz = 1
  · rw [if_pos (by omega)]
    refine take_use nm.length sr fun d M1 hd s1 => ?_
    simp [-Bool.exists_bool]
    refine ⟨.str nm[d], at_nat (by rw [List.getElem?_map, List.getElem?_eq_getElem hd]; rfl), nm[d], rfl, ?_⟩
    exact fin _ _ _ _ _ _ _ _ (.ax _ (List.getElem_mem _)) (by rw [tot_eq]; simp [Kd.cnt, hs]) s1 (by omega)
  · rw [if_neg (by omega), sq1]
    simp [-Bool.exists_bool]
    rw [show ((sz : Int) - 1) = ((sz - 1 : Nat) : Int) by omega]
    refine take_use (sz - 1) sr fun d M1 hd s1 => ?_
    show sq _ _ _ _ _
    rw [sq1]
    simp [-Bool.exists_bool]
    refine ⟨a, n + 1, 1 + d, nm, M0, by simp, s1, hne, hnl, by omega, by omega, by omega, h4, by omega, fun p M2 hp tp s2 => ?_⟩
    show sq _ _ _ _ _
    rw [sq1]
    simp [-Bool.exists_bool]
    refine ⟨a, _, sz - (1 + d), nm, M0, by rw [show ((sz : Int) - (1 + (d : Int))) = ((sz - (1 + d) : Nat) : Int) by omega], s2, hne, hnl, by omega, by omega, by omega, h4, by omega, fun r M3 hr tr s3 => ?_⟩
    show sq _ _ _ _ _
    rw [sq1]
    simp [-Bool.exists_bool]
    refine take_use 5 s3 fun way M4 hw s4 => ?_
    show sq _ _ _ _ _
    rw [sq1]
    simp [-Bool.exists_bool, encQ]
    have lp := len_tot (ks := p.row) (g := p.g)
    have lr := len_tot (ks := r.row) (g := r.g)
    have rp := List.length_pos_iff.mpr hr.ne
    refine take_use r.row.length s4 fun i M5 hi s5 => ?_
    have go : ∀ (rule : PySem.Str) (n' w : Nat) (row : List Kd) (g : Kd) (x3 : Option D), Stp rule n' [(p.row, p.g), (r.row, r.g)] row g w → wSet 3 (wCall sp_step (wCons (wC (.str rule)) (wCons (wC (.int n')) (wCons (wFl (wCons (wVar 5) (wCons (wVar 6) wNil))) wNil)))) { (ends Q) with nx := sq (wFor (wRange1 (wC (.int 3))) (.nm 9) (w__law_grown_1 sp_take sp_axiom (sp_grown B N) sp_step (sp_turned B))) (wRet (wVar 3)) (ends Q) } [some (.ref a), some (.fl (nm.map D.str)), some (.int sz), x3, some (.int (1 + (d : Int))), some (encQ p), some (encQ r), some (.int way), some (.int i), none] M5 := by
      intro rule n' w row g x3 st
      have tt := st.tot
      simp at tt
      have lt := len_tot (ks := row) (g := g)
      simp [-Bool.exists_bool]
      refine ⟨by omega, rule, n', w, [p, r], row, g, rfl, st, by omega, ?_, by simp, ?_⟩
      · intro x hx
        simp at hx
        rcases hx with rfl | rfl <;> omega
      · exact fin _ _ _ _ _ _ _ _ (.two st hp hr) (by show tot row g = _; omega) s5 (by omega)
    by_cases w4 : way = 4
    · rw [if_pos (by omega)]
      have := go "pair right" p.row.length 0 _ _ none (.pairR p.row p.g r.row r.g)
      simpa [-Bool.exists_bool, encQ] using this
    rw [if_neg (by omega)]
    have em := split_at hi
    have lm : (r.row.take i).length = i := by rw [List.length_take]; omega
    by_cases w1 : 1 < way
    · rw [if_pos (by omega)]
      have st := Stp.overL p.row p.g (r.row.take i) r.row[i] (r.row.drop (i + 1)) r.g
      rw [← em, lm] at st
      have := go "over left" i _ _ _ none st
      simpa [-Bool.exists_bool, encQ] using this
    · rw [if_neg (by omega)]
      have st := Stp.underL p.row p.g (r.row.take i) r.row[i] (r.row.drop (i + 1)) r.g
      rw [← em, lm] at st
      have := go "under left" (i + p.row.length) _ _ _ none st
      simpa [-Bool.exists_bool, encQ] using this
end F83

set_option Elab.async false
set_option linter.all false
set_option maxRecDepth 100000
set_option maxHeartbeats 4000000
namespace F83
open PySem PySem.Spec PyProof.Rows L2 Fw
/-! answers that are alike -/
def Pl : Nat → D → Prop
  | 0, _ => False
  | n + 1, d => (∃ i, d = .int i) ∨ (∃ s, d = .str s) ∨ (∃ b, d = .bl b) ∨ ∃ ds, d = .tup ds ∧ ds.length ≤ 100000 ∧ ∀ x ∈ ds, Pl n x
def sp_alike (N : Nat) : DSp := fun ds M Q => ∃ e : D, ds = [e, e] ∧ Pl N e ∧ Q (.bl true) M
theorem alike_ok (N : Nat) : ∀ ds M Q, sp_alike (N + 1) ds M Q → w__law_alike (sp_alike N) (ends Q) (startD 3 ds) M := by
  rintro ds M Q ⟨e, rfl, hp, q⟩
  have h5 := sz5
  unfold w__law_alike
  rcases hp with ⟨i, rfl⟩ | ⟨s, rfl⟩ | ⟨b, rfl⟩ | ⟨ds, rfl, hl, hd⟩
  · simp [-Bool.exists_bool]; exact drops_of q
  · simp [-Bool.exists_bool]; exact drops_of q
  · simp [-Bool.exists_bool]; exact drops_of q
  · simp [-Bool.exists_bool]
    refine ⟨by unfold RgOk2; omega, ?_⟩
    refine loop_range (lo := 0) (n := ds.length) (fun i ρ M' => M' = M ∧ ∃ x2, ρ = [some (.tup ds), some (.tup ds), x2]) ⟨rfl, _, rfl⟩ ?_ ?_
    · rintro i hi ρ M' ⟨rfl, x2, rfl⟩ N' hN
      refine ⟨_, _, .refl, .refl, trivial, ?_⟩
      unfold w__law_alike_1
      simp [-Bool.exists_bool]
      have ha := at_some (l := ds) hi
      exact ⟨ds[i], ha, ds[i], ha, ds[i], rfl, hd _ (List.getElem_mem _), by simp; exact hN _ _ ⟨rfl, _, rfl⟩⟩
    · rintro ρ M' ⟨rfl, x2, rfl⟩
      refine ⟨_, _, .refl, .refl, trivial, ?_⟩
      simp [-Bool.exists_bool]
      exact drops_of q
def sp_whole : DSp := fun ds M Q => ∃ i : Int, ds = [.int i] ∧ Q (.bl true) M
theorem whole_ok : ∀ ds M Q, sp_whole ds M Q → w__law_is_whole (ends Q) (startD 1 ds) M := by
  rintro ds M Q ⟨i, rfl, q⟩
  unfold w__law_is_whole
  simp [-Bool.exists_bool]
  exact drops_of q
def sp_truth : DSp := fun ds M Q => ∃ b c : Bool, ds = [.bl b, .bl c] ∧ Q (.bl (decide (b = c))) M
theorem truth_ok : ∀ ds M Q, sp_truth ds M Q → w__law_is_truth (ends Q) (startD 2 ds) M := by
  rintro ds M Q ⟨b, c, rfl, q⟩
  unfold w__law_is_truth
  simp [-Bool.exists_bool]
  exact drops_of q
end F83

set_option Elab.async false
set_option linter.all false
set_option maxRecDepth 100000
set_option maxHeartbeats 4000000
namespace F83
open PySem PySem.Spec PyProof.Rows L2 Fw
/-- a frozen table of the lines in S -/
def Tf (S : Line → Prop) (d : D) : Prop := ∃ kvs : List (D × D), d = .fd (kvs.map (·.1)) (kvs.map (·.2)) ∧ LT kvs S
/-! the law's own bans -/
def sp_lpair : DSp := fun ds M Q => ∃ (bs : Bans) (d1 d2 : D) (F G : Line → Prop) (U : List Line) (V : List Fr), ds = [encB bs, d1, d2] ∧ Tf F d1 ∧ Tf G d2 ∧ (∀ q ∈ bs, ∀ l ∈ q.2, l.length ≤ 1000) ∧ U.length ≤ 100000 ∧ (∀ l, pairB bs F G l → l ∈ U) ∧ V.length ≤ 100000 ∧ (∀ q ∈ bs, ∀ f, frB q.2 F G f → f ∈ V) ∧ ∀ d, Tf (pairB bs F G) d → Q d M
theorem cutB {m : Line} {i j c : Nat} (h : j ≤ m.length) (hij : i + c ≤ j) : ((m.take j).drop i).take c = (m.take (i + c)).drop i ∧ ((m.take j).drop i).drop c = (m.take j).drop (i + c) := by
  constructor
  · rw [List.drop_take, List.drop_take, List.take_take, Nat.add_sub_cancel_left, Nat.min_eq_left (by omega)]
  · rw [List.drop_drop]
theorem lpair_ok : ∀ ds M Q, sp_lpair ds M Q → w__law_pair_bans (ends Q) (startD 11 ds) M := by
  rintro ds M Q ⟨bs, _, _, F, G, U, V, rfl, ⟨k1, rfl, lt1⟩, ⟨k2, rfl, lt2⟩, hlen, hU, hin, hV, hinV, q⟩
  have h5 := sz5
  unfold w__law_pair_bans
  generalize e1 : D.fd (k1.map (·.1)) (k1.map (·.2)) = d1
  generalize e2 : D.fd (k2.map (·.1)) (k2.map (·.2)) = d2
  simp [-Bool.exists_bool]
  intro p ta tb hp
  refine fill_map (xs := bs) (M := M) (enc := encL) (U := U) (p := p) (S := fun _ => False) (R := fun ρ => ∃ x4 x5 x6 x7 x8 x9 x10, ρ = [some (encB bs), some d1, some d2, some (.ref p), x4, x5, x6, x7, x8, x9, x10]) encP (fun q l => ∃ m ∈ q.2, ∃ i, i < m.length ∧ ∃ j, i + 1 ≤ j ∧ j ≤ m.length ∧ l = (m.take j).drop i ∧ ¬ frB q.2 F G (m.take i, m.drop j)) (fun _ _ => trivial) (.start ⟨_, _, _, _, _, _, _, rfl⟩ hp) ?_ ?_
  · rintro ⟨nm, ls⟩ hq S' ρ M' s N hN
    obtain ⟨x4, x5, x6, x7, x8, x9, x10, rfl⟩ := s.env
    unfold w__law_pair_bans_7
    simp [-Bool.exists_bool, encP]
    intro g ga gb hg
    have ngM : M g = none := s.sub.none hg
    have hpg : p ≠ g := by
      rintro rfl
      obtain ⟨k, t, e, _⟩ := s.tab
      rw [hg] at e; cases e
    refine fill_map (xs := ls) (M := M') (enc := encF) (U := V) (p := g) (S := fun _ => False) (R := fun ρ => ∃ x6 x7 x8 x9 x10, ρ = [some (encB bs), some d1, some d2, some (.ref p), some (.tup [.str nm, .tup (ls.map encL)]), some (.ref g), x6, x7, x8, x9, x10]) encL (fun m f => ∃ i, i < m.length ∧ ∃ j, i + 2 ≤ j ∧ j ≤ m.length ∧ f = (m.take i, m.drop j) ∧ rowB F G ((m.take j).drop i)) (fun _ _ => trivial) (.start ⟨_, _, _, _, _, rfl⟩ hg) ?_ ?_
    · intro m hm S1 ρ M1 s1 N1 hN1
      obtain ⟨x6, x7, x8, x9, x10, rfl⟩ := s1.env
      have hml := hlen _ hq m hm
      unfold w__law_pair_bans_3
      simp [-Bool.exists_bool]
      refine ⟨rg (i := 0) (by omega) (by omega), ?_⟩
      refine fill_range (lo := 0) (n := m.length) (M := M') (enc := encF) (U := V) (p := g) (S := S1) (R := fun ρ => ∃ x7 x8 x9 x10, ρ = [some (encB bs), some d1, some d2, some (.ref p), some (.tup [.str nm, .tup (ls.map encL)]), some (.ref g), some (encL m), x7, x8, x9, x10]) (fun i f => ∃ j, i + 2 ≤ j ∧ j ≤ m.length ∧ f = (m.take i, m.drop j) ∧ rowB F G ((m.take j).drop i)) (fun _ _ => trivial) ⟨⟨_, _, _, _, rfl⟩, s1.sub, s1.tab, s1.bnd⟩ ?_ ?_
      · intro i _ hi S2 ρ M2 s2 N2 hN2
        obtain ⟨x7, x8, x9, x10, rfl⟩ := s2.env
        unfold w__law_pair_bans_2
        simp [-Bool.exists_bool]
        have en : (((m.length : Nat) : Int) + 1 - ((i : Int) + 2)).toNat = m.length - 1 - i := by omega
        refine ⟨by unfold RgOk2; omega, ?_⟩
        rw [en]
        refine fill_range (lo := i + 2) (n := m.length - 1 - i) (M := M') (enc := encF) (U := V) (p := g) (S := S2) (R := fun ρ => ∃ x8 x9 x10, ρ = [some (encB bs), some d1, some d2, some (.ref p), some (.tup [.str nm, .tup (ls.map encL)]), some (.ref g), some (encL m), some (.int (i : Int)), x8, x9, x10]) (fun j f => f = (m.take i, m.drop j) ∧ rowB F G ((m.take j).drop i)) (fun _ _ => trivial) ⟨⟨_, _, _, rfl⟩, s2.sub, s2.tab, s2.bnd⟩ ?_ ?_
        · intro j h1 h2 S3 ρ M3 s3 N3 hN3
          obtain ⟨x8, x9, x10, rfl⟩ := s3.env
          unfold w__law_pair_bans_1
          simp only [sq_eq]
          have hj : j ≤ m.length := by omega
          simp only [y_tg1]
          rw [sq1]
          simp [-Bool.exists_bool]
          have ej : ((j : Int) - ((i : Int) + 1)).toNat = j - (i + 1) := by omega
          refine ⟨by unfold RgOk2; omega, ?_⟩
          rw [ej]
          let f : Nat → Bool := fun t => !(valD k1 (encL ((m.take (i + 1 + t)).drop i))).isSome && !(valD k2 (encL ((m.take j).drop (i + 1 + t)))).isSome
          have er : ranged ((i : Int) + 1) (j - (i + 1)) = (List.range (j - (i + 1))).map fun t : Nat => D.int ((i + 1 + t : Nat) : Int) := by unfold ranged; simp
          rw [er]
          refine comp_if (fun t : Nat => D.int ((i + 1 + t : Nat) : Int)) f (fun t : Nat => D.int ((i + 1 + t : Nat) : Int)) trivial ?_ ?_ (by rw [List.length_range]; omega) ?_
          · intro t ht N' n'
            rw [List.mem_range] at ht
            simp [-Bool.exists_bool, -Int.natCast_add, ← e1, ← e2]
            refine ⟨lt1.ok _, ?_⟩
            have n2 : N' (!(valD k1 (encL ((m.take (i + 1 + t)).drop i))).isSome && !(valD k2 (encL ((m.take j).drop (i + 1 + t)))).isSome) M3 := n'
            cases h : valD k1 (encL ((m.take (i + 1 + t)).drop i)) with
            | some v => rw [h] at n2; simpa using n2
            | none => rw [h] at n2; simp at n2 ⊢; exact ⟨lt2.ok _, n2⟩
          · intro t ht _ N' n'
            simp [-Bool.exists_bool, -Int.natCast_add]
            exact n'
          · have key : (∃ t, t < j - (i + 1) ∧ f t = true) ↔ rowB F G ((m.take j).drop i) := by
              have lj : ((m.take j).drop i).length = j - i := by rw [List.length_drop, List.length_take]; omega
              constructor
              · rintro ⟨t, ht, hf⟩
                have hf : (!(valD k1 (encL ((m.take (i + 1 + t)).drop i))).isSome && !(valD k2 (encL ((m.take j).drop (i + 1 + t)))).isSome) = true := hf
                rw [Bool.and_eq_true, Bool.not_eq_true', Bool.not_eq_true', Bool.eq_false_iff, Bool.eq_false_iff, ne_eq, ne_eq, lt1.has, lt2.has] at hf
                have cb := cutB (m := m) (i := i) (j := j) (c := 1 + t) hj (by omega)
                refine ⟨1 + t, by omega, by omega, ?_, ?_⟩
                · rw [cb.1, show i + (1 + t) = i + 1 + t by omega]; exact hf.1
                · rw [cb.2, show i + (1 + t) = i + 1 + t by omega]; exact hf.2
              · rintro ⟨c, hc1, hc2, hc3, hc4⟩
                have cb := cutB (m := m) (i := i) (j := j) (c := c) hj (by omega)
                rw [cb.1] at hc3
                rw [cb.2] at hc4
                refine ⟨c - 1, by omega, ?_⟩
                show (!(valD k1 (encL ((m.take (i + 1 + (c - 1))).drop i))).isSome && !(valD k2 (encL ((m.take j).drop (i + 1 + (c - 1))))).isSome) = true
                rw [show i + 1 + (c - 1) = i + c by omega]
                rw [Bool.and_eq_true, Bool.not_eq_true', Bool.not_eq_true', Bool.eq_false_iff, Bool.eq_false_iff, ne_eq, ne_eq, lt1.has, lt2.has]
                exact ⟨hc3, hc4⟩
            simp [-Bool.exists_bool]
            by_cases hr : rowB F G ((m.take j).drop i)
            · rw [if_pos (key.mpr hr)]
              refine ⟨by omega, ?_⟩
              exact s3.put (l := (m.take i, m.drop j)) (R' := fun ρ => ∃ x8 x9 x10, ρ = [some (encB bs), some d1, some d2, some (.ref p), some (.tup [.str nm, .tup (ls.map encL)]), some (.ref g), some (encL m), some (.int (i : Int)), x8, x9, x10]) encF_ok hV hg (hinV _ hq _ ⟨m, hm, i, by omega, j, h1, by omega, rfl, hr⟩) ⟨_, _, _, rfl⟩ fun M'' s => hN3 _ _ (s.congr fun l => by simp [hr])
            · rw [if_neg (fun h => hr (key.mp h))]
              exact hN3 _ _ ⟨⟨_, _, _, rfl⟩, s3.sub, let ⟨k, t, e, q⟩ := s3.tab; ⟨k, t, e, q.congr fun l => by simp [hr]⟩, fun l hl => hl.elim (s3.bnd l) fun h => absurd h.2 hr⟩
        · intro ρ M3 s3
          exact hN2 _ _ ((s3.env' fun ρ ⟨y, z, w, h⟩ => ⟨_, y, z, w, h⟩).congr fun l => or_congr Iff.rfl ⟨fun ⟨j, h1, h2, h3⟩ => ⟨j, h1, by omega, h3⟩, fun ⟨j, h1, h2, h3⟩ => ⟨j, h1, by omega, h3⟩⟩)
      · intro ρ M2 s2
        exact hN1 _ _ ((s2.env' fun ρ ⟨x, y, z, w, h⟩ => ⟨_, x, y, z, w, h⟩).congr fun l => or_congr Iff.rfl ⟨fun ⟨i, h1, h2, h3⟩ => ⟨i, by omega, h3⟩, fun ⟨i, h2, h3⟩ => ⟨i, by omega, by omega, h3⟩⟩)
    · intro ρ M1 s1
      obtain ⟨x6, x7, x8, x9, x10, rfl⟩ := s1.env
      obtain ⟨kf, tf, hgf, ktf0⟩ := s1.tab
      have ktf : KT encF kf (frB ls F G) := ktf0.congr fun f => by unfold frB; simp
      have hpM : mset M g (.dict kf tf) p = none := by rw [mset_ne hpg]; exact hp
      have s0 : St (fun ρ => ∃ x6 x7 x8 x9 x10, ρ = [some (encB bs), some d1, some d2, some (.ref p), some (.tup [.str nm, .tup (ls.map encL)]), some (.ref g), x6, x7, x8, x9, x10]) p (mset M g (.dict kf tf)) encL U S' [some (encB bs), some d1, some d2, some (.ref p), some (.tup [.str nm, .tup (ls.map encL)]), some (.ref g), x6, x7, x8, x9, x10] M1 :=
        ⟨⟨_, _, _, _, _, rfl⟩, (s.sub.trans s1.sub).to hgf, let ⟨k, t, e, q⟩ := s.tab; ⟨k, t, s1.sub _ _ e, q⟩, s.bnd⟩
      simp [-Bool.exists_bool]
      refine fill_map (xs := ls) encL (fun m l => ∃ i, i < m.length ∧ ∃ j, i + 1 ≤ j ∧ j ≤ m.length ∧ l = (m.take j).drop i ∧ ¬ frB ls F G (m.take i, m.drop j)) (fun _ _ => trivial) s0 ?_ ?_
      · intro m hm S1 ρ M1 s N1 hN1
        obtain ⟨x6, x7, x8, x9, x10, rfl⟩ := s.env
        have hml := hlen _ hq m hm
        unfold w__law_pair_bans_6
        simp [-Bool.exists_bool]
        refine ⟨rg (i := 0) (by omega) (by omega), ?_⟩
        refine fill_range (lo := 0) (n := m.length) (p := p) (M := mset M g (.dict kf tf)) (enc := encL) (U := U) (S := S1) (R := fun ρ => ∃ x7 x8 x9 x10, ρ = [some (encB bs), some d1, some d2, some (.ref p), some (.tup [.str nm, .tup (ls.map encL)]), some (.ref g), some (encL m), x7, x8, x9, x10]) (fun i l => ∃ j, i + 1 ≤ j ∧ j ≤ m.length ∧ l = (m.take j).drop i ∧ ¬ frB ls F G (m.take i, m.drop j)) (fun _ _ => trivial) ⟨⟨_, _, _, _, rfl⟩, s.sub, s.tab, s.bnd⟩ ?_ ?_
        · intro i _ hi S2 ρ M2 s N2 hN2
          obtain ⟨x7, x8, x9, x10, rfl⟩ := s.env
          unfold w__law_pair_bans_5
          simp [-Bool.exists_bool]
          have e1 : (((m.length : Nat) : Int) + 1 - ((i : Int) + 1)).toNat = m.length - i := by omega
          refine ⟨by unfold RgOk2; omega, ?_⟩
          try rw [e1]
          refine fill_range (lo := i + 1) (n := m.length - i) (p := p) (M := mset M g (.dict kf tf)) (enc := encL) (U := U) (S := S2) (R := fun ρ => ∃ x8 x9 x10, ρ = [some (encB bs), some d1, some d2, some (.ref p), some (.tup [.str nm, .tup (ls.map encL)]), some (.ref g), some (encL m), some (.int (i : Int)), x8, x9, x10]) (fun j l => l = (m.take j).drop i ∧ ¬ frB ls F G (m.take i, m.drop j)) (fun _ _ => trivial) ⟨⟨_, _, _, rfl⟩, s.sub, s.tab, s.bnd⟩ ?_ ?_
          · intro j h1 h2 S3 ρ M3 s N3 hN3
            obtain ⟨x8, x9, x10, rfl⟩ := s.env
            unfold w__law_pair_bans_4
            simp [-Bool.exists_bool]
            refine ⟨by omega, ?_⟩
            rw [y_inD (s.sub g _ mset_same)]
            show keyOk kf (encF (m.take i, m.drop j)) ∧ _
            refine ⟨ktf.ok encF_ok _, ?_⟩
            simp only [ex_bl]
            show if (!(valD kf (encF (m.take i, m.drop j))).isSome) = true then _ else _
            by_cases hT : frB ls F G (m.take i, m.drop j)
            · rw [(ktf.has encF_ok _).mpr hT, Bool.not_true, if_neg Bool.false_ne_true]
              exact hN3 _ _ ⟨⟨_, _, _, rfl⟩, s.sub, let ⟨k, t, e, q⟩ := s.tab; ⟨k, t, e, q.congr fun l => by simp [hT]⟩, fun l hl => hl.elim (s.bnd l) fun h => absurd hT h.2⟩
            · rw [show (valD kf (encF (m.take i, m.drop j))).isSome = false from by rw [Bool.eq_false_iff]; exact fun e => hT ((ktf.has encF_ok _).mp e)]
              rw [Bool.not_false, if_pos rfl]
              exact s.put (R' := fun ρ => ∃ x8 x9 x10, ρ = [some (encB bs), some d1, some d2, some (.ref p), some (.tup [.str nm, .tup (ls.map encL)]), some (.ref g), some (encL m), some (.int (i : Int)), x8, x9, x10]) encL_ok hU hpM (hin _ ⟨_, hq, m, hm, i, by omega, j, h1, by omega, rfl, hT⟩) ⟨_, _, _, rfl⟩ fun M'' s => hN3 _ _ (s.congr fun l => by simp [hT])
          · intro ρ M3 s
            exact hN2 _ _ ((s.env' fun ρ ⟨y, z, w, h⟩ => ⟨_, y, z, w, h⟩).congr fun l => or_congr Iff.rfl ⟨fun ⟨j, h1, h2, h3⟩ => ⟨j, h1, by omega, h3⟩, fun ⟨j, h1, h2, h3⟩ => ⟨j, h1, by omega, h3⟩⟩)
        · intro ρ M2 s
          exact hN1 _ _ ((s.env' fun ρ ⟨x, y, z, w, h⟩ => ⟨_, x, y, z, w, h⟩).congr fun l => or_congr Iff.rfl ⟨fun ⟨i, h1, h2, h3⟩ => ⟨i, by omega, h3⟩, fun ⟨i, h2, h3⟩ => ⟨i, by omega, by omega, h3⟩⟩)
      · intro ρ M1 s
        refine hN _ _ ⟨?_, (SubM.new ngM).trans s.sub, s.tab, s.bnd⟩
        obtain ⟨x6, x7, x8, x9, x10, rfl⟩ := s.env
        exact ⟨_, _, _, _, _, _, _, rfl⟩
  · intro ρ M' s
    obtain ⟨x4, x5, x6, x7, x8, x9, x10, rfl⟩ := s.env
    obtain ⟨kvs, t, hm, kt⟩ := s.tab
    simp
    exact drops_fd s.sub hp hm (q _ ⟨kvs, rfl, (KTlt kt).congr fun l => by unfold pairB; simp⟩)
end F83

set_option Elab.async false
set_option linter.all false
set_option maxRecDepth 100000
set_option maxHeartbeats 4000000
namespace F83
open PySem PySem.Spec PyProof.Rows L2 Fw
def sp_lkind (n : Nat) : DSp := fun ds M Q => ∃ (bs : Bans) (k : Kd), ds = [encB bs, encK k] ∧ k.dep < n ∧ KdOk k ∧ BsOk bs ∧ ∀ d, Tf (kindB bs k) d → Q d M
theorem lkind_ok (n : Nat) : ∀ ds M Q, sp_lkind (n + 1) ds M Q → w__law_kind_bans (sp_lkind n) sp_lpair (ends Q) (startD 8 ds) M := by
  rintro ds M Q ⟨bs, k, rfl, hn, ko, ok, q⟩
  obtain ⟨U, hU, hin⟩ := ok.uni
  obtain ⟨V, hV, hinV⟩ := ok.fra
  have h5 := sz5
  unfold w__law_kind_bans
  simp only [sq_eq]
  rw [sq1]
  simp [-Bool.exists_bool]
  intro p ta tb hp
  rw [sq1]
  cases k with
  | «at» a =>
    simp [-Bool.exists_bool, encK]
    show sq _ _ _ _ _
    rw [sq1]
    simp [-Bool.exists_bool]
    refine fill_map (xs := bs) (M := M) (enc := encL) (U := U) (p := p) (S := fun _ => False) (R := fun ρ => ∃ x3 x4, ρ = [some (encB bs), some (.str a), some (.ref p), x3, x4, none, none, none]) encP (fun q l => q.1 = a ∧ l ∈ q.2) (fun _ _ => trivial) (.start ⟨_, _, rfl⟩ hp) ?_ ?_
    · rintro ⟨nm, ls⟩ hq S' ρ M' s N hN
      obtain ⟨x3, x4, rfl⟩ := s.env
      unfold w__law_kind_bans_2
      simp [-Bool.exists_bool, encP]
      by_cases h : nm = a
      · rw [if_pos h]
        subst h
        refine fill_map (M := M) (enc := encL) (U := U) (p := p) (S := S') (R := fun ρ => ∃ x4, ρ = [some (encB bs), some (.str nm), some (.ref p), some (.tup [.str nm, .tup (ls.map encL)]), x4, none, none, none]) encL (fun m l => l = m) (fun _ _ => trivial) ⟨⟨_, rfl⟩, s.sub, s.tab, s.bnd⟩ ?_ ?_
        · intro m hm S1 ρ M1 s N1 hN1
          obtain ⟨x4, rfl⟩ := s.env
          unfold w__law_kind_bans_1
          simp [-Bool.exists_bool]
          exact s.put (R' := fun ρ => ∃ x4, ρ = [some (encB bs), some (.str nm), some (.ref p), some (.tup [.str nm, .tup (ls.map encL)]), x4, none, none, none]) encL_ok hU hp (hin _ (kind_str ok (.at nm) m ⟨_, hq, rfl, hm⟩)) ⟨_, rfl⟩ fun M'' s => hN1 _ _ s
        · intro ρ M1 s
          exact hN _ _ ((s.env' fun ρ ⟨y, h⟩ => ⟨_, y, h⟩).congr fun l => or_congr Iff.rfl (by simp))
      · rw [if_neg h]
        exact hN _ _ ⟨⟨_, _, rfl⟩, s.sub, let ⟨k, t, e, q⟩ := s.tab; ⟨k, t, e, q.congr fun l => by simp [h]⟩, fun l hl => hl.elim (s.bnd l) fun z => absurd z.1 h⟩
    · intro ρ M' s
      obtain ⟨x3, x4, rfl⟩ := s.env
      obtain ⟨kvs, t, hm, kt⟩ := s.tab
      simp
      exact drops_fd s.sub hp hm (q _ ⟨kvs, rfl, (KTlt kt).congr fun l => by show _ ↔ atomB bs a l; unfold atomB; simp⟩)
  | op s x y =>
    have hx : x.dep < n := by have : max x.dep y.dep + 1 < n + 1 := hn; omega
    have hy : y.dep < n := by have : max x.dep y.dep + 1 < n + 1 := hn; omega
    obtain ⟨hs, kx, ky⟩ := ko
    have lenx : ∀ l, kindB bs x l → l.length ≤ 1000 := fun l hl => (str_len ok (kind_str ok x l hl)).2
    have leny : ∀ l, kindB bs y l → l.length ≤ 1000 := fun l hl => (str_len ok (kind_str ok y l hl)).2
    have inK : ∀ l, kindB bs (.op s x y) l → l ∈ U := fun l hl => hin l (kind_str ok _ l hl)
    have s0 : SubM M (mset M p (.dict [] (ta, tb))) := SubM.new hp
    simp [-Bool.exists_bool, encK]
    show sq _ _ _ _ _
    rw [sq1]
    simp [-Bool.exists_bool]
    refine ⟨bs, x, rfl, hx, kx, ok, fun d1 t1 => ?_⟩
    obtain ⟨k1, rfl, lt1⟩ := t1
    generalize e1 : D.fd (k1.map (·.1)) (k1.map (·.2)) = d1
    show sq _ _ _ _ _
    rw [sq1]
    simp [-Bool.exists_bool]
    refine ⟨bs, y, rfl, hy, ky, ok, fun d2 t2 => ?_⟩
    obtain ⟨k2, rfl, lt2⟩ := t2
    generalize e2 : D.fd (k2.map (·.1)) (k2.map (·.2)) = d2
    show sq _ _ _ _ _
    rw [sq1]
    simp [-Bool.exists_bool]
    show if s = star then _ else _
    by_cases h3 : s = star
    · subst h3
      rw [if_pos rfl]
      refine ⟨bs, d1, d2, kindB bs x, kindB bs y, U, V, rfl, ⟨k1, e1.symm, lt1⟩, ⟨k2, e2.symm, lt2⟩, fun q hq l hl => (ok.len q hq l hl).2, hU, fun l hl => ?_, hV, ?_, fun d td => drops_to s0 (q d ?_)⟩
      · exact inK l (by show kindB bs (.op star x y) l; rw [kindB, if_neg (by decide), if_neg (by decide)]; exact hl)
      · rintro qq hq f ⟨m, hm, i, hi, j, h1, h2, rfl, _⟩
        exact hinV qq hq m hm i j (by omega) h2
      · rw [kindB, if_neg (by decide), if_neg (by decide)]; exact td
    · rw [if_neg h3]
      show sq _ _ _ _ _
      rw [sq1]
      simp [-Bool.exists_bool]
      show if s = over then _ else _
      by_cases h1 : s = over
      · subst h1
        rw [if_pos rfl]
        show sq _ _ _ _ _
        rw [sq1]
        rw [← e1]
        simp [-Bool.exists_bool]
        obtain ⟨ls, els, hls, nls⟩ := lt1.lines
        rw [els]
        refine fill_map (M := M) (enc := encL) (U := U) (p := p) (S := fun _ => False) (R := fun ρ => ∃ x3 x4 x5 x7, ρ = [some (encB bs), some (encK (.op over x y)), some (.ref p), x3, x4, x5, some d2, x7]) encL (fun m l => ∃ c, 1 ≤ c ∧ c < m.length ∧ l = m.take c ∧ ¬ kindB bs y (m.drop c)) (fun M' s => trivial) (.start ⟨_, _, _, _, rfl⟩ hp) ?_ ?_
        · intro m hm S' ρ M' st N hN
          obtain ⟨x3, x4, x5, x7, rfl⟩ := st.env
          have hSm := (hls m).mp hm
          have hml := lenx m hSm
          unfold w__law_kind_bans_4
          simp [-Bool.exists_bool]
          refine ⟨rg (i := 1) (by omega) (by omega), ?_⟩
          refine fill_range (lo := 1) (n := m.length - 1) (M := M) (enc := encL) (U := U) (p := p) (S := S') (R := fun ρ => ∃ x7, ρ = [some (encB bs), some (encK (.op over x y)), some (.ref p), x3, some (encL m), x5, some d2, x7]) (fun c l => l = m.take c ∧ ¬ kindB bs y (m.drop c)) (fun _ _ => trivial) ⟨⟨_, rfl⟩, st.sub, st.tab, st.bnd⟩ ?_ ?_
          · intro c h1 h2 S'' ρ M' st N' hN'
            obtain ⟨x7, rfl⟩ := st.env
            unfold w__law_kind_bans_3
            rw [← e2]
            simp [-Bool.exists_bool]
            refine ⟨lt2.ok _, ?_⟩
            rw [e2]
            by_cases hT : kindB bs y (m.drop c)
            · have := (lt2.has _).mpr hT
              rw [if_neg (by intro h; rw [h] at this; cases this)]
              exact hN' _ _ ⟨⟨_, rfl⟩, st.sub, let ⟨k, t, e, q⟩ := st.tab; ⟨k, t, e, q.congr fun l => by simp [hT]⟩, fun l hl => hl.elim (st.bnd l) fun h => absurd hT h.2⟩
            · have : valD k2 (encL (m.drop c)) = none := by
                cases h : valD k2 (encL (m.drop c)) with
                | none => rfl
                | some v => exact absurd ((lt2.has _).mp (by rw [h]; rfl)) hT
              rw [if_pos this]
              exact st.put (R' := fun ρ => ∃ x7, ρ = [some (encB bs), some (encK (.op over x y)), some (.ref p), x3, some (encL m), x5, some d2, x7]) encL_ok hU hp (inK _ (by rw [kindB, if_pos rfl]; exact ⟨m, hSm, c, h1, by omega, rfl, hT⟩)) ⟨_, rfl⟩ fun M'' s => hN' _ _ (s.congr fun l => by simp [hT])
          · intro ρ M' s
            exact hN _ _ ((s.env' fun ρ ⟨y, h⟩ => ⟨_, _, _, y, h⟩).congr fun l => or_congr Iff.rfl ⟨fun ⟨i, h1, h2, h3⟩ => ⟨i, h1, by omega, h3⟩, fun ⟨i, h1, h2, h3⟩ => ⟨i, h1, by omega, h3⟩⟩)
        · intro ρ M' st
          obtain ⟨x3, x4, x5, x7, rfl⟩ := st.env
          obtain ⟨kvs, t, hm, kt⟩ := st.tab
          simp
          exact drops_fd st.sub hp hm (q _ ⟨kvs, rfl, (KTlt kt).congr fun l => by rw [kindB, if_pos rfl]; unfold overB; simp [hls]⟩)
      · have h2 : s = under := by rcases hs with h | h | h; exact absurd h h1; exact h; exact absurd h h3
        subst h2
        rw [if_neg h1]
        show sq _ _ _ _ _
        rw [sq1]
        rw [← e2]
        simp [-Bool.exists_bool]
        obtain ⟨ls, els, hls, nls⟩ := lt2.lines
        rw [els]
        refine fill_map (M := M) (enc := encL) (U := U) (p := p) (S := fun _ => False) (R := fun ρ => ∃ x3 x4 x6 x7, ρ = [some (encB bs), some (encK (.op under x y)), some (.ref p), x3, x4, some d1, x6, x7]) encL (fun m l => ∃ c, 1 ≤ c ∧ c < m.length ∧ l = m.drop c ∧ ¬ kindB bs x (m.take c)) (fun M' s => trivial) (.start ⟨_, _, _, _, rfl⟩ hp) ?_ ?_
        · intro m hm S' ρ M' st N hN
          obtain ⟨x3, x4, x6, x7, rfl⟩ := st.env
          have hSm := (hls m).mp hm
          have hml := leny m hSm
          unfold w__law_kind_bans_6
          simp [-Bool.exists_bool]
          refine ⟨rg (i := 1) (by omega) (by omega), ?_⟩
          refine fill_range (lo := 1) (n := m.length - 1) (M := M) (enc := encL) (U := U) (p := p) (S := S') (R := fun ρ => ∃ x7, ρ = [some (encB bs), some (encK (.op under x y)), some (.ref p), x3, some (encL m), some d1, x6, x7]) (fun c l => l = m.drop c ∧ ¬ kindB bs x (m.take c)) (fun _ _ => trivial) ⟨⟨_, rfl⟩, st.sub, st.tab, st.bnd⟩ ?_ ?_
          · intro c h1 h2 S'' ρ M' st N' hN'
            obtain ⟨x7, rfl⟩ := st.env
            unfold w__law_kind_bans_5
            rw [← e1]
            simp [-Bool.exists_bool]
            refine ⟨lt1.ok _, ?_⟩
            rw [e1]
            by_cases hT : kindB bs x (m.take c)
            · have := (lt1.has _).mpr hT
              rw [if_neg (by intro h; rw [h] at this; cases this)]
              exact hN' _ _ ⟨⟨_, rfl⟩, st.sub, let ⟨k, t, e, q⟩ := st.tab; ⟨k, t, e, q.congr fun l => by simp [hT]⟩, fun l hl => hl.elim (st.bnd l) fun h => absurd hT h.2⟩
            · have : valD k1 (encL (m.take c)) = none := by
                cases h : valD k1 (encL (m.take c)) with
                | none => rfl
                | some v => exact absurd ((lt1.has _).mp (by rw [h]; rfl)) hT
              rw [if_pos this]
              exact st.put (R' := fun ρ => ∃ x7, ρ = [some (encB bs), some (encK (.op under x y)), some (.ref p), x3, some (encL m), some d1, x6, x7]) encL_ok hU hp (inK _ (by rw [kindB, if_neg (by decide), if_pos rfl]; exact ⟨m, hSm, c, h1, by omega, rfl, hT⟩)) ⟨_, rfl⟩ fun M'' s => hN' _ _ (s.congr fun l => by simp [hT])
          · intro ρ M' s
            exact hN _ _ ((s.env' fun ρ ⟨y, h⟩ => ⟨_, _, _, y, h⟩).congr fun l => or_congr Iff.rfl ⟨fun ⟨i, h1, h2, h3⟩ => ⟨i, h1, by omega, h3⟩, fun ⟨i, h1, h2, h3⟩ => ⟨i, h1, by omega, h3⟩⟩)
        · intro ρ M' st
          obtain ⟨x3, x4, x6, x7, rfl⟩ := st.env
          obtain ⟨kvs, t, hm, kt⟩ := st.tab
          simp
          exact drops_fd st.sub hp hm (q _ ⟨kvs, rfl, (KTlt kt).congr fun l => by rw [kindB, if_neg (by decide), if_pos rfl]; unfold underB; simp [hls]⟩)
end F83

set_option Elab.async false
set_option linter.all false
set_option maxRecDepth 100000
set_option maxHeartbeats 4000000
namespace F83
open PySem PySem.Spec PyProof.Rows L2 Fw
/-! the order of lines -/
theorem kle_le2 (a b : Line) : PySem.W.dataLe false D.pyd (keyD (encL a)) (keyD (encL b)) = true ↔ Kle a b := by
  rw [← kle_le, PySem.W.dataLe_eq, PySem.W.dataLe_eq]
theorem sort_keys2 (ls : List Line) (hn : ls.Nodup) : ∃ ms : List Line, sortD (ls.map fun l => keyD (encL l)) = ms.map (fun l => keyD (encL l)) ∧ ms.Pairwise Kle ∧ ms.Nodup ∧ ∀ l, l ∈ ms ↔ l ∈ ls := by
  have inj : ∀ a b : Line, keyD (encL a) = keyD (encL b) → a = b := fun a b h => by
    rw [keyD_L, keyD_L] at h
    simp at h
    exact encL_inj.mp h.2
  have hp : (sortD (ls.map fun l => keyD (encL l))).Perm (ls.map fun l => keyD (encL l)) := List.mergeSort_perm _ _
  obtain ⟨ms, e⟩ : ∃ ms : List Line, sortD (ls.map fun l => keyD (encL l)) = ms.map (fun l => keyD (encL l)) := by
    have : ∀ ds : List D, (∀ d ∈ ds, ∃ l, d = keyD (encL l)) → ∃ ms : List Line, ds = ms.map (fun l => keyD (encL l)) := by
      intro ds
      induction ds with
      | nil => intro _; exact ⟨[], rfl⟩
      | cons d ds ih =>
        intro h
        obtain ⟨l, rfl⟩ := h d List.mem_cons_self
        obtain ⟨ms, rfl⟩ := ih fun x hx => h x (List.mem_cons_of_mem _ hx)
        exact ⟨l :: ms, rfl⟩
    refine this _ fun d hd => ?_
    rw [hp.mem_iff, List.mem_map] at hd
    obtain ⟨l, _, rfl⟩ := hd
    exact ⟨l, rfl⟩
  have hs : (sortD (ls.map fun l => keyD (encL l))).Pairwise (fun a b => PySem.W.dataLe false D.pyd a b = true) := PySem.W.sort_pairwise (PySem.W.sortLe_total _ _ _) _
  rw [e] at hs hp
  refine ⟨ms, e, ?_, ?_, fun l => ?_⟩
  · rw [List.pairwise_map] at hs
    exact hs.imp fun h => (kle_le2 _ _).mp h
  · have h1 : (ls.map fun l => keyD (encL l)).Nodup := by
      rw [List.Nodup, List.pairwise_map]
      exact hn.imp fun h e => h (inj _ _ e)
    have h2 := (hp.nodup_iff).mpr h1
    exact (List.pairwise_map.mp h2).imp fun h e => h (by rw [e])
  · have h1 := hp.mem_iff (a := keyD (encL l))
    constructor
    · intro h
      obtain ⟨m, hm, e⟩ := List.mem_map.mp (h1.mp (List.mem_map.mpr ⟨l, h, rfl⟩))
      rw [← inj _ _ e]; exact hm
    · intro h
      obtain ⟨m, hm, e⟩ := List.mem_map.mp (h1.mpr (List.mem_map.mpr ⟨l, h, rfl⟩))
      rw [← inj _ _ e]; exact hm
def sp_ordered : DSp := fun ds M Q => ∃ (d : D) (S : Line → Prop) (U : List Line), ds = [d] ∧ Tf S d ∧ U.length ≤ 100000 ∧ (∀ l, S l → l ∈ U) ∧ ∀ ls : List Line, ls.Pairwise Kle → ls.Nodup → (∀ l, l ∈ ls ↔ S l) → Q (.tup (ls.map encL)) M
theorem ordered_ok : ∀ ds M Q, sp_ordered ds M Q → w__law_ordered (ends Q) (startD 4 ds) M := by
  rintro ds M Q ⟨_, S, U, rfl, ⟨kvs, rfl, lt⟩, hU, hin, q⟩
  have h5 := sz5
  obtain ⟨ls, els, hls, nls⟩ := lt.lines
  have hl : ls.length ≤ 100000 := by
    have := lt.len hin
    have e := congrArg List.length els
    rw [List.length_map, List.length_map] at e
    omega
  obtain ⟨ms, em, h1, h2, h3⟩ := sort_keys2 ls nls
  have hml : ms.length = ls.length := by
    have := congrArg List.length em
    unfold sortD at this
    rw [List.length_mergeSort, List.length_map, List.length_map] at this
    exact this.symm
  unfold w__law_ordered
  simp only [sq_eq]
  rw [sq1]
  simp [-Bool.exists_bool]
  rw [els]
  refine comp_all encL (fun l => keyD (encL l)) trivial ?_ (by omega) ?_
  · intro l hl N hN
    rw [keyD_L] at hN
    simp [-Bool.exists_bool]
    exact ⟨by omega, hN⟩
  · have so := sortOk_keys ls
    rw [List.map_map] at so
    refine ⟨so, ?_⟩
    rw [em]
    refine comp_map (fun l => keyD (encL l)) (fun _ => true) encL trivial ms [] ?_ ?_ (by simp; omega) ?_
    · intro l hl
      rw [keyD_L]
      simp [-Bool.exists_bool]
    · intro l hl _
      rw [keyD_L]
      simp [-Bool.exists_bool]
    · rw [List.filter_eq_self.mpr fun _ _ => rfl, List.nil_append]
      exact drops_of (q ms h1 h2 fun l => by rw [h3, hls])
/-! cutting a line -/
theorem inL_int {f : Bool → Bool} {n : Nat} {ns : List Nat} {M : Mem} {Q : DK} (q : Q (.bl (f (decide (n ∈ ns)))) M) : InL f (.int (n : Int)) (ns.map fun m : Nat => D.int (m : Int)) M Q := by
  have e : ns.map (fun m : Nat => D.int (m : Int)) = (ns.map fun m : Nat => (m : Int)).map D.int := by simp
  have d : decide (D.int (n : Int) ∈ ns.map fun m : Nat => D.int (m : Int)) = decide (n ∈ ns) := by
    rw [Bool.eq_iff_iff]
    simp
    exact ⟨fun ⟨a, h, e⟩ => (Int.ofNat.inj e) ▸ h, fun h => ⟨n, h, rfl⟩⟩
  rw [← d] at q
  exact inL_cl (by simp [D.cl]) (by rw [e]; exact ints_cl _) (by simp [D.dep]) (by rw [e, ints_dep]; decide) q
/-- a list, frozen or not -/
def RL (d : D) (M : Mem) (xs : List D) : Prop := d = .fl xs ∨ ∃ a, d = .ref a ∧ M a = some (.lst xs)
theorem RL.src {d : D} {M : Mem} {xs : List D} {k : Src → Prop} (h : RL d M xs) (q : ∀ st : Mem → Prop, st M → k ⟨xs, st⟩) : withSrc d M k := by
  rcases h with rfl | ⟨a, rfl, h⟩
  · exact q _ trivial
  · rw [y_srcL h]; exact q _ h
theorem RL.inn {d x : D} {M : Mem} {xs : List D} {f : Bool → Bool} {Q : DK} (h : RL d M xs) (q : InL f x xs M Q) : dIn f x d M Q := by
  rcases h with rfl | ⟨a, rfl, h⟩
  · exact q
  · rw [y_inL h]; exact q
theorem RL.sub {d : D} {M M' : Mem} {xs : List D} (h : RL d M xs) (s : SubM M M') : RL d M' xs := h.imp id fun ⟨a, e, h⟩ => ⟨a, e, s _ _ h⟩
def sp_cuttable : DSp := fun ds M Q => ∃ (l : Line) (ps : List (LP × D)), ds = [encL l, .fl (ps.map (·.2))] ∧ (∀ p ∈ ps, Tf p.1 p.2) ∧ l.length ≤ 1000 ∧ ps.length ≤ 1000 ∧ ∀ b, (b = true ↔ Reach (ps.map (·.1)) l l.length) → Q (.bl b) M
theorem cuttable_ok : ∀ ds M Q, sp_cuttable ds M Q → w__law_cuttable (ends Q) (startD 7 ds) M := by
  rintro ds M Q ⟨l, ps, rfl, hps, hl, hpl, q⟩
  have h5 := sz5
  unfold w__law_cuttable
  simp only [sq_eq]
  rw [sq1]
  simp [-Bool.exists_bool]
  rw [sq1]
  simp [-Bool.exists_bool]
  refine ⟨by omega, ?_⟩
  refine loop_map (xs := ps) (fun p => p.2) (fun done ρ M' => ∃ (x2 : D) (x3 x4 x5 x6 : Option D) (ns : List Nat), ρ = [some (encL l), some (.fl (ps.map (·.2))), some x2, x3, x4, x5, x6] ∧ RL x2 M' (ns.map fun m : Nat => D.int (m : Int)) ∧ SubM M M' ∧ ns.length ≤ 1001 ∧ ∀ m, m ∈ ns ↔ Reach (done.map (·.1)) l m)
    ⟨_, none, none, none, none, [0], rfl, .inl rfl, .refl, by simp, fun m => ?_⟩ ?_ ?_
  · simp
    constructor
    · rintro rfl; exact ⟨[], by omega, trivial, by simp⟩
    · rintro ⟨qs, h1, h2, h3⟩
      cases qs with
      | nil =>
        have := congrArg List.length h3
        simp at this
        omega
      | cons a b => exact h2.elim
  · rintro done ⟨F, d⟩ rest hx ρ M' ⟨x2, x3, x4, x5, x6, ns, rfl, rl, sm, hn, hns⟩ N hN
    refine ⟨_, _, .refl, .refl, trivial, ?_⟩
    unfold w__law_cuttable_2
    simp only [sq_eq, y_tg1]
    rw [sq1]
    simp [-Bool.exists_bool]
    intro p hp
    rw [sq1]
    simp [-Bool.exists_bool]
    obtain ⟨kvs, ed, lt⟩ := hps (F, d) (by rw [hx]; simp)
    have ed : d = .fd (kvs.map (·.1)) (kvs.map (·.2)) := ed
    have lt : LT kvs F := lt
    refine ⟨rg (i := 1) (j := l.length + 1) (by omega) (by omega), ?_⟩
    let P : Nat → Prop := fun m => ∃ n, Reach (done.map (·.1)) l n ∧ n + 1 ≤ m ∧ m ≤ l.length ∧ ¬ F ((l.take m).drop n)
    refine loop_range (lo := 1) (n := l.length) (fun i ρ M2 => ∃ (x5 x6 : Option D) (us : List Nat), ρ = [some (encL l), some (.fl (ps.map (·.2))), some x2, some d, some (.ref p), x5, x6] ∧ SubM M' M2 ∧ M2 p = some (.lst (us.map fun m : Nat => D.int (m : Int))) ∧ us.length ≤ i ∧ ∀ m, m ∈ us ↔ m < 1 + i ∧ P m) ⟨x5, x6, [], rfl, SubM.new hp, mset_same, by simp, fun m => ?_⟩ ?_ ?_
    · simp
      intro h hP
      obtain ⟨n, _, h2, _⟩ := hP
      omega
    · rintro i hi ρ M2 ⟨x5, x6, us, rfl, s2, hM2, hul, hus⟩ N2 hN2
      refine ⟨_, _, .refl, .refl, trivial, ?_⟩
      unfold w__law_cuttable_1
      simp [-Bool.exists_bool, -Int.natCast_add]
      refine (rl.sub s2).src fun st hst => ?_
      let f : Nat → Bool := fun n => decide (n < 1 + i) && !(valD kvs (encL ((l.take (1 + i)).drop n))).isSome
      refine comp_if (fun m : Nat => D.int (m : Int)) f (fun m : Nat => D.int (m : Int)) hst ?_ ?_ (by omega) ?_
      · intro n _ N3 hN3
        have hN3 : N3 (decide (n < 1 + i) && !(valD kvs (encL ((l.take (1 + i)).drop n))).isSome) M2 := hN3
        simp [-Bool.exists_bool, -Int.natCast_add]
        by_cases hlt : n < 1 + i
        · rw [if_pos (by omega), ed]
          simp [-Bool.exists_bool]
          simp [hlt] at hN3
          exact ⟨lt.ok _, hN3⟩
        · rw [if_neg (by omega)]
          simp [hlt] at hN3
          exact hN3
      · intro n _ _ N3 hN3
        simp [-Bool.exists_bool]
        exact hN3
      · have key : (∃ n, n ∈ ns ∧ f n = true) ↔ P (1 + i) := by
          constructor
          · rintro ⟨n, h1, h2⟩
            have h2 : (decide (n < 1 + i) && !(valD kvs (encL ((l.take (1 + i)).drop n))).isSome) = true := h2
            rw [Bool.and_eq_true, decide_eq_true_eq, Bool.not_eq_true', Bool.eq_false_iff, ne_eq, lt.has] at h2
            exact ⟨n, (hns n).mp h1, by omega, by omega, h2.2⟩
          · rintro ⟨n, h1, h2, h3, h4⟩
            refine ⟨n, (hns n).mpr h1, ?_⟩
            show (decide (n < 1 + i) && !(valD kvs (encL ((l.take (1 + i)).drop n))).isSome) = true
            rw [Bool.and_eq_true, decide_eq_true_eq, Bool.not_eq_true', Bool.eq_false_iff, ne_eq, lt.has]
            exact ⟨by omega, h4⟩
        simp [-Bool.exists_bool]
        by_cases hP : P (1 + i)
        · rw [if_pos (key.mpr hP)]
          refine ⟨⟨_, hM2⟩, _, hM2, by simp; omega, hN2 _ _ ⟨_, _, us ++ [1 + i], rfl, s2.set hp, by rw [mset_same]; simp, by simp; omega, fun m => ?_⟩⟩
          rw [List.mem_append, List.mem_singleton, hus]
          constructor
          · rintro (h | rfl)
            · exact ⟨by omega, h.2⟩
            · exact ⟨by omega, hP⟩
          · rintro ⟨h1, h2⟩
            by_cases e : m = 1 + i
            · exact .inr e
            · exact .inl ⟨by omega, h2⟩
        · rw [if_neg (fun h => hP (key.mp h))]
          refine hN2 _ _ ⟨_, _, us, rfl, s2, hM2, by omega, fun m => ?_⟩
          rw [hus]
          constructor
          · exact fun h => ⟨by omega, h.2⟩
          · rintro ⟨h1, h2⟩
            by_cases e : m = 1 + i
            · subst e; exact absurd h2 hP
            · exact ⟨by omega, h2⟩
    · rintro ρ M2 ⟨x5, x6, us, rfl, s2, hM2, hul, hus⟩
      refine ⟨_, _, .refl, .refl, trivial, ?_⟩
      simp [-Bool.exists_bool]
      refine hN _ _ ⟨.ref p, _, _, _, _, us, rfl, .inr ⟨p, rfl, hM2⟩, sm.trans s2, by omega, fun m => ?_⟩
      rw [hus, List.map_append, show List.map (fun x : LP × D => x.1) [(F, d)] = [F] from rfl, reach_step]
      constructor
      · exact fun h => h.2
      · intro h
        have h' := h
        obtain ⟨n, h1, h2, h3, h4⟩ := h'
        exact ⟨by omega, h⟩
  · rintro ρ M' ⟨x2, x3, x4, x5, x6, ns, rfl, rl, sm, hn, hns⟩
    refine ⟨_, _, .refl, .refl, trivial, ?_⟩
    simp [-Bool.exists_bool]
    exact rl.inn (inL_int (drops_to sm (q _ (by simp [hns]))))
/-! whether a line fails -/
def sp_fails (nn : Nat) : DSp := fun ds M Q => ∃ (bs : Bans) (ks : List Kd) (g : Kd), ds = [encB bs, encS ks g] ∧ SeqOk nn bs ks g ∧ ∀ b, (b = true ↔ Fails bs ks g) → Q (.bl b) M
theorem fails_ok (nn : Nat) : ∀ ds M Q, sp_fails nn ds M Q → w__law_fails (sp_lkind nn) sp_cuttable (ends Q) (startD 5 ds) M := by
  rintro ds M Q ⟨bs, ks, g, rfl, ok, q⟩
  have h5 := sz5
  have few := ok.few
  unfold w__law_fails
  simp only [sq_eq]
  rw [sq1]
  simp [-Bool.exists_bool, encS]
  refine comp_invM encK (fun done acc M' => M' = M ∧ ∃ ps : List (LP × D), acc = ps.map (·.2) ∧ (∀ p ∈ ps, Tf p.1 p.2) ∧ ps.map (·.1) = done.map (kindB bs)) (fun _ _ _ _ => trivial) ⟨rfl, [], rfl, by simp, rfl⟩ ?_ ?_ (by omega)
  · rintro done k rest acc M' hx ⟨rfl, ps, rfl, hps, e⟩ N hN
    obtain ⟨h1, h2, h3⟩ := ok.kinds k (by rw [hx]; simp)
    simp [-Bool.exists_bool]
    refine ⟨bs, k, rfl, h2, h1, ok.bans, fun d td => hN _ _ ⟨rfl, ps ++ [(kindB bs k, d)], by simp, fun p hp => ?_, by simp [e]⟩⟩
    rw [List.mem_append, List.mem_singleton] at hp
    rcases hp with hp | rfl
    · exact hps p hp
    · exact td
  · rintro acc M' ⟨rfl, ps, rfl, hps, e⟩
    have hpl : ps.length = ks.length := by simpa using congrArg List.length e
    obtain ⟨h1, h2, h3⟩ := ok.kinds g (by simp)
    show sq _ _ _ _ _
    rw [sq1]
    simp [-Bool.exists_bool]
    refine ⟨bs, g, rfl, h2, h1, ok.bans, ?_⟩
    rintro _ ⟨kvs, rfl, lt⟩
    obtain ⟨ls, els, hls, nls⟩ := lt.lines
    simp [-Bool.exists_bool]
    rw [els]
    refine loop_map (xs := ls) encL (fun done ρ M2 => M2 = M' ∧ ∃ x3 x4, ρ = [some (encB bs), some (encS ks g), some (.fl (ps.map (·.2))), x3, x4] ∧ ∀ l ∈ done, ¬ Reach (ps.map (·.1)) l l.length) ⟨rfl, _, _, rfl, by simp⟩ ?_ ?_
    · rintro done l rest hx ρ M2 ⟨rfl, x3, x4, rfl, hd⟩ N hN
      refine ⟨_, _, .refl, .refl, trivial, ?_⟩
      unfold w__law_fails_1
      simp [-Bool.exists_bool]
      have hkl : kindB bs g l := (hls l).mp (by rw [hx]; simp)
      refine ⟨l, ps, rfl, hps, (str_len ok.bans (kind_str ok.bans g l hkl)).2, by omega, fun b hb => ?_⟩
      simp [-Bool.exists_bool]
      cases b with
      | true =>
        rw [if_pos rfl]
        exact drops_of (q true (iff_of_true rfl ⟨l, hkl, by rw [← e]; exact hb.mp rfl⟩))
      | false =>
        rw [if_neg Bool.false_ne_true]
        refine hN _ _ ⟨rfl, _, _, rfl, fun x hx => ?_⟩
        rw [List.mem_append, List.mem_singleton] at hx
        rcases hx with hx | rfl
        · exact hd x hx
        · exact fun h => Bool.false_ne_true (hb.mpr h)
    · rintro ρ M2 ⟨rfl, x3, x4, rfl, hd⟩
      refine ⟨_, _, .refl, .refl, trivial, ?_⟩
      simp [-Bool.exists_bool]
      exact drops_of (q false (iff_of_false Bool.false_ne_true fun ⟨l, h1, h2⟩ => hd l ((hls l).mpr h1) (by rw [e]; exact h2)))
end F83

set_option Elab.async false
set_option linter.all false
set_option maxRecDepth 100000
set_option maxHeartbeats 4000000
namespace F83
open PySem PySem.Spec PyProof.Rows L2 Fw
theorem Cut.len : ∀ {Fs : List LP} {ps : List Line}, Cut Fs ps → Fs.length = ps.length
  | [], [], _ => rfl
  | [], _ :: _, h => h.elim
  | _ :: _, [], h => h.elim
  | _ :: Fs, _ :: ps, h => by simp [Cut.len h.2.2]
theorem Cut.at : ∀ {Fs : List LP} {ps : List Line} (i : Nat) (h1 : i < Fs.length) (h2 : i < ps.length), Cut Fs ps → ps[i] ≠ [] ∧ ¬ Fs[i] ps[i]
  | [], _, i, h1, _, _ => by simp at h1
  | F :: Fs, [], i, _, h2, _ => by simp at h2
  | F :: Fs, p :: ps, 0, _, _, h => ⟨h.1, h.2.1⟩
  | F :: Fs, p :: ps, i + 1, h1, h2, h => by
    have := Cut.at i (by simpa using h1) (by simpa using h2) h.2.2
    simpa using this
def sp_shows (nn : Nat) : DSp := fun ds M Q => ∃ (bs : Bans) (ks : List Kd) (g : Kd) (l : Line) (ps : List Line), ds = [encB bs, encS ks g, encLs ps] ∧ SeqOk nn bs ks g ∧ l.length ≤ 100 ∧ kindB bs g l ∧ Way (ks.map (kindB bs)) l l.length ps ∧ Q (.bl true) M
theorem take_flat {ps : List Line} {i : Nat} (h : i < ps.length) : (ps.take (i + 1)).flatten = (ps.take i).flatten ++ ps[i] := by
  rw [List.take_succ_eq_append_getElem h, List.flatten_append, List.flatten_cons, List.flatten_nil, List.append_nil]
theorem mem_len {ps : List Line} {i : Nat} (h : i < ps.length) : ps[i].length ≤ ps.flatten.length := by
  rw [List.length_flatten]
  have : ∀ (ps : List Line) (i : Nat) (h : i < ps.length), ps[i].length ≤ (ps.map List.length).sum := by
    intro ps
    induction ps with
    | nil => intro i h; simp at h
    | cons p ps ih =>
      intro i h
      cases i with
      | zero => simp
      | succ i => have := ih i (by simpa using h); simp at this ⊢; omega
  exact this ps i h
theorem take_len {ps : List Line} {i : Nat} : (ps.take i).flatten.length ≤ ps.flatten.length := by
  have : ps.flatten = (ps.take i).flatten ++ (ps.drop i).flatten := by rw [← List.flatten_append, List.take_append_drop]
  rw [this, List.length_append]; omega
theorem shows_ok (nn : Nat) : ∀ ds M Q, sp_shows nn ds M Q → w__law_shows sp_whole (sp_lkind nn) (ends Q) (startD 6 ds) M := by
  rintro ds M Q ⟨bs, ks, g, l, ps, rfl, ok, hl, hk, way, q⟩
  have h5 := sz5
  have few := ok.few
  obtain ⟨_, cut, fl⟩ := way
  rw [List.take_length] at fl
  have lps := cut.len
  rw [List.length_map] at lps
  unfold w__law_shows
  simp only [sq_eq]
  rw [sq1]
  simp [-Bool.exists_bool, encS, encLs]
  rw [if_pos (by omega), sq1]
  simp [-Bool.exists_bool]
  rw [sq1]
  simp [-Bool.exists_bool]
  refine ⟨by unfold RgOk2; omega, ?_⟩
  refine loop_range (lo := 0) (n := ps.length) (fun i ρ M' => M' = M ∧ ∃ x4 x5, ρ = [some (encB bs), some (encS ks g), some (encLs ps), some (encL (ps.take i).flatten), x4, x5]) ⟨rfl, none, none, rfl⟩ ?_ ?_
  · rintro i hi ρ M' ⟨rfl, x4, x5, rfl⟩ N hN
    refine ⟨_, _, .refl, .refl, trivial, ?_⟩
    have hik : i < ks.length := by omega
    obtain ⟨c1, c2⟩ := cut.at i (by simpa using hik) hi
    rw [List.getElem_map] at c2
    have a1 : L2.atI (ps.map encL) (i : Int) = some (encL ps[i]) := at_nat (by rw [List.getElem?_map, List.getElem?_eq_getElem hi]; rfl)
    have a2 : L2.atI (ks.map encK) (i : Int) = some (encK ks[i]) := at_nat (by rw [List.getElem?_map, List.getElem?_eq_getElem hik]; rfl)
    have p1 : 0 < ps[i].length := List.length_pos_iff.mpr c1
    have p2 := mem_len hi
    rw [fl] at p2
    unfold w__law_shows_1
    simp only [sq_eq, y_tg1]
    rw [sq1]
    simp [-Bool.exists_bool, encLs, encS, a1]
    rw [if_neg (by omega), if_neg (by omega), sq1]
    simp [-Bool.exists_bool, a1]
    refine comp_if (xs := ps[i]) D.int (fun _ => false) D.int trivial ?_ (fun _ _ h => by cases h) (by omega) ?_
    · intro m _ N2 hN2
      simp [-Bool.exists_bool]
      exact ⟨m, rfl, true, rfl, hN2⟩
    · simp [-Bool.exists_bool]
      show sq _ _ _ _ _
      rw [sq1]
      simp [-Bool.exists_bool, a1, a2]
      obtain ⟨h1, h2, h3⟩ := ok.kinds ks[i] (by simp)
      refine ⟨bs, ks[i], rfl, h2, h1, ok.bans, ?_⟩
      rintro _ ⟨kvs, rfl, lt⟩
      simp [-Bool.exists_bool]
      refine ⟨lt.ok _, ?_⟩
      have nv : (valD kvs (encL ps[i])).isSome = false := by rw [Bool.eq_false_iff]; exact fun h => c2 ((lt.has _).mp h)
      rw [nv]
      simp [-Bool.exists_bool, a1]
      show dAdd (.tup _) (.tup _) M' _
      rw [y_addT]
      refine ⟨?_, hN _ _ ⟨rfl, some (.int (i : Int)), x5, ?_⟩⟩
      · have t1 := take_len (ps := ps) (i := i)
        rw [fl] at t1
        rw [List.length_map, List.length_map]
        omega
      · rw [take_flat hi]; simp [encL, encS, encLs]
  · rintro ρ M' ⟨rfl, x4, x5, rfl⟩
    refine ⟨_, _, .refl, .refl, trivial, ?_⟩
    simp [-Bool.exists_bool, encS]
    obtain ⟨h1, h2, h3⟩ := ok.kinds g (by simp)
    refine ⟨bs, g, rfl, h2, h1, ok.bans, ?_⟩
    rintro _ ⟨kvs, rfl, lt⟩
    simp [-Bool.exists_bool]
    refine ⟨lt.ok _, ?_⟩
    rw [fl, (lt.has _).mpr hk]
    exact drops_of q
def sp_agrees (nn : Nat) : DSp := fun ds M Q => ∃ (bs : Bans) (ks : List Kd) (g : Kd) (due : Bool), ds = [encB bs, encS ks g, .bl due] ∧ SeqOk nn bs ks g ∧ (∀ l, kindB bs g l → l.length ≤ 100) ∧ (due = true ↔ ¬ Fails bs ks g) ∧ Q (.bl true) M
theorem agrees_ok (nn : Nat) : ∀ ds M Q, sp_agrees nn ds M Q → w__law_truth_agrees (sp_holds nn) sp_truth (sp_fl nn) (sp_shows nn) (ends Q) (startD 4 ds) M := by
  rintro ds M Q ⟨bs, ks, g, due, rfl, ok, h100, hd, q⟩
  unfold w__law_truth_agrees
  simp only [sq_eq]
  rw [sq1]
  simp [-Bool.exists_bool]
  refine ⟨bs, ks, g, rfl, ok, fun b hb => ⟨b, due, rfl, ?_⟩⟩
  have e : b = due := by rw [Bool.eq_iff_iff, hb, hd]
  subst e
  simp [-Bool.exists_bool]
  show sq _ _ _ _ _
  rw [sq1]
  simp [-Bool.exists_bool]
  refine ⟨bs, ks, g, rfl, ok, fun l ps h1 h2 => ?_, fun h => ?_⟩
  · have hf : ¬ b = true := fun h => hd.mp h ⟨l, h1, ps, h2⟩
    show sq _ _ _ _ _
    rw [sq1]
    simp [-Bool.exists_bool, hf]
    exact ⟨bs, ks, g, l, ps, rfl, ok, h100 l h1, h1, h2, drops_of q⟩
  · have ht : b = true := hd.mpr h
    show sq _ _ _ _ _
    rw [sq1]
    simp [-Bool.exists_bool, ht, isN]
    exact drops_of q
def sp_all (nn : Nat) : DSp := fun ds M Q => ∃ (bs : Bans) (ks : List Kd) (g : Kd), ds = [encB bs, encS ks g] ∧ SeqOk nn bs ks g ∧ Q (.bl true) M
theorem all_ok (nn : Nat) : ∀ ds M Q, sp_all nn ds M Q → w__law_all_lines (sp_lkind nn) sp_ordered (sp_bl nn) (sp_alike 5) (ends Q) (startD 3 ds) M := by
  rintro ds M Q ⟨bs, ks, g, rfl, ok, q⟩
  have h5 := sz5
  have few := ok.few
  unfold w__law_all_lines
  simp [-Bool.exists_bool, encS]
  refine ⟨by omega, by omega, ?_⟩
  rw [show List.map encK ks ++ [encK g] = (ks ++ [g]).map encK by simp]
  refine loop_map (xs := ks ++ [g]) encK (fun done ρ M' => M' = M ∧ ∃ x2, ρ = [some (encB bs), some (encS ks g), x2]) ⟨rfl, none, rfl⟩ ?_ ?_
  · rintro done k rest hx ρ M' ⟨rfl, x2, rfl⟩ N hN
    refine ⟨_, _, .refl, .refl, trivial, ?_⟩
    unfold w__law_all_lines_1
    obtain ⟨h1, h2, h3⟩ := ok.kinds k (by
      have : k ∈ ks ++ [g] := by rw [hx]; simp
      simp at this ⊢
      exact this.symm)
    simp [-Bool.exists_bool]
    refine ⟨bs, k, rfl, h2, ok.bans, fun ls p1 n1 m1 => ?_⟩
    refine ⟨bs, k, rfl, h2, h1, ok.bans, fun d td => ?_⟩
    obtain ⟨U, hU, hin⟩ := ok.bans.uni
    refine ⟨d, kindB bs k, U, rfl, td, hU, fun l hl => hin l (kind_str ok.bans k l hl), fun ls2 p2 n2 m2 => ?_⟩
    have e : ls2 = ls := kle_uniq p2 p1 n2 n1 fun l => by rw [m1, m2]
    subst e
    refine ⟨_, rfl, ?_, ?_⟩
    · refine .inr (.inr (.inr ⟨_, rfl, ?_, fun x hx => ?_⟩))
      · rw [List.length_map]
        exact Nat.le_trans (nodup_le n1 fun l hl => hin l (kind_str ok.bans k l ((m1 l).mp hl))) hU
      · obtain ⟨l, hl, rfl⟩ := List.mem_map.mp hx
        have := (str_len ok.bans (kind_str ok.bans k l ((m1 l).mp hl))).2
        refine .inr (.inr (.inr ⟨l.map D.int, rfl, by rw [List.length_map]; omega, fun x hx => ?_⟩))
        obtain ⟨i, hi, rfl⟩ := List.mem_map.mp hx
        exact .inl ⟨i, rfl⟩
    · simp [-Bool.exists_bool]
      exact hN _ _ ⟨rfl, _, rfl⟩
  · rintro ρ M' ⟨rfl, x2, rfl⟩
    refine ⟨_, _, .refl, .refl, trivial, ?_⟩
    simp [-Bool.exists_bool]
    exact drops_of q
end F83

set_option Elab.async false
set_option linter.all false
set_option maxRecDepth 100000
set_option maxHeartbeats 4000000
namespace F83
open PySem PySem.Spec PyProof.Rows L2 Fw
/-! what a row of kinds allows -/
def CutL (Fs : List LP) (l : Line) : Prop := ∃ ps, Cut Fs ps ∧ ps.flatten = l
theorem cutL_nil {l : Line} : CutL [] l ↔ l = [] := by
  constructor
  · rintro ⟨ps, h, rfl⟩
    cases ps with
    | nil => rfl
    | cons p ps => exact h.elim
  · rintro rfl; exact ⟨[], trivial, rfl⟩
theorem cutL_cons {F : LP} {Fs : List LP} {l : Line} : CutL (F :: Fs) l ↔ ∃ p l' : Line, p ≠ [] ∧ ¬ F p ∧ CutL Fs l' ∧ l = p ++ l' := by
  constructor
  · rintro ⟨ps, h, rfl⟩
    cases ps with
    | nil => exact h.elim
    | cons p ps => exact ⟨p, ps.flatten, h.1, h.2.1, ⟨ps, h.2.2, rfl⟩, rfl⟩
  · rintro ⟨p, l', h1, h2, ⟨ps, h3, rfl⟩, rfl⟩
    exact ⟨p :: ps, ⟨h1, h2, h3⟩, rfl⟩
theorem cutL_app {Gs : List LP} : ∀ {Fs : List LP} {l : Line}, CutL (Fs ++ Gs) l ↔ ∃ a b : Line, CutL Fs a ∧ CutL Gs b ∧ l = a ++ b
  | [], l => by
    constructor
    · intro h; exact ⟨[], l, cutL_nil.mpr rfl, h, rfl⟩
    · rintro ⟨a, b, h1, h2, rfl⟩
      rw [cutL_nil.mp h1]; exact h2
  | F :: Fs, l => by
    rw [List.cons_append, cutL_cons]
    constructor
    · rintro ⟨p, l', h1, h2, h3, rfl⟩
      obtain ⟨a, b, h4, h5, rfl⟩ := cutL_app.mp h3
      exact ⟨p ++ a, b, cutL_cons.mpr ⟨p, a, h1, h2, h4, rfl⟩, h5, by simp⟩
    · rintro ⟨a, b, h1, h2, rfl⟩
      obtain ⟨p, l', h3, h4, h5, rfl⟩ := cutL_cons.mp h1
      exact ⟨p, l' ++ b, h3, h4, cutL_app.mpr ⟨l', b, h5, h2, rfl⟩, by simp⟩
theorem cutL_one {F : LP} {l : Line} : CutL [F] l ↔ l ≠ [] ∧ ¬ F l := by
  rw [cutL_cons]
  constructor
  · rintro ⟨p, l', h1, h2, h3, rfl⟩
    rw [cutL_nil.mp h3, List.append_nil]; exact ⟨h1, h2⟩
  · rintro ⟨h1, h2⟩
    exact ⟨l, [], h1, h2, cutL_nil.mpr rfl, by simp⟩
theorem cutL_ne {Fs : List LP} {l : Line} (h : Fs ≠ []) (c : CutL Fs l) : l ≠ [] := by
  cases Fs with
  | nil => exact absurd rfl h
  | cons F Fs =>
    obtain ⟨p, l', h1, _, _, rfl⟩ := cutL_cons.mp c
    intro e
    rw [List.append_eq_nil_iff] at e
    exact h1 e.1
theorem reach_cutL {Fs : List LP} {l : Line} : Reach Fs l l.length ↔ CutL Fs l := by
  constructor
  · rintro ⟨ps, _, h1, h2⟩
    rw [List.take_length] at h2
    exact ⟨ps, h1, h2⟩
  · rintro ⟨ps, h1, h2⟩
    exact ⟨ps, Nat.le_refl _, h1, by rw [List.take_length]; exact h2⟩
def Alw (bs : Bans) (ks : List Kd) : Line → Prop := CutL (ks.map (kindB bs))
theorem fails_iff {bs : Bans} {ks : List Kd} {g : Kd} : Fails bs ks g ↔ ∃ l, kindB bs g l ∧ Alw bs ks l := by
  unfold Fails Alw
  simp only [reach_cutL]
theorem alw_app {bs : Bans} {ks ms : List Kd} {l : Line} : Alw bs (ks ++ ms) l ↔ ∃ a b : Line, Alw bs ks a ∧ Alw bs ms b ∧ l = a ++ b := by
  unfold Alw; rw [List.map_append]; exact cutL_app
theorem alw_cons {bs : Bans} {k : Kd} {ks : List Kd} {l : Line} : Alw bs (k :: ks) l ↔ ∃ p l' : Line, p ≠ [] ∧ ¬ kindB bs k p ∧ Alw bs ks l' ∧ l = p ++ l' := cutL_cons
theorem alw_one {bs : Bans} {k : Kd} {l : Line} : Alw bs [k] l ↔ l ≠ [] ∧ ¬ kindB bs k l := cutL_one
theorem alw_ne {bs : Bans} {ks : List Kd} {l : Line} (h : ks ≠ []) (c : Alw bs ks l) : l ≠ [] := cutL_ne (by simpa using h) c
/-! the two slashes -/
theorem overB_iff {S T : LP} {u : Line} : overB S T u ↔ u ≠ [] ∧ ∃ v : Line, v ≠ [] ∧ S (u ++ v) ∧ ¬ T v := by
  constructor
  · rintro ⟨m, hm, c, h1, h2, rfl, h3⟩
    refine ⟨fun e => ?_, m.drop c, fun e => ?_, by rw [List.take_append_drop]; exact hm, h3⟩
    · have := congrArg List.length e; rw [List.length_take, List.length_nil] at this; omega
    · have := congrArg List.length e; rw [List.length_drop, List.length_nil] at this; omega
  · rintro ⟨h1, v, h2, h3, h4⟩
    have p1 := List.length_pos_iff.mpr h1
    have p2 := List.length_pos_iff.mpr h2
    exact ⟨u ++ v, h3, u.length, p1, by rw [List.length_append]; omega, by simp, by simpa using h4⟩
theorem underB_iff {T S : LP} {u : Line} : underB T S u ↔ u ≠ [] ∧ ∃ v : Line, v ≠ [] ∧ S (v ++ u) ∧ ¬ T v := by
  constructor
  · rintro ⟨m, hm, c, h1, h2, rfl, h3⟩
    refine ⟨fun e => ?_, m.take c, fun e => ?_, by rw [List.take_append_drop]; exact hm, h3⟩
    · have := congrArg List.length e; rw [List.length_drop, List.length_nil] at this; omega
    · have := congrArg List.length e; rw [List.length_take, List.length_nil] at this; omega
  · rintro ⟨h1, v, h2, h3, h4⟩
    have p1 := List.length_pos_iff.mpr h1
    have p2 := List.length_pos_iff.mpr h2
    exact ⟨v ++ u, h3, v.length, p2, by rw [List.length_append]; omega, by simp, by simpa using h4⟩
theorem kB_over {bs : Bans} {A B : Kd} : kindB bs (.op over A B) = overB (kindB bs A) (kindB bs B) := by rw [kindB, if_pos rfl]
theorem kB_under {bs : Bans} {A B : Kd} : kindB bs (.op under A B) = underB (kindB bs A) (kindB bs B) := by rw [kindB, if_neg (by decide), if_pos rfl]
theorem kB_star {bs : Bans} {A B : Kd} : kindB bs (.op star A B) = pairB bs (kindB bs A) (kindB bs B) := by rw [kindB, if_neg (by decide), if_neg (by decide)]
theorem over_move {bs : Bans} {L : List Kd} {A B : Kd} (h : L ≠ []) : Fails bs (L ++ [B]) A ↔ Fails bs L (.op over A B) := by
  rw [fails_iff, fails_iff, kB_over]
  constructor
  · rintro ⟨l, h1, h2⟩
    obtain ⟨u, v, h3, h4, rfl⟩ := alw_app.mp h2
    obtain ⟨h5, h6⟩ := alw_one.mp h4
    exact ⟨u, overB_iff.mpr ⟨alw_ne h h3, v, h5, h1, h6⟩, h3⟩
  · rintro ⟨u, h1, h2⟩
    obtain ⟨_, v, h3, h4, h5⟩ := overB_iff.mp h1
    exact ⟨u ++ v, h4, alw_app.mpr ⟨u, v, h2, alw_one.mpr ⟨h3, h5⟩, rfl⟩⟩
theorem under_move {bs : Bans} {L : List Kd} {A B : Kd} (h : L ≠ []) : Fails bs (B :: L) A ↔ Fails bs L (.op under B A) := by
  rw [fails_iff, fails_iff, kB_under]
  constructor
  · rintro ⟨l, h1, h2⟩
    obtain ⟨v, u, h3, h4, h5, rfl⟩ := alw_cons.mp h2
    exact ⟨u, underB_iff.mpr ⟨alw_ne h h5, v, h3, h1, h4⟩, h5⟩
  · rintro ⟨u, h1, h2⟩
    obtain ⟨_, v, h3, h4, h5⟩ := underB_iff.mp h1
    exact ⟨v ++ u, h4, alw_cons.mpr ⟨v, u, h3, h5, h2, rfl⟩⟩
/-! pairs: every kind's bans are bans of lines in contexts -/
theorem rowB_iff {F G : LP} {w : Line} : rowB F G w ↔ ∃ a b : Line, w = a ++ b ∧ a ≠ [] ∧ b ≠ [] ∧ ¬ F a ∧ ¬ G b := by
  constructor
  · rintro ⟨c, h1, h2, h3, h4⟩
    refine ⟨w.take c, w.drop c, (List.take_append_drop ..).symm, fun e => ?_, fun e => ?_, h3, h4⟩
    · have := congrArg List.length e; rw [List.length_take, List.length_nil] at this; omega
    · have := congrArg List.length e; rw [List.length_drop, List.length_nil] at this; omega
  · rintro ⟨a, b, rfl, h1, h2, h3, h4⟩
    have p1 := List.length_pos_iff.mpr h1
    have p2 := List.length_pos_iff.mpr h2
    exact ⟨a.length, p1, by rw [List.length_append]; omega, by simpa using h3, by simpa using h4⟩
theorem frB_iff {ls : List Line} {F G : LP} {x y : Line} : frB ls F G (x, y) ↔ ∃ a b : Line, a ≠ [] ∧ b ≠ [] ∧ ¬ F a ∧ ¬ G b ∧ x ++ (a ++ b) ++ y ∈ ls := by
  constructor
  · rintro ⟨m, hm, i, hi, j, h1, h2, e, hr⟩
    obtain ⟨a, b, e2, h3, h4, h5, h6⟩ := rowB_iff.mp hr
    simp only [Prod.mk.injEq] at e
    obtain ⟨rfl, rfl⟩ := e
    refine ⟨a, b, h3, h4, h5, h6, ?_⟩
    rw [← e2]
    have : m.take i ++ (m.take j).drop i ++ m.drop j = m := by
      have e3 : m.take i = (m.take j).take i := by rw [List.take_take, Nat.min_eq_left (by omega)]
      rw [e3, List.take_append_drop, List.take_append_drop]
    rw [this]; exact hm
  · rintro ⟨a, b, h1, h2, h3, h4, hm⟩
    have p1 := List.length_pos_iff.mpr h1
    have p2 := List.length_pos_iff.mpr h2
    have e1 : (x ++ (a ++ b) ++ y).take (x.length + (a.length + b.length)) = x ++ (a ++ b) := by
      rw [List.take_append_of_le_length (by simp)]
      rw [List.take_of_length_le (by simp)]
    refine ⟨_, hm, x.length, by simp only [List.length_append]; omega, x.length + (a.length + b.length), by omega, by simp only [List.length_append]; omega, ?_, ?_⟩
    · have e2 : (x ++ (a ++ b) ++ y).take x.length = x := by rw [List.append_assoc]; simp
      have e3 : (x ++ (a ++ b) ++ y).drop (x.length + (a.length + b.length)) = y := by
        have : x.length + (a.length + b.length) = (x ++ (a ++ b)).length := by simp
        rw [this, List.drop_left]
      rw [e2, e3]
    · rw [e1, List.drop_left]
      exact rowB_iff.mpr ⟨a, b, rfl, h1, h2, h3, h4⟩
theorem pairB_iff {bs : Bans} {F G : LP} {l : Line} : pairB bs F G l ↔ l ≠ [] ∧ ∃ q ∈ bs, ∃ x y : Line, ¬ frB q.2 F G (x, y) ∧ x ++ l ++ y ∈ q.2 := by
  constructor
  · rintro ⟨q, hq, m, hm, i, hi, j, h1, h2, rfl, hf⟩
    refine ⟨fun e => ?_, q, hq, m.take i, m.drop j, hf, ?_⟩
    · have := congrArg List.length e; rw [List.length_drop, List.length_take, List.length_nil] at this; omega
    · have : m.take i ++ (m.take j).drop i ++ m.drop j = m := by
        have e3 : m.take i = (m.take j).take i := by rw [List.take_take, Nat.min_eq_left (by omega)]
        rw [e3, List.take_append_drop, List.take_append_drop]
      rw [this]; exact hm
  · rintro ⟨h1, q, hq, x, y, hf, hm⟩
    have p1 := List.length_pos_iff.mpr h1
    refine ⟨q, hq, _, hm, x.length, by simp only [List.length_append]; omega, x.length + l.length, by omega, by simp only [List.length_append]; omega, ?_, ?_⟩
    · rw [List.take_append_of_le_length (by simp), List.take_of_length_le (by simp), List.drop_left]
    · have e2 : (x ++ l ++ y).take x.length = x := by rw [List.append_assoc]; simp
      have e3 : (x ++ l ++ y).drop (x.length + l.length) = y := by
        have : x.length + l.length = (x ++ l).length := by simp
        rw [this, List.drop_left]
      rw [e2, e3]; exact hf
theorem ctx {bs : Bans} (ok : BsOk bs) : ∀ k : Kd, ∃ K : PySem.Str × List Line → Line → Line → Prop, ∀ l, kindB bs k l ↔ l ≠ [] ∧ ∃ q ∈ bs, ∃ x y : Line, K q x y ∧ x ++ l ++ y ∈ q.2
  | .at a => by
    refine ⟨fun q x y => q.1 = a ∧ x = [] ∧ y = [], fun l => ?_⟩
    constructor
    · rintro ⟨q, hq, e, hl⟩
      exact ⟨List.length_pos_iff.mp (ok.len q hq l hl).1, q, hq, [], [], ⟨e, rfl, rfl⟩, by simpa using hl⟩
    · rintro ⟨_, q, hq, x, y, ⟨e, rfl, rfl⟩, hl⟩
      exact ⟨q, hq, e, by simpa using hl⟩
  | .op s A B => by
    obtain ⟨KA, hA⟩ := ctx ok A
    obtain ⟨KB, hB⟩ := ctx ok B
    by_cases h1 : s = over
    · subst h1
      refine ⟨fun q x y => ∃ v y', y = v ++ y' ∧ v ≠ [] ∧ ¬ kindB bs B v ∧ KA q x y', fun l => ?_⟩
      rw [kB_over, overB_iff]
      constructor
      · rintro ⟨h1, v, h2, h3, h4⟩
        obtain ⟨_, q, hq, x, y, hk, hm⟩ := (hA _).mp h3
        exact ⟨h1, q, hq, x, v ++ y, ⟨v, y, rfl, h2, h4, hk⟩, by simpa using hm⟩
      · rintro ⟨h1, q, hq, x, _, ⟨v, y, rfl, h2, h4, hk⟩, hm⟩
        exact ⟨h1, v, h2, (hA _).mpr ⟨by simp [h1], q, hq, x, y, hk, by simpa using hm⟩, h4⟩
    · by_cases h2 : s = under
      · subst h2
        refine ⟨fun q x y => ∃ v x', x = x' ++ v ∧ v ≠ [] ∧ ¬ kindB bs A v ∧ KB q x' y, fun l => ?_⟩
        rw [kB_under, underB_iff]
        constructor
        · rintro ⟨h1, v, h2, h3, h4⟩
          obtain ⟨_, q, hq, x, y, hk, hm⟩ := (hB _).mp h3
          exact ⟨h1, q, hq, x ++ v, y, ⟨v, x, rfl, h2, h4, hk⟩, by simpa using hm⟩
        · rintro ⟨h1, q, hq, _, y, ⟨v, x, rfl, h2, h4, hk⟩, hm⟩
          exact ⟨h1, v, h2, (hB _).mpr ⟨by simp [h1], q, hq, x, y, hk, by simpa using hm⟩, h4⟩
      · refine ⟨fun q x y => ¬ frB q.2 (kindB bs A) (kindB bs B) (x, y), fun l => ?_⟩
        rw [kindB, if_neg h1, if_neg h2, pairB_iff]
/-- a pair may stand for its two, in any row -/
theorem star_move {bs : Bans} (ok : BsOk bs) {L R : List Kd} {A B C : Kd} : Fails bs (L ++ A :: B :: R) C ↔ Fails bs (L ++ .op star A B :: R) C := by
  obtain ⟨K, hK⟩ := ctx ok C
  rw [fails_iff, fails_iff]
  constructor
  · rintro ⟨l, h1, h2⟩
    obtain ⟨u, w, h3, h4, rfl⟩ := alw_app.mp h2
    obtain ⟨a, w2, h5, h6, h7, rfl⟩ := alw_cons.mp h4
    obtain ⟨b, v, h8, h9, h10, rfl⟩ := alw_cons.mp h7
    refine ⟨_, h1, alw_app.mpr ⟨u, a ++ (b ++ v), h3, alw_cons.mpr ⟨a ++ b, v, by simp [h5], ?_, h10, by simp⟩, rfl⟩⟩
    rw [kB_star, pairB_iff]
    rintro ⟨_, q, hq, x, y, hf, hm⟩
    exact hf (frB_iff.mpr ⟨a, b, h5, h8, h6, h9, hm⟩)
  · rintro ⟨l, h1, h2⟩
    obtain ⟨u, w, h3, h4, rfl⟩ := alw_app.mp h2
    obtain ⟨c, v, h5, h6, h7, rfl⟩ := alw_cons.mp h4
    obtain ⟨_, q, hq, x, y, hk, hm⟩ := (hK _).mp h1
    have hf : frB q.2 (kindB bs A) (kindB bs B) (x ++ u, v ++ y) := by
      refine Classical.byContradiction fun hf => h6 ?_
      rw [kB_star, pairB_iff]
      exact ⟨h5, q, hq, x ++ u, v ++ y, hf, by simpa using hm⟩
    obtain ⟨a, b, h8, h9, h10, h11, hm2⟩ := frB_iff.mp hf
    exact ⟨u ++ (a ++ (b ++ v)), (hK _).mpr ⟨by simp [h8], q, hq, x, y, hk, by simpa using hm2⟩, alw_app.mpr ⟨u, _, h3, alw_cons.mpr ⟨a, _, h8, h10, alw_cons.mpr ⟨b, v, h9, h11, h7, rfl⟩, rfl⟩, rfl⟩⟩
end F83

set_option Elab.async false
set_option linter.all false
set_option maxRecDepth 100000
set_option maxHeartbeats 4000000
namespace F83
open PySem PySem.Spec PyProof.Rows L2 Fw
/-! moves -/
inductive Mv : List Kd → Kd → List Kd → Kd → Prop
  | overIn (L : List Kd) (B A : Kd) (h : L ≠ []) : Mv (L ++ [B]) A L (.op over A B)
  | overOut (L : List Kd) (A B : Kd) : Mv L (.op over A B) (L ++ [B]) A
  | underIn (B : Kd) (L : List Kd) (A : Kd) (h : L ≠ []) : Mv (B :: L) A L (.op under B A)
  | underOut (B : Kd) (L : List Kd) (A : Kd) : Mv L (.op under B A) (B :: L) A
  | pairIn (L : List Kd) (A B : Kd) (R : List Kd) (C : Kd) : Mv (L ++ A :: B :: R) C (L ++ .op star A B :: R) C
  | pairOut (L : List Kd) (A B : Kd) (R : List Kd) (C : Kd) : Mv (L ++ .op star A B :: R) C (L ++ A :: B :: R) C
theorem Mv.tot {ks g ks' g'} (m : Mv ks g ks' g') : F83.tot ks' g' = F83.tot ks g := by
  cases m <;> simp [tot_eq, Kd.cnt] <;> omega
theorem Mv.nm {ks g ks' g'} {nm : List PySem.Str} (m : Mv ks g ks' g') (h : LnN nm ks g) : LnN nm ks' g' := by
  cases m <;> simp [LnN, or_imp, forall_and, KdN] at h ⊢ <;> grind
theorem Mv.ne {ks g ks' g'} (m : Mv ks g ks' g') (h : ks ≠ []) : ks' ≠ [] := by
  cases m <;> simp_all
theorem Mv.fails {ks g ks' g'} {bs : Bans} (ok : BsOk bs) (m : Mv ks g ks' g') (h : ks ≠ []) : Fails bs ks g ↔ Fails bs ks' g' := by
  cases m with
  | overIn L B A hL => exact over_move hL
  | overOut L A B => exact (over_move h).symm
  | underIn B L A hL => exact under_move hL
  | underOut B L A => exact (under_move h).symm
  | pairIn L A B R C => exact star_move ok
  | pairOut L A B R C => exact (star_move ok).symm
def sp_move : DSp := fun ds M Q => ∃ (ks : List Kd) (g : Kd) (way n : Nat), ds = [encS ks g, .int way, .int n] ∧ ks ≠ [] ∧ n < ks.length ∧ way < 6 ∧ ks.length ≤ 1000 ∧ (∀ ks' g', Mv ks g ks' g' → Q (encS ks' g') M) ∧ Q .non M
def sgn : Kd → PySem.Str
  | .at _ => "none"
  | .op s _ _ => s
theorem sign_step {E : DEnds} {a b c d : Option D} {g : Kd} {M : Mem} (h : E.nx [a, b, c, d, some (encK g), some (.str (sgn g))] M) : wIf (wTru (wIsi .tuple (wVar 4))) (wSet 5 (wBin dIxA (wVar 4) (wC (.int 0)))) wNext E [a, b, c, d, some (encK g), some (.str (Str.ofString "none"))] M := by
  cases g with
  | «at» a => simp [-Bool.exists_bool]; exact h
  | op s l r => simp [-Bool.exists_bool, encK]; exact h
theorem sgn_op {g : Kd} {s : PySem.Str} (h : sgn g = s) (hs : s ≠ "none") : ∃ l r, g = .op s l r := by
  cases g with
  | «at» a => exact absurd h.symm hs
  | op s' l r => subst h; exact ⟨l, r, rfl⟩
theorem move_ok : ∀ ds M Q, sp_move ds M Q → w__law_move (ends Q) (startD 6 ds) M := by
  rintro ds M Q ⟨ks, g, way, n, rfl, hne, hn, hw, hl, q1, q2⟩
  have h5 := sz5
  unfold w__law_move
  simp only [sq_eq]
  rw [sq1]
  simp [-Bool.exists_bool, encS]
  rw [sq1]
  simp [-Bool.exists_bool]
  rw [sq1]
  refine sign_step ?_
  have n1 : ¬ (1 : Int) = 0 := by decide
  have hways : way = 0 ∨ way = 1 ∨ way = 2 ∨ way = 3 ∨ way = 4 ∨ way = 5 := by omega
  rcases hways with rfl | rfl | rfl | rfl | rfl | rfl
  · obtain ⟨ini, lst, rfl⟩ : ∃ ini lst, ks = ini ++ [lst] := ⟨ks.dropLast, ks.getLast hne, (List.dropLast_concat_getLast hne).symm⟩
    by_cases li : ini = []
    · subst li
      simp [-Bool.exists_bool, sq]
      exact drops_of q2
    · have hg : (1 : Int) < (ini.length : Int) + 1 := by have := List.length_pos_iff.mpr li; omega
      have := q1 _ _ (.overIn ini lst g li)
      simp [encS, encK] at this
      simp [-Bool.exists_bool, sq, hg]
      exact ⟨by omega, by omega, drops_of this⟩
  · by_cases hs : sgn g = over
    · obtain ⟨A, B, rfl⟩ := sgn_op hs (by decide)
      have := q1 _ _ (.overOut ks A B)
      simp [encS, encK] at this
      have ho : over = Str.ofString "/" := rfl
      simp [-Bool.exists_bool, sq, sgn, encK, ho]
      exact ⟨by omega, by omega, by omega, drops_of this⟩
    · have ho : ¬ sgn g = Str.ofString "/" := hs
      simp [-Bool.exists_bool, sq, ho]
      exact drops_of q2
  · obtain ⟨fst, tl, rfl⟩ : ∃ fst tl, ks = fst :: tl := by cases ks with
      | nil => exact absurd rfl hne
      | cons a b => exact ⟨a, b, rfl⟩
    by_cases li : tl = []
    · subst li
      simp [-Bool.exists_bool, sq]
      exact drops_of q2
    · have hg : (1 : Int) < (tl.length : Int) + 1 := by have := List.length_pos_iff.mpr li; omega
      have := q1 _ _ (.underIn fst tl g li)
      simp [encS, encK] at this
      simp [-Bool.exists_bool, sq, hg]
      exact ⟨by omega, by omega, drops_of this⟩
  · by_cases hs : sgn g = under
    · obtain ⟨A, B, rfl⟩ := sgn_op hs (by decide)
      have := q1 _ _ (.underOut A ks B)
      simp [encS, encK] at this
      have ho : under = Str.ofString ">" := rfl
      simp [-Bool.exists_bool, sq, sgn, encK, ho]
      exact ⟨by omega, by omega, by omega, drops_of this⟩
    · have ho : ¬ sgn g = Str.ofString ">" := hs
      simp [-Bool.exists_bool, sq, ho]
      exact drops_of q2
  · by_cases hn2 : n + 1 < ks.length
    · have em : ks = ks.take n ++ ks[n] :: ks[n + 1] :: ks.drop (n + 2) := by
        rw [List.getElem_cons_drop, List.getElem_cons_drop, List.take_append_drop]
      have := q1 (ks.take n ++ .op star ks[n] ks[n + 1] :: ks.drop (n + 2)) g (by
        have := Mv.pairIn (ks.take n) ks[n] ks[n + 1] (ks.drop (n + 2)) g
        rwa [← em] at this)
      simp [encS, encK] at this
      have hlt : (n : Int) < (ks.length : Int) - 1 := by omega
      have a1 : L2.atI (ks.map encK) (n : Int) = some (encK ks[n]) := at_nat (by rw [List.getElem?_map, List.getElem?_eq_getElem hn]; rfl)
      have a2 : L2.atI (ks.map encK) ((n : Int) + 1) = some (encK ks[n + 1]) := at_nat (n := n + 1) (by rw [List.getElem?_map, List.getElem?_eq_getElem hn2]; rfl)
      have c1 : Fw.cutD (ks.map encK) none (some (n : Int)) = (ks.map encK).take n := cut_to
      have c2 : Fw.cutD (ks.map encK) (some ((n : Int) + 2)) none = (ks.map encK).drop (n + 2) := cut_from (n := n + 2)
      simp [-Bool.exists_bool, sq, hlt, a1, a2, c1, c2]
      exact ⟨by omega, by omega, by omega, by omega, by omega, drops_of this⟩
    · have hlt : ¬ (n : Int) < (ks.length : Int) - 1 := by omega
      simp [-Bool.exists_bool, sq, hlt]
      exact drops_of q2
  · have a1 : L2.atI (ks.map encK) (n : Int) = some (encK ks[n]) := at_nat (by rw [List.getElem?_map, List.getElem?_eq_getElem hn]; rfl)
    have c1 : Fw.cutD (ks.map encK) none (some (n : Int)) = (ks.map encK).take n := cut_to
    have c2 : Fw.cutD (ks.map encK) (some ((n : Int) + 1)) none = (ks.map encK).drop (n + 1) := cut_from (n := n + 1)
    have em := split_at hn
    cases hk : ks[n] with
    | «at» a =>
      rw [hk] at a1
      simp [-Bool.exists_bool, sq, a1]
      exact drops_of q2
    | op s A B =>
      rw [hk] at a1 em
      by_cases hs : s = star
      · subst hs
        have := q1 (ks.take n ++ A :: B :: ks.drop (n + 1)) g (by
          have := Mv.pairOut (ks.take n) A B (ks.drop (n + 1)) g
          rwa [← em] at this)
        simp [encS, encK] at this
        have ho : star = Str.ofString "*" := rfl
        simp [-Bool.exists_bool, sq, a1, c1, c2, encK, ho]
        exact ⟨by omega, by omega, by omega, drops_of this⟩
      · have ho : ¬ s = Str.ofString "*" := hs
        simp [-Bool.exists_bool, sq, a1, encK, ho]
        exact drops_of q2
end F83

set_option Elab.async false
set_option linter.all false
set_option maxRecDepth 100000
set_option maxHeartbeats 4000000
namespace F83
open PySem PySem.Spec PyProof.Rows L2 Fw
/-! drawn bans -/
def LnOk (w : Nat) (m : Line) : Prop := 1 ≤ m.length ∧ m.length ≤ w ∧ ∀ x ∈ m, 0 ≤ x ∧ x ≤ 999999
def cntB (bs : Bans) : Nat := (bs.map fun q => q.2.length).sum
structure BsQ (names : List PySem.Str) (n w : Nat) (bs : Bans) : Prop where
  nd : (bs.map (·.1)).Nodup
  one : ∀ q ∈ bs, q.1 ∈ names ∧ q.2 ≠ [] ∧ q.2.Nodup ∧ ∀ m ∈ q.2, LnOk w m
  cnt : cntB bs ≤ n
theorem BsQ.len {names : List PySem.Str} {n w : Nat} {bs : Bans} (h : BsQ names n w bs) : bs.length ≤ n := by
  have : ∀ bs : Bans, (∀ q ∈ bs, q.2 ≠ []) → bs.length ≤ cntB bs := by
    intro bs
    induction bs with
    | nil => intro _; simp
    | cons q bs ih =>
      intro h
      have h1 := List.length_pos_iff.mpr (h q List.mem_cons_self)
      have h2 := ih fun x hx => h x (List.mem_cons_of_mem _ hx)
      unfold cntB at h2 ⊢
      simp; omega
  have h1 := this bs fun q hq => (h.one q hq).2.1
  have h2 := h.cnt
  omega
theorem cnt_mem {bs : Bans} {q : PySem.Str × List Line} (h : q ∈ bs) : q.2.length ≤ cntB bs := by
  induction bs with
  | nil => cases h
  | cons x bs ih =>
    unfold cntB at ih ⊢
    rcases List.mem_cons.mp h with rfl | h
    · simp
    · have := ih h; simp; omega
theorem flat_le {α β : Type} {f : α → List β} {c : Nat} : ∀ {l : List α}, (∀ x ∈ l, (f x).length ≤ c) → (l.flatMap f).length ≤ c * l.length
  | [], _ => by simp
  | x :: l, h => by
    have h1 := h x List.mem_cons_self
    have h2 := flat_le (l := l) fun y hy => h y (List.mem_cons_of_mem _ hy)
    rw [List.flatMap_cons, List.length_append, List.length_cons, Nat.mul_add]
    omega
def cuts {β : Type} (w : Nat) (g : Line → Nat → Nat → β) (m : Line) : List β := (List.range (w + 1)).flatMap fun i => (List.range (w + 1)).map fun j => g m i j
theorem all_cuts {β : Type} (g : Line → Nat → Nat → β) {names : List PySem.Str} {n w : Nat} {bs : Bans} (h : BsQ names n w bs) (hw : w ≤ 6) (hn : n ≤ 20) : ∃ U : List β, U.length ≤ 100000 ∧ ∀ q ∈ bs, ∀ m ∈ q.2, ∀ i j, i ≤ m.length → j ≤ m.length → g m i j ∈ U := by
  refine ⟨bs.flatMap fun q => q.2.flatMap (cuts w g), ?_, fun q hq m hm i j hi hj => ?_⟩
  · have c1 : ∀ m, (cuts w g m).length ≤ 49 := fun m => by
      have := flat_le (f := fun i => (List.range (w + 1)).map fun j => g m i j) (c := w + 1) (l := List.range (w + 1)) fun x _ => by rw [List.length_map, List.length_range]; omega
      rw [List.length_range] at this
      exact Nat.le_trans this (Nat.mul_le_mul (show w + 1 ≤ 7 by omega) (show w + 1 ≤ 7 by omega))
    have := flat_le (f := fun q : PySem.Str × List Line => q.2.flatMap (cuts w g)) (c := 49 * 20) (l := bs) fun q hq => by
      have h1 := flat_le (f := cuts w g) (c := 49) (l := q.2) fun m _ => c1 m
      have h2 := cnt_mem hq
      have h3 := h.cnt
      exact Nat.le_trans h1 (Nat.mul_le_mul_left _ (by omega))
    have h4 := h.len
    omega
  · have hl := ((h.one q hq).2.2.2 m hm).2.1
    rw [List.mem_flatMap]
    refine ⟨q, hq, ?_⟩
    rw [List.mem_flatMap]
    refine ⟨m, hm, ?_⟩
    unfold cuts
    rw [List.mem_flatMap]
    exact ⟨i, List.mem_range.mpr (by omega), List.mem_map.mpr ⟨j, List.mem_range.mpr (by omega), rfl⟩⟩
theorem BsQ.ok {names : List PySem.Str} {n w : Nat} {bs : Bans} (h : BsQ names n w bs) (hw : w ≤ 6) (hn : n ≤ 20) : BsOk bs where
  len := fun q hq m hm => by have := (h.one q hq).2.2.2 m hm; exact ⟨this.1, by have := this.2.1; omega⟩
  few := fun q hq => by have := cnt_mem hq; have := h.cnt; omega
  uni := by
    obtain ⟨U, h1, h2⟩ := all_cuts (fun m i j => (m.take j).drop i) h hw hn
    exact ⟨U, h1, fun l ⟨q, hq, m, hm, i, j, hij, hj, e⟩ => e ▸ h2 q hq m hm i j (by omega) hj⟩
  fra := by
    obtain ⟨U, h1, h2⟩ := all_cuts (fun m i j => (m.take i, m.drop j)) h hw hn
    exact ⟨U, h1, fun q hq m hm i j hi hj => h2 q hq m hm i j hi hj⟩
theorem BsQ.str {names : List PySem.Str} {n w : Nat} {bs : Bans} (h : BsQ names n w bs) {l : Line} (s : strB bs l) : l.length ≤ w := by
  obtain ⟨q, hq, m, hm, i, j, h1, h2, rfl⟩ := s
  have := ((h.one q hq).2.2.2 m hm).2.1
  rw [List.length_drop, List.length_take]; omega
/-! the program takes them for a ban list -/
theorem ban_true {ds : List D} (h1 : ds.length ≤ 100) (h2 : ∀ d ∈ ds, pairOk d = true) (h3 : (ds.map fstD).Nodup) (h4 : (ds.map cntD).sum ≤ 100) : isBanD (.tup ds) = true := by
  unfold isBanD
  simp only [Bool.and_eq_true, Bool.not_eq_true', decide_eq_false_iff_not, decide_eq_true_eq]
  exact ⟨⟨⟨by omega, List.all_eq_true.mpr h2⟩, h3⟩, h4⟩
theorem lineD_enc {l : Line} (h1 : 1 ≤ l.length) (h2 : l.length ≤ 80) (h3 : ∀ x ∈ l, 0 ≤ x ∧ x ≤ 999999) : isLineD (encL l) = true := by
  unfold encL isLineD
  simp only [Bool.and_eq_true, Bool.not_eq_true', decide_eq_false_iff_not, List.length_map]
  refine ⟨⟨by omega, by omega⟩, List.all_eq_true.mpr fun d hd => ?_⟩
  rw [List.mem_map] at hd
  obtain ⟨x, hx, rfl⟩ := hd
  have := h3 x hx
  unfold isMark
  simp only [Bool.and_eq_true, decide_eq_true_eq]
  exact this
theorem BsQ.ban {names : List PySem.Str} {n w : Nat} {bs : Bans} (h : BsQ names n w bs) (hw : w ≤ 80) (hn : n ≤ 100) (hnm : ∀ s ∈ names, isAtom s = true ∧ s.length ≤ 100) : isBanD (encB bs) = true ∧ ∀ M, knC M (encB bs) := by
  have h5 := sz5
  have hl := h.len
  have kn : ∀ M, ∀ q ∈ bs, knP M (encP q) := fun M q hq => by
    have := (hnm _ (h.one q hq).1).2
    have h2 := cnt_mem hq
    have h3 := h.cnt
    refine ⟨show q.1.length ≤ sizeLine by omega, show (q.2.map encL).length ≤ 1000 ∧ _ from ⟨by rw [List.length_map]; omega, fun x hx => ?_⟩⟩
    obtain ⟨l, _, rfl⟩ := List.mem_map.mp hx
    show ∀ x ∈ l.map D.int, knT M x
    intro x hx
    obtain ⟨i, _, rfl⟩ := List.mem_map.mp hx
    exact trivial
  constructor
  · unfold encB
    refine ban_true (by rw [List.length_map]; omega) (fun d hd => ?_) ?_ ?_
    · obtain ⟨q, hq, rfl⟩ := List.mem_map.mp hd
      obtain ⟨a1, a2, a3, a4⟩ := h.one q hq
      show (isAtom q.1 && unlikeD (.tup (q.2.map encL))) = true
      rw [(hnm _ a1).1, Bool.true_and]
      unfold unlikeD
      simp only [Bool.and_eq_true, decide_eq_true_eq]
      refine ⟨List.all_eq_true.mpr fun d hd => ?_, ?_⟩
      · obtain ⟨l, hl, rfl⟩ := List.mem_map.mp hd
        obtain ⟨b1, b2, b3⟩ := a4 l hl
        exact lineD_enc b1 (by omega) b3
      · rw [List.Nodup, List.pairwise_map]
        exact a3.imp fun h e => h (encL_inj.mp e)
    · rw [List.map_map]
      have e : (fstD ∘ encP) = fun q : PySem.Str × List Line => D.str q.1 := rfl
      rw [e]
      have := h.nd
      rw [List.Nodup, List.pairwise_map] at this ⊢
      exact this.imp fun h e => h (by injection e)
    · rw [List.map_map]
      have e : (cntD ∘ encP) = fun q : PySem.Str × List Line => (q.2.map encL).length := rfl
      rw [e]
      have := h.cnt
      unfold cntB at this
      simp only [List.length_map]
      omega
  · intro M
    refine show (bs.map encP).length ≤ 1000 ∧ _ from ⟨by rw [List.length_map]; omega, fun x hx => ?_⟩
    obtain ⟨q, hq, rfl⟩ := List.mem_map.mp hx
    exact kn M q hq
end F83

set_option Elab.async false
set_option linter.all false
set_option maxRecDepth 100000
set_option maxHeartbeats 4000000
namespace F83
open PySem PySem.Spec PyProof.Rows L2 Fw
/-! a table of bans that grows -/
def encT (q : PySem.Str × List Line) : D × D := (.str q.1, .tup (q.2.map encL))
def addB : Bans → PySem.Str → Line → Bans
  | [], a, m => [(a, [m])]
  | q :: bs, a, m => if q.1 = a then (q.1, q.2 ++ [m]) :: bs else q :: addB bs a m
def lsB : Bans → PySem.Str → List Line
  | [], _ => []
  | q :: bs, a => if q.1 = a then q.2 else lsB bs a
theorem val_encT {a : PySem.Str} : ∀ {bs : Bans}, (valD (bs.map encT) (.str a)).getD (.tup []) = .tup ((lsB bs a).map encL)
  | [] => rfl
  | q :: bs => by
    have ih := val_encT (a := a) (bs := bs)
    unfold valD at ih ⊢
    rw [List.map_cons, List.find?_cons, lsB]
    by_cases h : q.1 = a
    · rw [if_pos h]; simp [encT, h]
    · rw [if_neg h]; simp [encT, h] at ih ⊢; exact ih
theorem val_in {q : PySem.Str × List Line} : ∀ {bs : Bans}, (bs.map (·.1)).Nodup → q ∈ bs → valD (bs.map encT) (.str q.1) = some (.tup (q.2.map encL))
  | x :: bs, nd, h => by
    rw [List.map_cons, List.nodup_cons] at nd
    unfold valD
    rw [List.map_cons, List.find?_cons]
    by_cases e : x.1 = q.1
    · rcases List.mem_cons.mp h with rfl | h
      · simp [encT]
      · exact absurd (List.mem_map.mpr ⟨q, h, e.symm⟩) nd.1
    · rcases List.mem_cons.mp h with rfl | h
      · exact absurd rfl e
      · have ih := val_in nd.2 h
        unfold valD at ih
        simp [encT, e] at ih ⊢
        exact ih
theorem put_encT {a : PySem.Str} {m : Line} : ∀ {bs : Bans}, (bs.map (·.1)).Nodup → putD (bs.map encT) (.str a) (.tup ((lsB bs a ++ [m]).map encL)) = (addB bs a m).map encT
  | [], _ => rfl
  | q :: bs, nd => by
    rw [List.map_cons, List.nodup_cons] at nd
    have ih := put_encT (a := a) (m := m) nd.2
    rw [lsB, addB]
    by_cases h : q.1 = a
    · rw [if_pos h, if_pos h]
      unfold putD
      have hno : ∀ p ∈ bs, ¬ p.1 = a := fun p hp e => nd.1 (List.mem_map.mpr ⟨p, hp, e.trans h.symm⟩)
      rw [if_pos (by simp [encT, h])]
      rw [List.map_cons, List.map_cons]
      congr 1
      · simp [encT, h]
      · rw [List.map_map]
        refine List.map_congr_left fun p hp => ?_
        simp [encT, hno p hp]
    · rw [if_neg h, if_neg h]
      unfold putD at ih ⊢
      rw [List.map_cons, List.any_cons]
      have e1 : decide ((encT q).1 = D.str a) = false := by simp [encT, h]
      rw [e1, Bool.false_or]
      by_cases c : ((bs.map encT).any fun kv => decide (kv.1 = D.str a)) = true
      · rw [if_pos c] at ih ⊢
        rw [List.map_cons, List.map_cons, ih]
        congr 1
        simp [encT, h]
      · rw [if_neg c] at ih ⊢
        rw [List.cons_append, ih]; rfl
theorem addB_keys {a : PySem.Str} {m : Line} : ∀ {bs : Bans}, (addB bs a m).map (·.1) = if a ∈ bs.map (·.1) then bs.map (·.1) else bs.map (·.1) ++ [a]
  | [] => rfl
  | q :: bs => by
    have ih := addB_keys (a := a) (m := m) (bs := bs)
    rw [addB]
    by_cases h : q.1 = a
    · simp [h]
    · have h2 : ¬ a = q.1 := fun e => h e.symm
      rw [if_neg h, List.map_cons, ih]
      by_cases c : a ∈ bs.map (·.1)
      · rw [if_pos c, if_pos (by rw [List.map_cons]; exact List.mem_cons_of_mem _ c)]; rfl
      · rw [if_neg c, if_neg (by rw [List.map_cons, List.mem_cons]; exact fun z => z.elim h2 c)]; rfl
theorem addB_mem {a : PySem.Str} {m : Line} {q : PySem.Str × List Line} : ∀ {bs : Bans}, q ∈ addB bs a m → q ∈ bs ∨ q = (a, lsB bs a ++ [m])
  | [], h => .inr (List.mem_singleton.mp h)
  | x :: bs, h => by
    rw [addB] at h
    rw [lsB]
    by_cases e : x.1 = a
    · rw [if_pos e] at h ⊢
      rcases List.mem_cons.mp h with rfl | h
      · exact .inr (by rw [e])
      · exact .inl (List.mem_cons_of_mem _ h)
    · rw [if_neg e] at h ⊢
      rcases List.mem_cons.mp h with rfl | h
      · exact .inl List.mem_cons_self
      · exact (addB_mem h).imp (List.mem_cons_of_mem _) id
theorem addB_cnt {a : PySem.Str} {m : Line} : ∀ {bs : Bans}, cntB (addB bs a m) = cntB bs + 1
  | [] => rfl
  | q :: bs => by
    have ih := addB_cnt (a := a) (m := m) (bs := bs)
    unfold cntB at ih ⊢
    rw [addB]
    by_cases h : q.1 = a
    · simp [h]; omega
    · rw [if_neg h]; simp at ih ⊢; omega
theorem lsB_or {a : PySem.Str} : ∀ {bs : Bans}, lsB bs a = [] ∨ (a, lsB bs a) ∈ bs
  | [] => .inl rfl
  | q :: bs => by
    rw [lsB]
    by_cases h : q.1 = a
    · rw [if_pos h]; exact .inr (by rw [← h]; exact List.mem_cons_self)
    · rw [if_neg h]; exact lsB_or.imp id (List.mem_cons_of_mem _)
theorem BsQ.add {names : List PySem.Str} {n w : Nat} {bs : Bans} {a : PySem.Str} {m : Line} (h : BsQ names n w bs) (ha : a ∈ names) (hm : LnOk w m) (hn : m ∉ lsB bs a) : BsQ names (n + 1) w (addB bs a m) where
  nd := by
    rw [addB_keys]
    split
    · exact h.nd
    · rename_i c
      rw [List.nodup_append]
      exact ⟨h.nd, by simp, fun x hx y hy e => by rw [List.mem_singleton] at hy; subst hy; subst e; exact c hx⟩
  one := fun q hq => by
    rcases addB_mem hq with hq | rfl
    · exact h.one q hq
    · have hl : (lsB bs a).Nodup ∧ ∀ m ∈ lsB bs a, LnOk w m := by
        rcases lsB_or (a := a) (bs := bs) with e | e
        · rw [e]; exact ⟨List.nodup_nil, by simp⟩
        · exact (h.one _ e).2.2
      refine ⟨ha, by simp, ?_, fun x hx => ?_⟩
      · rw [List.nodup_append]
        exact ⟨hl.1, by simp, fun x hx y hy e => by rw [List.mem_singleton] at hy; subst hy; subst e; exact hn hx⟩
      · rcases List.mem_append.mp hx with hx | hx
        · exact hl.2 x hx
        · rw [List.mem_singleton] at hx; subst hx; exact hm
  cnt := by rw [addB_cnt]; exact Nat.succ_le_succ h.cnt
theorem BsQ.more {names : List PySem.Str} {n k w : Nat} {bs : Bans} (h : BsQ names n w bs) (hk : n ≤ k) : BsQ names k w bs := ⟨h.nd, h.one, Nat.le_trans h.cnt hk⟩
theorem keyT {bs : Bans} {a : PySem.Str} : keyOk (bs.map encT) (.str a) := keyOk_f rfl fun d hd => by
  unfold kys at hd
  rw [List.mem_map] at hd
  obtain ⟨q, hq, rfl⟩ := hd
  obtain ⟨x, _, rfl⟩ := List.mem_map.mp hq
  rfl
theorem lines_cls : ∀ ls : List Line, D.cls (ls.map encL) = true
  | [] => by simp [D.cls]
  | l :: ls => by simp [D.cls, encL_cl, lines_cls ls]
theorem lines_deps : ∀ ls : List Line, D.deps (ls.map encL) ≤ 1
  | [] => by simp [D.deps]
  | l :: ls => by have := lines_deps ls; simp [D.deps, encL_dep]; omega
/-- the marks of a drawn list -/
def MkOk (ms : List Int) : Prop := ms ≠ [] ∧ ms.length ≤ 10 ∧ ∀ x ∈ ms, 0 ≤ x ∧ x ≤ 999999
def sp_banlist : DSp := fun ds M Q => ∃ (a : Addr) (n many w : Nat) (names : List PySem.Str) (M0 : Mem), ds = [.ref a, .fl (names.map D.str), .int many, .int w] ∧ Sr a n M0 M ∧ names ≠ [] ∧ names.length ≤ 100 ∧ many ≤ 20 ∧ 1 ≤ w ∧ w ≤ 80 ∧ n + 2000 < 1000000 ∧
  ∀ (bs : Bans) M', BsQ names many w bs → Sr a (n + 2000) M0 M' → Q (encB bs) M'
theorem banlist_ok : ∀ ds M Q, sp_banlist ds M Q → w__law_ban_list sp_take (ends Q) (startD 10 ds) M := by
  rintro ds M Q ⟨a, n, many, w, names, M0, rfl, sr, hne, hnl, hm, hw1, hw2, hn, q⟩
  have h5 := sz5
  have hnp : 0 < names.length := List.length_pos_iff.mpr hne
  unfold w__law_ban_list
  simp only [sq_eq]
  rw [sq1]
  simp [-Bool.exists_bool]
  refine ⟨by omega, take_use 2 sr fun e M1 he s1 => ?_⟩
  obtain ⟨x0, hx0, hx1, hx2⟩ : ∃ x : Int, L2.atI [D.int 0, D.int 999999] (e : Int) = some (.int x) ∧ 0 ≤ x ∧ x ≤ 999999 := by
    match e, he with
    | 0, _ => exact ⟨0, rfl, by omega, by omega⟩
    | 1, _ => exact ⟨999999, rfl, by omega, by omega⟩
  simp [-Bool.exists_bool]
  rw [hx0]
  refine ⟨_, rfl, by omega, fun p hp => ?_⟩
  obtain ⟨pa, p0⟩ := s1.new hp
  show sq _ _ _ _ _
  rw [sq1]
  simp [-Bool.exists_bool]
  refine take_use 3 (s1.set (o := .lst [.int x0]) pa) fun d M2 hd s2 => ?_
  simp [-Bool.exists_bool]
  refine ⟨by unfold RgOk2; omega, ?_⟩
  refine loop_range (lo := 0) (n := d) (fun i ρ M' => ∃ (ms : List Int) (x5 : Option D), ρ = [some (.ref a), some (.fl (names.map D.str)), some (.int many), some (.int w), some (.ref p), x5, none, none, none, none] ∧ ms ≠ [] ∧ ms.length ≤ 1 + i ∧ (∀ x ∈ ms, 0 ≤ x ∧ x ≤ 999999) ∧ Sr a (n + 2 + 2 * i) (mset M0 p (.lst (ms.map D.int))) M') ⟨[x0], none, rfl, by simp, by simp, by simp; exact ⟨hx1, hx2⟩, s2⟩ ?_ ?_
  · rintro i hi ρ M3 ⟨ms, x5, rfl, hms, hml, hmx, s3⟩ N hN
    refine ⟨_, _, .refl, .refl, trivial, ?_⟩
    unfold w__law_ban_list_1
    have g3 := s3.at pa
    simp [-Bool.exists_bool]
    refine ⟨⟨_, g3⟩, by omega, take_use 2 s3 fun e2 M4 he2 s4 => ?_⟩
    obtain ⟨top, ht, ht1, ht2⟩ : ∃ t : Nat, L2.atI [D.int 1000000, D.int 4] (e2 : Int) = some (.int t) ∧ 1 ≤ t ∧ t ≤ 1000000 := by
      match e2, he2 with
      | 0, _ => exact ⟨1000000, rfl, by omega, by omega⟩
      | 1, _ => exact ⟨4, rfl, by omega, by omega⟩
    simp [-Bool.exists_bool]
    rw [ht]
    refine ⟨_, rfl, take_use top s4 fun f M5 hf s5 => ?_⟩
    have g5 := s5.at pa
    refine ⟨_, g5, by simp; omega, hN _ _ ⟨ms ++ [(f : Int)], _, rfl, by simp, by simp; omega, fun x hx => ?_, ?_⟩⟩
    · rw [List.mem_append, List.mem_singleton] at hx
      rcases hx with hx | rfl
      · exact hmx x hx
      · exact ⟨by omega, by omega⟩
    · have := s5.upd (u := .lst ((ms ++ [(f : Int)]).map D.int)) pa
      simp at this ⊢
      exact this.more (by omega)
  · rintro ρ M3 ⟨ms, x5, rfl, hms, hml, hmx, s3⟩
    refine ⟨_, _, .refl, .refl, trivial, ?_⟩
    have hmp : 0 < ms.length := List.length_pos_iff.mpr hms
    show sq _ _ _ _ _
    rw [sq1]
    simp [-Bool.exists_bool]
    rintro t ⟨ta, tb⟩ ht
    obtain ⟨t1, t2⟩ := s3.new ht
    have tp : t ≠ p := fun e => by rw [e, mset_same] at t2; cases t2
    have t0 : M0 t = none := by rwa [mset_ne tp] at t2
    have s4 := s3.set (o := .dict [] (ta, tb)) t1
    show sq _ _ _ _ _
    rw [sq1]
    simp [-Bool.exists_bool]
    rw [sq1]
    simp [-Bool.exists_bool]
    refine ⟨by unfold RgOk2; omega, ?_⟩
    refine loop_range (lo := 0) (n := many) (fun i ρ M' => ∃ (bs : Bans) (tk : Tk) (x5 x7 x8 x9 : Option D), ρ = [some (.ref a), some (.fl (names.map D.str)), some (.int many), some (.int w), some (.ref p), x5, some (.ref t), x7, x8, x9] ∧ BsQ names i w bs ∧ Sr a (n + 10 + 90 * i) (mset (mset M0 p (.lst (ms.map D.int))) t (.dict (bs.map encT) tk)) M') ⟨[], (ta, tb), x5, none, none, none, rfl, ⟨by simp, by simp, by simp [cntB]⟩, s4.more (by omega)⟩ ?_ ?_
    · rintro i hi ρ M5 ⟨bs, tk, x5, x7, x8, x9, rfl, hbs, s5⟩ N hN
      refine ⟨_, _, .refl, .refl, trivial, ?_⟩
      unfold w__law_ban_list_2
      simp only [sq_eq, y_tg1]
      rw [sq1]
      simp [-Bool.exists_bool]
      refine take_use names.length s5 fun d2 M6 hd2 s6 => ?_
      simp [-Bool.exists_bool]
      refine ⟨.str names[d2], at_nat (by rw [List.getElem?_map, List.getElem?_eq_getElem hd2]; rfl), ?_⟩
      show sq _ _ _ _ _
      rw [sq1]
      simp [-Bool.exists_bool]
      refine take_use w s6 fun d3 M7 hd3 s7 => ?_
      simp [-Bool.exists_bool]
      refine ⟨by unfold RgOk2; omega, ?_⟩
      have en : ((1 : Int) + (d3 : Int)).toNat = 1 + d3 := by omega
      try rw [en]
      have er : ranged 0 (1 + d3) = (List.range (1 + d3)).map fun i : Nat => D.int (i : Int) := by unfold ranged; simp
      rw [er]
      refine comp_invM (fun i : Nat => D.int (i : Int)) (fun done acc M' => ∃ m : Line, acc = m.map D.int ∧ m.length = done.length ∧ (∀ x ∈ m, 0 ≤ x ∧ x ≤ 999999) ∧ Sr a (n + 10 + 90 * i + 2 + done.length) (mset (mset M0 p (.lst (ms.map D.int))) t (.dict (bs.map encT) tk)) M') (fun _ _ _ _ => trivial) ⟨[], rfl, rfl, by simp, s7.more (by simp)⟩ ?_ ?_ (by simp; omega)
      · rintro done y rest acc M8 hx ⟨m, rfl, hml2, hmx2, s8⟩ N2 hN2
        have hdl : done.length ≤ 1 + d3 := by
          have := congrArg List.length hx
          rw [List.length_range, List.length_append] at this
          omega
        have g8 : M8 p = some (.lst (ms.map D.int)) := by rw [s8.get pa, mset_ne (Ne.symm tp), mset_same]
        simp [-Bool.exists_bool]
        rw [y_lenL g8]
        simp [-Bool.exists_bool]
        refine take_use ms.length s8 fun d4 M9 hd4 s9 => ?_
        have g9 : M9 p = some (.lst (ms.map D.int)) := by rw [s9.get pa, mset_ne (Ne.symm tp), mset_same]
        rw [y_ixL g9]
        refine ⟨.int ms[d4], at_nat (by rw [List.getElem?_map, List.getElem?_eq_getElem hd4]; rfl), hN2 _ _ ⟨m ++ [ms[d4]], by simp, by simp [hml2], fun x hx => ?_, s9.more (by simp; omega)⟩⟩
        rw [List.mem_append, List.mem_singleton] at hx
        rcases hx with hx | rfl
        · exact hmx2 x hx
        · exact hmx _ (List.getElem_mem _)
      · rintro acc M8 ⟨m, rfl, hml2, hmx2, s8⟩
        rw [List.length_range] at hml2 s8
        have g8 := s8.at t1
        have lo : LnOk w m := ⟨by omega, by omega, hmx2⟩
        rw [y_entR g8]
        refine ⟨⟨_, rfl⟩, _, rfl, keyT, ?_⟩
        rw [val_encT]
        refine .inr (inT_cl (encL_cl m) (lines_cls _) (by show (encL m).dep ≤ 64; rw [encL_dep]; decide) (by have := lines_deps (lsB bs names[d2]); omega) ?_)
        refine ⟨_, rfl, ?_⟩
        have nin : D.tup (m.map D.int) ∈ (lsB bs names[d2]).map encL ↔ m ∈ lsB bs names[d2] := mem_enc
        by_cases hin : m ∈ lsB bs names[d2]
        · rw [if_neg (by rw [decide_eq_true (nin.mpr hin)]; decide)]
          exact hN _ _ ⟨bs, tk, _, _, _, _, rfl, hbs.more (by omega), s8.more (by omega)⟩
        · rw [if_pos (by rw [decide_eq_false (fun h => hin (nin.mp h))]; rfl)]
          rw [y_entR g8]
          refine ⟨⟨_, rfl⟩, _, rfl, keyT, by omega, ?_⟩
          rw [val_encT, y_addT, y_putD g8]
          have hll : (lsB bs names[d2]).length ≤ i := by
            have h1 := hbs.cnt
            rcases lsB_or (a := names[d2]) (bs := bs) with e | e
            · rw [e]; simp
            · have := cnt_mem e; simp only at this; omega
          have hbl := hbs.len
          refine ⟨by rw [List.length_map]; simp; omega, keyT, by rw [List.length_map]; omega, fun tk' => ?_⟩
          have e9 := put_encT (a := names[d2]) (m := m) hbs.nd
          rw [List.map_append] at e9
          have s9 := s8.upd (u := .dict ((addB bs names[d2] m).map encT) tk') t1
          rw [← e9] at s9
          exact hN _ _ ⟨addB bs names[d2] m, tk', _, _, _, _, rfl, hbs.add (List.getElem_mem _) lo hin, by rw [← e9]; exact s9.more (by omega)⟩
    · rintro ρ M5 ⟨bs, tk, x5, x7, x8, x9, rfl, hbs, s5⟩
      refine ⟨_, _, .refl, .refl, trivial, ?_⟩
      have g5 := s5.at t1
      simp [-Bool.exists_bool]
      rw [y_srcD g5]
      simp only [List.map_map]
      refine comp_all (xs := bs) (fun q : PySem.Str × List Line => D.str q.1) encP g5 ?_ (by have := hbs.len; omega) ?_
      · intro q hq N2 hN2
        simp [-Bool.exists_bool]
        rw [y_ixD g5]
        exact ⟨keyT, _, val_in hbs.nd hq, by omega, hN2⟩
      · obtain ⟨M6, rfl, n6, s6⟩ := s5.del t1 t2
        obtain ⟨M7, rfl, n7, s7⟩ := s6.del pa p0
        exact drops_to ((SubM.new n7).trans (SubM.new n6)) (q bs M7 hbs (s7.more (by omega)))
end F83

set_option Elab.async false
set_option linter.all false
set_option maxRecDepth 100000
set_option maxHeartbeats 4000000
namespace F83
open PySem PySem.Spec PyProof.Rows L2 Fw
/-! lines of drawn names are lines that the program's functions take -/
theorem kd_ok {nm : List PySem.Str} (h : ∀ s ∈ nm, NmOk s) : ∀ k : Kd, KdN nm k → KdOk k
  | .at a, hk => atom_chars (h a hk).1
  | .op s l r, ⟨hs, h1, h2⟩ => ⟨hs, kd_ok h l h1, kd_ok h r h2⟩
theorem par_len (k : Kd) (z : PySem.Str) : (par k z).length ≤ z.length + 2 := by
  have o1 : (Str.ofString "(").length = 1 := by decide
  have o2 : (Str.ofString ")").length = 1 := by decide
  cases k with
  | «at» a => show z.length ≤ z.length + 2; omega
  | op s l r =>
    show (Str.ofString "(" ++ z ++ Str.ofString ")").length ≤ z.length + 2
    rw [len_app, len_app, o1, o2]; omega
theorem fmt_len {nm : List PySem.Str} (h : ∀ s ∈ nm, NmOk s) : ∀ k : Kd, KdN nm k → (fmtK k).length + 10 ≤ 40 * k.cnt
  | .at a, hk => by
    have := (h a hk).2.1
    show a.length + 10 ≤ 40 * 1
    omega
  | .op s l r, ⟨hs, h1, h2⟩ => by
    have i1 := fmt_len h l h1
    have i2 := fmt_len h r h2
    have p1 := par_len l (fmtK l)
    have p2 := par_len r (fmtK r)
    have o1 : (Str.ofString " ").length = 1 := by decide
    have o2 : s.length = 1 := by rcases hs with rfl | rfl | rfl <;> decide
    show (par l (fmtK l) ++ Str.ofString " " ++ s ++ Str.ofString " " ++ par r (fmtK r)).length + 10 ≤ 40 * (l.cnt + r.cnt)
    simp only [len_app, o1, o2]
    omega
theorem seq_ok {nm : List PySem.Str} {bs : Bans} {ks : List Kd} {g : Kd} {N : Nat} (ok : BsOk bs) (h : ∀ s ∈ nm, NmOk s) (ln : LnN nm ks g) (ht : tot ks g ≤ N) (hN : N ≤ 1000) : SeqOk N bs ks g where
  bans := ok
  few := by have := len_tot (ks := ks) (g := g); omega
  kinds := fun k hk => by
    have hm : k ∈ ks ++ [g] := by simp at hk ⊢; exact hk.symm
    have h1 := cnt_tot hm
    have h2 := fmt_len h k (ln k hm)
    exact ⟨kd_ok h k (ln k hm), tot_dep ht k hm, by omega⟩
end F83

set_option Elab.async false
set_option linter.all false
set_option maxRecDepth 100000
set_option maxHeartbeats 4000000
namespace F83
open PySem PySem.Spec PyProof.Rows L2 Fw
/-! _law_scene -/
def sp_scene : DSp := fun ds M Q => ∃ (a : Addr) (n : Nat) (names : List PySem.Str) (M0 : Mem), ds = [.ref a, .fl (names.map D.str)] ∧ Sr a n M0 M ∧ names ≠ [] ∧ names.length ≤ 100 ∧ n < 700000 ∧
  ∀ ks g M', ks ≠ [] → LnN names ks g → tot ks g ≤ 20 → Sr a (n + 2000) M0 M' → Q (encS ks g) M'
theorem sum_le2 {c : Nat} : ∀ {ks : List Kd}, (∀ k ∈ ks, k.cnt ≤ c) → (ks.map Kd.cnt).sum ≤ c * ks.length
  | [], _ => by simp
  | k :: ks, h => by
    have h1 := h k List.mem_cons_self
    have h2 := sum_le2 (ks := ks) fun x hx => h x (List.mem_cons_of_mem _ hx)
    rw [List.map_cons, List.sum_cons, List.length_cons, Nat.mul_add]
    omega
theorem lvS_len {ks : List Kd} {g : Kd} : (lvS ks g).length = tot ks g := flat_lv (ks ++ [g])
theorem lvS_in {ks : List Kd} {g : Kd} {nm : List PySem.Str} (h : LnN nm ks g) : ∀ s ∈ lvS ks g, s ∈ nm := fun s hs => by
  unfold lvS at hs
  rw [List.mem_flatMap] at hs
  obtain ⟨k, hk, hs⟩ := hs
  exact lv_in k (h k hk) s hs
theorem ixN_nat {n i : Nat} (h : i < n) : ixN n (i : Int) = some i := by
  unfold ixN
  rw [if_pos (by omega), if_pos (by omega)]
  simp
theorem scene_ok : ∀ ds M Q, sp_scene ds M Q → w__law_scene sp_take sp_bushes (sp_grown 30 10) (sp_spots 20) (sp_refilled 20) (ends Q) (startD 7 ds) M := by
  rintro ds M Q ⟨a, n, names, M0, rfl, sr, hne, hnl, hn, q⟩
  have h5 := sz5
  unfold w__law_scene
  simp only [sq_eq]
  rw [sq1]
  simp [-Bool.exists_bool]
  refine take_use 2 sr fun d M1 hd s1 => ?_
  simp [-Bool.exists_bool]
  by_cases hd0 : d = 0
  · rw [if_pos hd0]
    refine take_use 4 s1 fun d2 M2 hd2 s2 => ?_
    simp [-Bool.exists_bool]
    refine take_use 4 s2 fun d3 M3 hd3 s3 => ?_
    simp [-Bool.exists_bool]
    refine ⟨a, n + 3, 1 + d2, 1 + d3, 9, names, M0, by simp, s3, hne, by omega, by omega, by omega, by omega, by omega, by omega, fun ks g M4 hl ln hc s4 => drops_of (q ks g M4 ?_ ln ?_ (s4.more (by omega)))⟩
    · rintro rfl; simp at hl; omega
    · have := sum_le2 hc
      rw [List.length_append, hl] at this
      have h4 : (1 + d3) * (1 + d2 + 1) ≤ 4 * 5 := Nat.mul_le_mul (by omega) (by omega)
      unfold tot
      simp at this ⊢
      omega
  · rw [if_neg hd0, sq1]
    simp [-Bool.exists_bool]
    refine take_use 3 s1 fun d2 M2 hd2 s2 => ?_
    simp [-Bool.exists_bool]
    refine ⟨a, n + 2, 2 + d2, names, M0, by simp, s2, hne, by omega, by omega, by omega, by omega, by omega, by omega, fun p M3 hp ht s3 => ?_⟩
    show sq _ _ _ _ _
    rw [sq1]
    simp [-Bool.exists_bool, encQ]
    have ln := hp.nms
    have lt := len_tot (ks := p.row) (g := p.g)
    refine ⟨by omega, ?_⟩
    rw [sq1]
    simp [-Bool.exists_bool]
    refine take_use 2 s3 fun d3 M4 hd3 s4 => ?_
    simp [-Bool.exists_bool]
    by_cases h1 : d3 = 1
    · rw [if_pos (by omega)]
      show sq _ _ _ _ _
      rw [sq1]
      simp [-Bool.exists_bool]
      refine ⟨p.row, p.g, rfl, tot_dep (by omega), by omega, by omega, fun r hr => ?_⟩
      obtain ⟨ra, r0⟩ := s4.new hr
      show sq _ _ _ _ _
      rw [sq1]
      simp [-Bool.exists_bool]
      have s5 := s4.set (o := .lst ((lvS p.row p.g).map D.str)) ra
      have ll := lvS_len (ks := p.row) (g := p.g)
      rw [y_lenL mset_same]
      simp [-Bool.exists_bool]
      refine take_use (lvS p.row p.g).length s5 fun i M5 hi s5 => ?_
      rw [y_lenL (s5.at ra)]
      simp [-Bool.exists_bool]
      refine take_use (lvS p.row p.g).length s5 fun j M6 hj s6 => ?_
      refine ⟨_, _, ⟨rfl, rfl⟩, ?_⟩
      rw [sq1]
      have g6 := s6.at ra
      simp [-Bool.exists_bool]
      rw [y_ixL g6]
      refine ⟨.str (lvS p.row p.g)[j], at_nat (by rw [List.getElem?_map, List.getElem?_eq_getElem hj]; rfl), ?_⟩
      rw [y_ixL g6]
      refine ⟨.str (lvS p.row p.g)[i], at_nat (by rw [List.getElem?_map, List.getElem?_eq_getElem hi]; rfl), by omega, _, _, ⟨rfl, rfl⟩, ?_⟩
      rw [y_putL g6]
      refine ⟨_, i, rfl, by rw [List.length_map]; exact ixN_nat hi, ?_⟩
      rw [y_putL mset_same]
      refine ⟨_, j, rfl, by rw [List.length_set, List.length_map]; exact ixN_nat hj, ?_⟩
      have e : ((List.map D.str (lvS p.row p.g)).set i (.str (lvS p.row p.g)[j])).set j (.str (lvS p.row p.g)[i]) = (((lvS p.row p.g).set i (lvS p.row p.g)[j]).set j (lvS p.row p.g)[i]).map D.str := by
        rw [List.map_set, List.map_set]
      rw [mset_mset, e]
      have s7 := s6.upd (u := .lst ((((lvS p.row p.g).set i (lvS p.row p.g)[j]).set j (lvS p.row p.g)[i]).map D.str)) ra
      refine ⟨p.row, p.g, r, ((lvS p.row p.g).set i (lvS p.row p.g)[j]).set j (lvS p.row p.g)[i], names, names, rfl, tot_dep (by omega), ln, by omega, mset_same, by rw [List.length_set, List.length_set]; exact ll, fun z hz => ?_, fun ks' g' ln' h1 h2 => ?_⟩
      · rcases List.mem_or_eq_of_mem_set hz with hz | rfl
        · rcases List.mem_or_eq_of_mem_set hz with hz | rfl
          · exact lvS_in ln z hz
          · exact lvS_in ln _ (List.getElem_mem _)
        · exact lvS_in ln _ (List.getElem_mem _)
      · have te : tot ks' g' = tot p.row p.g := by rw [tot_eq, tot_eq, h1, h2]
        have hk : ks' ≠ [] := by
          rintro rfl
          have h3 := hp.ne
          cases h4 : p.row with
          | nil => exact h3 h4
          | cons x xs => rw [h4] at h1; simp at h1
        have fin : drops Q (encS ks' g') _ := s7.out ra r0 fun M' s' => q ks' g' M' hk ln' (by omega) (s'.more (by omega))
        simp [-Bool.exists_bool] at fin ⊢
        exact fin
    · rw [if_neg (by omega)]
      exact drops_of (q p.row p.g M4 hp.ne ln (by omega) (s4.more (by omega)))
end F83

set_option Elab.async false
set_option linter.all false
set_option maxRecDepth 100000
set_option maxHeartbeats 4000000
namespace F83
open PySem PySem.Spec PyProof.Rows L2 Fw
/-! law -/
theorem isN_S {ks : List Kd} {g : Kd} : isN (encS ks g) = false := rfl
theorem law_ok : ∀ ds M Q, Fw.sp_law ds M Q → w_law sp_source sp_take sp_names sp_scene sp_banlist (sp_fails 20) sp_ban (sp_agrees 20) (sp_all 20) sp_move (sp_holds 20) sp_truth (ends Q) (startD 9 ds) M := by
  rintro ds M Q ⟨ns, rfl, q⟩
  have h5 := sz5
  unfold w_law
  simp only [sq_eq]
  rw [sq1]
  simp [-Bool.exists_bool]
  refine ⟨ns, 0, rfl, by omega, fun a M1 ha s1 => ?_⟩
  show sq _ _ _ _ _
  rw [sq1]
  simp [-Bool.exists_bool]
  refine ⟨by omega, take_use 4 s1 fun d M2 hd s2 => ?_⟩
  obtain ⟨m, hm, hm1, hm2⟩ : ∃ m : Nat, L2.atI [D.int 1, D.int 2, D.int 3, D.int 2] (d : Int) = some (.int m) ∧ 1 ≤ m ∧ m ≤ 3 := by
    match d, hd with
    | 0, _ => exact ⟨1, rfl, by omega, by omega⟩
    | 1, _ => exact ⟨2, rfl, by omega, by omega⟩
    | 2, _ => exact ⟨3, rfl, by omega, by omega⟩
    | 3, _ => exact ⟨2, rfl, by omega, by omega⟩
  simp [-Bool.exists_bool]
  rw [hm]
  refine ⟨_, rfl, a, _, m, M, rfl, s2, by omega, by omega, fun names M3 hnl hnm s3 => ?_⟩
  show sq _ _ _ _ _
  rw [sq1]
  simp [-Bool.exists_bool]
  have hne : names ≠ [] := by rintro rfl; simp at hnl; omega
  refine ⟨a, _, names, M, rfl, s3, hne, by omega, by omega, fun ks g M4 hk ln ht s4 => ?_⟩
  show sq _ _ _ _ _
  rw [sq1]
  simp [-Bool.exists_bool]
  refine ⟨ns, 1, rfl, by omega, fun b M5 hb t5 => ?_⟩
  show sq _ _ _ _ _
  rw [sq1]
  simp [-Bool.exists_bool]
  refine take_use 8 t5 fun sz M6 hsz t6 => ?_
  show sq _ _ _ _ _
  rw [sq1]
  obtain ⟨i7, hi7, hi71⟩ : ∃ i : Nat, ((sz : Int) / 7) = i ∧ i < 2 := ⟨sz / 7, by omega, by omega⟩
  have cd : CDiv (sz : Int) 7 := ⟨by omega, by omega⟩
  obtain ⟨top, htop, ht1, ht2⟩ : ∃ t : Nat, L2.atI [D.int 7, D.int 12] (i7 : Int) = some (.int t) ∧ 1 ≤ t ∧ t ≤ 12 := by
    match i7, hi71 with
    | 0, _ => exact ⟨7, rfl, by omega, by omega⟩
    | 1, _ => exact ⟨12, rfl, by omega, by omega⟩
  obtain ⟨wd, hwd, hw1, hw2⟩ : ∃ t : Nat, L2.atI [D.int 4, D.int 6] (i7 : Int) = some (.int t) ∧ 1 ≤ t ∧ t ≤ 6 := by
    match i7, hi71 with
    | 0, _ => exact ⟨4, rfl, by omega, by omega⟩
    | 1, _ => exact ⟨6, rfl, by omega, by omega⟩
  simp [-Bool.exists_bool, cd, hi7]
  refine ⟨by omega, by omega, by omega, ?_⟩
  rw [htop]
  refine ⟨_, rfl, take_use top t6 fun mn M7 hmn t7 => ?_⟩
  simp [-Bool.exists_bool, cd, hi7]
  refine ⟨by omega, ?_⟩
  rw [hwd]
  refine ⟨_, rfl, b, _, 1 + mn, wd, names ++ [Str.ofString "other"], M4, by simp, t7, by simp, by simp; omega, by omega, hw1, by omega, by omega, fun bs M8 hbs t8 => ?_⟩
  have hbok := hbs.ok (by omega) (by omega)
  have hatoms : ∀ s ∈ names ++ [Str.ofString "other"], isAtom s = true ∧ s.length ≤ 100 := by
    intro s hs
    rw [List.mem_append, List.mem_singleton] at hs
    rcases hs with hs | rfl
    · exact ⟨(hnm s hs).1, by have := (hnm s hs).2.1; omega⟩
    · decide
  obtain ⟨isB, knB⟩ := hbs.ban (by omega) (by omega) hatoms
  have seq := seq_ok hbok hnm ln ht (by omega)
  have l100 : ∀ (k : Kd) l, kindB bs k l → l.length ≤ 100 := fun k l h => by
    have := hbs.str (kind_str hbok k l h); omega
  show sq _ _ _ _ _
  rw [sq1]
  simp [-Bool.exists_bool]
  refine ⟨bs, ks, g, rfl, seq, fun c hc => ⟨c, rfl, ?_⟩⟩
  obtain ⟨due, hdue⟩ : ∃ due : Bool, (!c) = due := ⟨_, rfl⟩
  have hd : due = true ↔ ¬ Fails bs ks g := by rw [← hdue, Bool.not_eq_true', ← hc, Bool.eq_false_iff]
  rw [hdue]
  show sq _ _ _ _ _
  rw [sq1]
  simp [-Bool.exists_bool]
  refine ⟨encB bs, rfl, knB _, ?_⟩
  rw [isB]
  simp [-Bool.exists_bool]
  refine ⟨bs, ks, g, due, rfl, seq, fun l h => l100 g l h, hd, ?_⟩
  simp [-Bool.exists_bool]
  refine ⟨bs, ks, g, rfl, seq, ?_⟩
  simp [-Bool.exists_bool]
  show sq _ _ _ _ _
  rw [sq1]
  simp [-Bool.exists_bool]
  refine ⟨by unfold RgOk2; omega, ?_⟩
  refine loop_range (lo := 0) (n := 6) (fun i ρ M' => ∃ (ks : List Kd) (g : Kd) (x7 x8 : Option D), ρ = [some (.fl (ns.map D.int)), some (.ref b), some (.fl (names.map D.str)), some (encS ks g), some (.int sz), some (encB bs), some (.bl due), x7, x8] ∧ ks ≠ [] ∧ LnN names ks g ∧ tot ks g ≤ 20 ∧ (due = true ↔ ¬ Fails bs ks g) ∧ Sr b (3000 + 2 * i) M4 M') ⟨ks, g, none, none, rfl, hk, ln, ht, hd, t8.more (by omega)⟩ ?_ ?_
  · rintro i hi ρ M9 ⟨ks, g, x7, x8, rfl, hk, ln, ht, hd, t9⟩ N hN
    refine ⟨_, _, .refl, .refl, trivial, ?_⟩
    have hkl := List.length_pos_iff.mpr hk
    have lt := len_tot (ks := ks) (g := g)
    unfold w_law_1
    simp only [sq_eq, y_tg1]
    rw [sq1]
    simp [-Bool.exists_bool]
    refine take_use 6 t9 fun way M10 hway t10 => ?_
    simp [-Bool.exists_bool, encS]
    refine take_use ks.length t10 fun at_ M11 hat t11 => ?_
    refine ⟨ks, g, way, at_, rfl, hk, hat, hway, by omega, fun ks' g' mv => ?_, ?_⟩
    · have hd' : due = true ↔ ¬ Fails bs ks' g' := by rw [hd, mv.fails hbok hk]
      have ln' := mv.nm ln
      have ht' : tot ks' g' ≤ 20 := by rw [mv.tot]; exact ht
      have seq' := seq_ok hbok hnm ln' ht' (by omega)
      simp [-Bool.exists_bool, isN_S]
      rw [sq1]
      simp [-Bool.exists_bool]
      rw [sq1]
      simp [-Bool.exists_bool]
      refine ⟨bs, ks', g', rfl, seq', fun c hc => ?_⟩
      have hne : ¬ c = due := by
        rintro rfl
        by_cases hf : Fails bs ks' g'
        · exact hd'.mp (hc.mpr hf) hf
        · exact hf (hc.mp (hd'.mpr hf))
      simp [-Bool.exists_bool, hne]
      refine ⟨bs, ks', g', due, rfl, seq', fun l h => l100 g' l h, hd', ?_⟩
      simp [-Bool.exists_bool]
      refine ⟨bs, ks', g', rfl, seq', ?_⟩
      simp [-Bool.exists_bool]
      refine ⟨bs, ks', g', rfl, seq', fun c2 hc2 => ⟨c2, due, rfl, ?_⟩⟩
      have e2 : c2 = due := by rw [Bool.eq_iff_iff, hc2, hd']
      subst e2
      simp [-Bool.exists_bool]
      exact hN _ _ ⟨ks', g', _, _, rfl, mv.ne hk, ln', ht', hd', t11.more (by omega)⟩
    · simp [-Bool.exists_bool, isN]
      exact hN _ _ ⟨ks, g, _, _, rfl, hk, ln, ht, hd, t11.more (by omega)⟩
  · rintro ρ M9 ⟨ks, g, x7, x8, rfl, _⟩
    refine ⟨_, _, .refl, .refl, trivial, ?_⟩
    simp [-Bool.exists_bool]
    exact drops_of (q _)
end F83

set_option Elab.async false
set_option linter.all false
set_option maxRecDepth 100000
set_option maxHeartbeats 0
/-! printed by asm.py: the join of fractionwords_k88_whole_moves_keep_holdi -/
namespace F83
open PySem PySem.Spec PyProof.Rows L2 Fw
structure Z (K : PySem.W.Frag) (mg : PySem.Str → Option Value) (C_Truth : Addr) : Prop where
  g : G K mg C_Truth
  f_is_atom_number : ∃ f fd, FunD K "is_atom_number" "is_atom_number" (defArgs st_is_atom_number) (defBody st_is_atom_number) (defScope st_is_atom_number) [] [] f fd ∧ mg "is_atom_number" = some (.ref f)
  f_is_atom : ∃ f fd, FunD K "is_atom" "is_atom" (defArgs st_is_atom) (defBody st_is_atom) (defScope st_is_atom) [] [] f fd ∧ mg "is_atom" = some (.ref f)
  f_is_line : ∃ f fd, FunD K "is_line" "is_line" (defArgs st_is_line) (defBody st_is_line) (defScope st_is_line) [] [] f fd ∧ mg "is_line" = some (.ref f)
  f_are_unlike_lines : ∃ f fd, FunD K "are_unlike_lines" "are_unlike_lines" (defArgs st_are_unlike_lines) (defBody st_are_unlike_lines) (defScope st_are_unlike_lines) [] [] f fd ∧ mg "are_unlike_lines" = some (.ref f)
  f_is_ban_list : ∃ f fd, FunD K "is_ban_list" "is_ban_list" (defArgs st_is_ban_list) (defBody st_is_ban_list) (defScope st_is_ban_list) [] [] f fd ∧ mg "is_ban_list" = some (.ref f)
  f_atom_banned : ∃ f fd, FunD K "atom_banned" "atom_banned" (defArgs st_atom_banned) (defBody st_atom_banned) (defScope st_atom_banned) [] [] f fd ∧ mg "atom_banned" = some (.ref f)
  f_over_banned : ∃ f fd, FunD K "over_banned" "over_banned" (defArgs st_over_banned) (defBody st_over_banned) (defScope st_over_banned) [] [] f fd ∧ mg "over_banned" = some (.ref f)
  f_under_banned : ∃ f fd, FunD K "under_banned" "under_banned" (defArgs st_under_banned) (defBody st_under_banned) (defScope st_under_banned) [] [] f fd ∧ mg "under_banned" = some (.ref f)
  f_is_allowed_row : ∃ f fd, FunD K "is_allowed_row" "is_allowed_row" (defArgs st_is_allowed_row) (defBody st_is_allowed_row) (defScope st_is_allowed_row) [] [] f fd ∧ mg "is_allowed_row" = some (.ref f)
  f_allowed_frames : ∃ f fd, FunD K "allowed_frames" "allowed_frames" (defArgs st_allowed_frames) (defBody st_allowed_frames) (defScope st_allowed_frames) [] [] f fd ∧ mg "allowed_frames" = some (.ref f)
  f_pair_banned : ∃ f fd, FunD K "pair_banned" "pair_banned" (defArgs st_pair_banned) (defBody st_pair_banned) (defScope st_pair_banned) [] [] f fd ∧ mg "pair_banned" = some (.ref f)
  f_kind_banned : ∃ f fd, FunD K "kind_banned" "kind_banned" (defArgs st_kind_banned) (defBody st_kind_banned) (defScope st_kind_banned) [] [] f fd ∧ mg "kind_banned" = some (.ref f)
  f_line_key : ∃ f fd, FunD K "line_key" "line_key" (defArgs st_line_key) (defBody st_line_key) (defScope st_line_key) [] [] f fd ∧ mg "line_key" = some (.ref f)
  f_banned_lines : ∃ f fd, FunD K "banned_lines" "banned_lines" (defArgs st_banned_lines) (defBody st_banned_lines) (defScope st_banned_lines) [] [] f fd ∧ mg "banned_lines" = some (.ref f)
  f_format_part : ∃ f fd, FunD K "format_part" "format_part" (defArgs st_format_part) (defBody st_format_part) (defScope st_format_part) [] [] f fd ∧ mg "format_part" = some (.ref f)
  f_format_kind : ∃ f fd, FunD K "format_kind" "format_kind" (defArgs st_format_kind) (defBody st_format_kind) (defScope st_format_kind) [] [] f fd ∧ mg "format_kind" = some (.ref f)
  f_pieces_of : ∃ f fd, FunD K "pieces_of" "pieces_of" (defArgs st_pieces_of) (defBody st_pieces_of) (defScope st_pieces_of) [] [] f fd ∧ mg "pieces_of" = some (.ref f)
  f_Truth___init__ : ∃ f fd, FunD K "__init__" "Truth.__init__" (defArgs st_Truth___init__) (defBody st_Truth___init__) (defScope st_Truth___init__) [] [] f fd ∧ Mk K C_Truth f ∧ mg "Truth" = some (.ref C_Truth)
  f_Truth_banned_by : ∃ f fd, FunD K "banned_by" "Truth.banned_by" (defArgs st_Truth_banned_by) (defBody st_Truth_banned_by) (defScope st_Truth_banned_by) [] [] f fd ∧ Meth K C_Truth "banned_by" f
  f_Truth_failing : ∃ f fd, FunD K "failing" "Truth.failing" (defArgs st_Truth_failing) (defBody st_Truth_failing) (defScope st_Truth_failing) [] [] f fd ∧ Meth K C_Truth "failing" f
  f_failing_lines : ∃ f fd, FunD K "failing_lines" "failing_lines" (defArgs st_failing_lines) (defBody st_failing_lines) (defScope st_failing_lines) [] [] f fd ∧ mg "failing_lines" = some (.ref f)
  f_holds : ∃ f fd, FunD K "holds" "holds" (defArgs st_holds) (defBody st_holds) (defScope st_holds) [] [] f fd ∧ mg "holds" = some (.ref f)
  f__law_stir : ∃ f fd, FunD K "_law_stir" "_law_stir" (defArgs st__law_stir) (defBody st__law_stir) (defScope st__law_stir) [] [] f fd ∧ mg "_law_stir" = some (.ref f)
  f__law_source : ∃ f fd, FunD K "_law_source" "_law_source" (defArgs st__law_source) (defBody st__law_source) (defScope st__law_source) [] [] f fd ∧ mg "_law_source" = some (.ref f)
  f__law_take : ∃ f fd, FunD K "_law_take" "_law_take" (defArgs st__law_take) (defBody st__law_take) (defScope st__law_take) [] [] f fd ∧ mg "_law_take" = some (.ref f)
  f__law_atom : ∃ f fd, FunD K "_law_atom" "_law_atom" (defArgs st__law_atom) (defBody st__law_atom) (defScope st__law_atom) [] [] f fd ∧ mg "_law_atom" = some (.ref f)
  f__law_base : ∃ f fd, FunD K "_law_base" "_law_base" (defArgs st__law_base) (defBody st__law_base) (defScope st__law_base) [] [] f fd ∧ mg "_law_base" = some (.ref f)
  f__law_names : ∃ f fd, FunD K "_law_names" "_law_names" (defArgs st__law_names) (defBody st__law_names) (defScope st__law_names) [] [] f fd ∧ mg "_law_names" = some (.ref f)
  f__law_size : ∃ f fd, FunD K "_law_size" "_law_size" (defArgs st__law_size) (defBody st__law_size) (defScope st__law_size) [] [] f fd ∧ mg "_law_size" = some (.ref f)
  f__law_leaves : ∃ f fd, FunD K "_law_leaves" "_law_leaves" (defArgs st__law_leaves) (defBody st__law_leaves) (defScope st__law_leaves) [] [] f fd ∧ mg "_law_leaves" = some (.ref f)
  f__law_spots : ∃ f fd, FunD K "_law_spots" "_law_spots" (defArgs st__law_spots) (defBody st__law_spots) (defScope st__law_spots) [] [] f fd ∧ mg "_law_spots" = some (.ref f)
  f__law_bush : ∃ f fd, FunD K "_law_bush" "_law_bush" (defArgs st__law_bush) (defBody st__law_bush) (defScope st__law_bush) [] [] f fd ∧ mg "_law_bush" = some (.ref f)
  f__law_bushes : ∃ f fd, FunD K "_law_bushes" "_law_bushes" (defArgs st__law_bushes) (defBody st__law_bushes) (defScope st__law_bushes) [] [] f fd ∧ mg "_law_bushes" = some (.ref f)
  f__law_poured : ∃ f fd, FunD K "_law_poured" "_law_poured" (defArgs st__law_poured) (defBody st__law_poured) (defScope st__law_poured) [] [] f fd ∧ mg "_law_poured" = some (.ref f)
  f__law_refilled : ∃ f fd, FunD K "_law_refilled" "_law_refilled" (defArgs st__law_refilled) (defBody st__law_refilled) (defScope st__law_refilled) [] [] f fd ∧ mg "_law_refilled" = some (.ref f)
  f__law_below : ∃ f fd, FunD K "_law_below" "_law_below" (defArgs st__law_below) (defBody st__law_below) (defScope st__law_below) [] [] f fd ∧ mg "_law_below" = some (.ref f)
  f__law_axiom : ∃ f fd, FunD K "_law_axiom" "_law_axiom" (defArgs st__law_axiom) (defBody st__law_axiom) (defScope st__law_axiom) [] [] f fd ∧ mg "_law_axiom" = some (.ref f)
  f__law_step : ∃ f fd, FunD K "_law_step" "_law_step" (defArgs st__law_step) (defBody st__law_step) (defScope st__law_step) [] [] f fd ∧ mg "_law_step" = some (.ref f)
  f__law_grown : ∃ f fd, FunD K "_law_grown" "_law_grown" (defArgs st__law_grown) (defBody st__law_grown) (defScope st__law_grown) [] [] f fd ∧ mg "_law_grown" = some (.ref f)
  f__law_turned : ∃ f fd, FunD K "_law_turned" "_law_turned" (defArgs st__law_turned) (defBody st__law_turned) (defScope st__law_turned) [] [] f fd ∧ mg "_law_turned" = some (.ref f)
  f__law_is_whole : ∃ f fd, FunD K "_law_is_whole" "_law_is_whole" (defArgs st__law_is_whole) (defBody st__law_is_whole) (defScope st__law_is_whole) [] [] f fd ∧ mg "_law_is_whole" = some (.ref f)
  f__law_alike : ∃ f fd, FunD K "_law_alike" "_law_alike" (defArgs st__law_alike) (defBody st__law_alike) (defScope st__law_alike) [] [] f fd ∧ mg "_law_alike" = some (.ref f)
  f__law_pair_bans : ∃ f fd, FunD K "_law_pair_bans" "_law_pair_bans" (defArgs st__law_pair_bans) (defBody st__law_pair_bans) (defScope st__law_pair_bans) [] [] f fd ∧ mg "_law_pair_bans" = some (.ref f)
  f__law_kind_bans : ∃ f fd, FunD K "_law_kind_bans" "_law_kind_bans" (defArgs st__law_kind_bans) (defBody st__law_kind_bans) (defScope st__law_kind_bans) [] [] f fd ∧ mg "_law_kind_bans" = some (.ref f)
  f__law_ordered : ∃ f fd, FunD K "_law_ordered" "_law_ordered" (defArgs st__law_ordered) (defBody st__law_ordered) (defScope st__law_ordered) [] [] f fd ∧ mg "_law_ordered" = some (.ref f)
  f__law_cuttable : ∃ f fd, FunD K "_law_cuttable" "_law_cuttable" (defArgs st__law_cuttable) (defBody st__law_cuttable) (defScope st__law_cuttable) [] [] f fd ∧ mg "_law_cuttable" = some (.ref f)
  f__law_fails : ∃ f fd, FunD K "_law_fails" "_law_fails" (defArgs st__law_fails) (defBody st__law_fails) (defScope st__law_fails) [] [] f fd ∧ mg "_law_fails" = some (.ref f)
  f__law_shows : ∃ f fd, FunD K "_law_shows" "_law_shows" (defArgs st__law_shows) (defBody st__law_shows) (defScope st__law_shows) [] [] f fd ∧ mg "_law_shows" = some (.ref f)
  f__law_is_truth : ∃ f fd, FunD K "_law_is_truth" "_law_is_truth" (defArgs st__law_is_truth) (defBody st__law_is_truth) (defScope st__law_is_truth) [] [] f fd ∧ mg "_law_is_truth" = some (.ref f)
  f__law_move : ∃ f fd, FunD K "_law_move" "_law_move" (defArgs st__law_move) (defBody st__law_move) (defScope st__law_move) [] [] f fd ∧ mg "_law_move" = some (.ref f)
  f__law_ban_list : ∃ f fd, FunD K "_law_ban_list" "_law_ban_list" (defArgs st__law_ban_list) (defBody st__law_ban_list) (defScope st__law_ban_list) [] [] f fd ∧ mg "_law_ban_list" = some (.ref f)
  f__law_truth_agrees : ∃ f fd, FunD K "_law_truth_agrees" "_law_truth_agrees" (defArgs st__law_truth_agrees) (defBody st__law_truth_agrees) (defScope st__law_truth_agrees) [] [] f fd ∧ mg "_law_truth_agrees" = some (.ref f)
  f__law_scene : ∃ f fd, FunD K "_law_scene" "_law_scene" (defArgs st__law_scene) (defBody st__law_scene) (defScope st__law_scene) [] [] f fd ∧ mg "_law_scene" = some (.ref f)
  f__law_all_lines : ∃ f fd, FunD K "_law_all_lines" "_law_all_lines" (defArgs st__law_all_lines) (defBody st__law_all_lines) (defScope st__law_all_lines) [] [] f fd ∧ mg "_law_all_lines" = some (.ref f)
  f_law : ∃ f fd, FunD K "law" "law" (defArgs st_law) (defBody st_law) (defScope st_law) [] [] f fd ∧ mg "law" = some (.ref f)
theorem c_is_atom_number {P : Program} {w : World} {K : PySem.W.Frag} {mg : PySem.Str → Option Value} {base : Heap} {C_Truth : Addr} (z : Z K mg C_Truth) : CalD P w K mg base 1 "is_atom_number" sp_num :=
  let ⟨f, fd, F, hm⟩ := z.f_is_atom_number
  ⟨f, fd, ps_is_atom_number, [], (fn_ok F fs_is_atom_number (by intro ds M Q h; unfold sp_num at h; (repeat' (first | (obtain ⟨rfl, _⟩ := h; rfl) | (obtain ⟨_, h⟩ := h)))) (fun cdv A outer s H E hr => b_is_atom_number (k := 0) z.g  cdv A outer s H E hr) num_ok), hm, F.kp, (F.bindsN fun _ _ _ _ _ _ us hl => match us, hl with | [_], _ => rfl), .nil⟩
theorem c_is_atom {P : Program} {w : World} {K : PySem.W.Frag} {mg : PySem.Str → Option Value} {base : Heap} {C_Truth : Addr} (z : Z K mg C_Truth) : CalD P w K mg base 2 "is_atom" sp_atom :=
  let ⟨f, fd, F, hm⟩ := z.f_is_atom
  ⟨f, fd, ps_is_atom, [], (fn_ok F fs_is_atom (by intro ds M Q h; unfold sp_atom at h; (repeat' (first | (obtain ⟨rfl, _⟩ := h; rfl) | (obtain ⟨_, h⟩ := h)))) (fun cdv A outer s H E hr => b_is_atom (k := 1) z.g (CalD.mono (c_is_atom_number z) (by decide : _ ≤ 1)) cdv A outer s H E hr) atom_ok), hm, F.kp, (F.bindsN fun _ _ _ _ _ _ us hl => match us, hl with | [_], _ => rfl), .nil⟩
theorem c_is_line {P : Program} {w : World} {K : PySem.W.Frag} {mg : PySem.Str → Option Value} {base : Heap} {C_Truth : Addr} (z : Z K mg C_Truth) : CalD P w K mg base 1 "is_line" sp_line :=
  let ⟨f, fd, F, hm⟩ := z.f_is_line
  ⟨f, fd, ps_is_line, [], (fn_ok F fs_is_line (by intro ds M Q h; unfold sp_line at h; (repeat' (first | (obtain ⟨rfl, _⟩ := h; rfl) | (obtain ⟨_, h⟩ := h)))) (fun cdv A outer s H E hr => b_is_line (k := 0) z.g  cdv A outer s H E hr) line_ok), hm, F.kp, (F.bindsN fun _ _ _ _ _ _ us hl => match us, hl with | [_], _ => rfl), .nil⟩
theorem c_are_unlike_lines {P : Program} {w : World} {K : PySem.W.Frag} {mg : PySem.Str → Option Value} {base : Heap} {C_Truth : Addr} (z : Z K mg C_Truth) : CalD P w K mg base 2 "are_unlike_lines" sp_unlike :=
  let ⟨f, fd, F, hm⟩ := z.f_are_unlike_lines
  ⟨f, fd, ps_are_unlike_lines, [], (fn_ok F fs_are_unlike_lines (by intro ds M Q h; unfold sp_unlike at h; (repeat' (first | (obtain ⟨rfl, _⟩ := h; rfl) | (obtain ⟨_, h⟩ := h)))) (fun cdv A outer s H E hr => b_are_unlike_lines (k := 1) z.g (CalD.mono (c_is_line z) (by decide : _ ≤ 1)) cdv A outer s H E hr) unlike_ok), hm, F.kp, (F.bindsN fun _ _ _ _ _ _ us hl => match us, hl with | [_], _ => rfl), .nil⟩
theorem c_is_ban_list {P : Program} {w : World} {K : PySem.W.Frag} {mg : PySem.Str → Option Value} {base : Heap} {C_Truth : Addr} (z : Z K mg C_Truth) : CalD P w K mg base 3 "is_ban_list" sp_ban :=
  let ⟨f, fd, F, hm⟩ := z.f_is_ban_list
  ⟨f, fd, ps_is_ban_list, [], (fn_ok F fs_is_ban_list (by intro ds M Q h; unfold sp_ban at h; (repeat' (first | (obtain ⟨rfl, _⟩ := h; rfl) | (obtain ⟨_, h⟩ := h)))) (fun cdv A outer s H E hr => b_is_ban_list (k := 2) z.g (CalD.mono (c_is_atom z) (by decide : _ ≤ 2)) (CalD.mono (c_are_unlike_lines z) (by decide : _ ≤ 2)) cdv A outer s H E hr) ban_ok), hm, F.kp, (F.bindsN fun _ _ _ _ _ _ us hl => match us, hl with | [_], _ => rfl), .nil⟩
theorem c_atom_banned {P : Program} {w : World} {K : PySem.W.Frag} {mg : PySem.Str → Option Value} {base : Heap} {C_Truth : Addr} (z : Z K mg C_Truth) : CalD P w K mg base 1 "atom_banned" sp_atomB :=
  let ⟨f, fd, F, hm⟩ := z.f_atom_banned
  ⟨f, fd, ps_atom_banned, [], (fn_ok F fs_atom_banned (by intro ds M Q h; unfold sp_atomB at h; (repeat' (first | (obtain ⟨rfl, _⟩ := h; rfl) | (obtain ⟨_, h⟩ := h)))) (fun cdv A outer s H E hr => b_atom_banned (k := 0) z.g  cdv A outer s H E hr) atomB_ok), hm, F.kp, (F.bindsN fun _ _ _ _ _ _ us hl => match us, hl with | [_, _], _ => rfl), .nil⟩
theorem c_over_banned {P : Program} {w : World} {K : PySem.W.Frag} {mg : PySem.Str → Option Value} {base : Heap} {C_Truth : Addr} (z : Z K mg C_Truth) : CalD P w K mg base 1 "over_banned" sp_over :=
  let ⟨f, fd, F, hm⟩ := z.f_over_banned
  ⟨f, fd, ps_over_banned, [], (fn_ok F fs_over_banned (by intro ds M Q h; unfold sp_over at h; (repeat' (first | (obtain ⟨rfl, _⟩ := h; rfl) | (obtain ⟨_, h⟩ := h)))) (fun cdv A outer s H E hr => b_over_banned (k := 0) z.g  cdv A outer s H E hr) over_ok), hm, F.kp, (F.bindsN fun _ _ _ _ _ _ us hl => match us, hl with | [_, _], _ => rfl), .nil⟩
theorem c_under_banned {P : Program} {w : World} {K : PySem.W.Frag} {mg : PySem.Str → Option Value} {base : Heap} {C_Truth : Addr} (z : Z K mg C_Truth) : CalD P w K mg base 1 "under_banned" sp_under :=
  let ⟨f, fd, F, hm⟩ := z.f_under_banned
  ⟨f, fd, ps_under_banned, [], (fn_ok F fs_under_banned (by intro ds M Q h; unfold sp_under at h; (repeat' (first | (obtain ⟨rfl, _⟩ := h; rfl) | (obtain ⟨_, h⟩ := h)))) (fun cdv A outer s H E hr => b_under_banned (k := 0) z.g  cdv A outer s H E hr) under_ok), hm, F.kp, (F.bindsN fun _ _ _ _ _ _ us hl => match us, hl with | [_, _], _ => rfl), .nil⟩
theorem c_is_allowed_row {P : Program} {w : World} {K : PySem.W.Frag} {mg : PySem.Str → Option Value} {base : Heap} {C_Truth : Addr} (z : Z K mg C_Truth) : CalD P w K mg base 1 "is_allowed_row" sp_row :=
  let ⟨f, fd, F, hm⟩ := z.f_is_allowed_row
  ⟨f, fd, ps_is_allowed_row, [], (fn_ok F fs_is_allowed_row (by intro ds M Q h; unfold sp_row at h; (repeat' (first | (obtain ⟨rfl, _⟩ := h; rfl) | (obtain ⟨_, h⟩ := h)))) (fun cdv A outer s H E hr => b_is_allowed_row (k := 0) z.g  cdv A outer s H E hr) row_ok), hm, F.kp, (F.bindsN fun _ _ _ _ _ _ us hl => match us, hl with | [_, _, _], _ => rfl), .nil⟩
theorem c_allowed_frames {P : Program} {w : World} {K : PySem.W.Frag} {mg : PySem.Str → Option Value} {base : Heap} {C_Truth : Addr} (z : Z K mg C_Truth) : CalD P w K mg base 2 "allowed_frames" sp_frames :=
  let ⟨f, fd, F, hm⟩ := z.f_allowed_frames
  ⟨f, fd, ps_allowed_frames, [], (fn_ok F fs_allowed_frames (by intro ds M Q h; unfold sp_frames at h; (repeat' (first | (obtain ⟨rfl, _⟩ := h; rfl) | (obtain ⟨_, h⟩ := h)))) (fun cdv A outer s H E hr => b_allowed_frames (k := 1) z.g (CalD.mono (c_is_allowed_row z) (by decide : _ ≤ 1)) cdv A outer s H E hr) frames_ok), hm, F.kp, (F.bindsN fun _ _ _ _ _ _ us hl => match us, hl with | [_, _, _], _ => rfl), .nil⟩
theorem c_pair_banned {P : Program} {w : World} {K : PySem.W.Frag} {mg : PySem.Str → Option Value} {base : Heap} {C_Truth : Addr} (z : Z K mg C_Truth) : CalD P w K mg base 3 "pair_banned" sp_pair :=
  let ⟨f, fd, F, hm⟩ := z.f_pair_banned
  ⟨f, fd, ps_pair_banned, [], (fn_ok F fs_pair_banned (by intro ds M Q h; unfold sp_pair at h; (repeat' (first | (obtain ⟨rfl, _⟩ := h; rfl) | (obtain ⟨_, h⟩ := h)))) (fun cdv A outer s H E hr => b_pair_banned (k := 2) z.g (CalD.mono (c_allowed_frames z) (by decide : _ ≤ 2)) cdv A outer s H E hr) pair_ok), hm, F.kp, (F.bindsN fun _ _ _ _ _ _ us hl => match us, hl with | [_, _, _], _ => rfl), .nil⟩
theorem v_kind_banned {P : Program} {w : World} {K : PySem.W.Frag} {mg : PySem.Str → Option Value} {base : Heap} {C_Truth : Addr} (z : Z K mg C_Truth) : CalD P w K mg base 1 "kind_banned" (sp_kind 0) :=
  let ⟨f, fd, F, hm⟩ := z.f_kind_banned
  ⟨f, fd, ps_kind_banned, [], (fn_ok (wb := fun _ _ _ => False) F fs_kind_banned (by intro ds M Q h; unfold sp_kind at h; (repeat' (first | (obtain ⟨rfl, _⟩ := h; rfl) | (obtain ⟨_, h⟩ := h)))) (fun cdv A outer s H E hr => vac) (by intro ds M Q h; simp [sp_kind] at h)), hm, F.kp, (F.bindsN fun _ _ _ _ _ _ us hl => match us, hl with | [_, _], _ => rfl), .nil⟩
theorem c_kind_banned {P : Program} {w : World} {K : PySem.W.Frag} {mg : PySem.Str → Option Value} {base : Heap} {C_Truth : Addr} : ∀ (n : Nat) (z : Z K mg C_Truth), CalD P w K mg base (n + 3) "kind_banned" (sp_kind n)
  | 0, z => CalD.mono (v_kind_banned z) (by omega)
  | n + 1, z => let ⟨f, fd, F, hm⟩ := z.f_kind_banned
  ⟨f, fd, ps_kind_banned, [], (fn_ok (k := n + 3) F fs_kind_banned (by intro ds M Q h; unfold sp_kind at h; (repeat' (first | (obtain ⟨rfl, _⟩ := h; rfl) | (obtain ⟨_, h⟩ := h)))) (fun cdv A outer s H E hr => b_kind_banned (k := n + 3) z.g (CalD.mono (c_atom_banned z) (by omega)) (c_kind_banned n z) (CalD.mono (c_over_banned z) (by omega)) (CalD.mono (c_under_banned z) (by omega)) (CalD.mono (c_pair_banned z) (by omega)) cdv A outer s H E hr) (kind_ok n)), hm, F.kp, (F.bindsN fun _ _ _ _ _ _ us hl => match us, hl with | [_, _], _ => rfl), .nil⟩
theorem c_line_key {P : Program} {w : World} {K : PySem.W.Frag} {mg : PySem.Str → Option Value} {base : Heap} {C_Truth : Addr} (z : Z K mg C_Truth) : CalD P w K mg base 1 "line_key" sp_key :=
  let ⟨f, fd, F, hm⟩ := z.f_line_key
  ⟨f, fd, ps_line_key, [], (fn_ok F fs_line_key (by intro ds M Q h; unfold sp_key at h; (repeat' (first | (obtain ⟨rfl, _⟩ := h; rfl) | (obtain ⟨_, h⟩ := h)))) (fun cdv A outer s H E hr => b_line_key (k := 0) z.g  cdv A outer s H E hr) key_ok), hm, F.kp, (F.bindsN fun _ _ _ _ _ _ us hl => match us, hl with | [_], _ => rfl), .nil⟩
theorem c_banned_lines {P : Program} {w : World} {K : PySem.W.Frag} {mg : PySem.Str → Option Value} {base : Heap} {C_Truth : Addr} (z : Z K mg C_Truth) : CalD P w K mg base 24 "banned_lines" (sp_bl 20) :=
  let ⟨f, fd, F, hm⟩ := z.f_banned_lines
  ⟨f, fd, ps_banned_lines, [], (fn_ok F fs_banned_lines (by intro ds M Q h; unfold sp_bl at h; (repeat' (first | (obtain ⟨rfl, _⟩ := h; rfl) | (obtain ⟨_, h⟩ := h)))) (fun cdv A outer s H E hr => b_banned_lines (k := 21) z.g (CalD.mono (c_kind_banned 20 z) (by decide : _ ≤ 23)) (CalD.mono (c_line_key z) (by decide : _ ≤ 21)) cdv A outer s H E hr) (bl_ok 20)), hm, F.kp, (F.bindsN fun _ _ _ _ _ _ us hl => match us, hl with | [_, _], _ => rfl), .nil⟩
theorem v_format_kind {P : Program} {w : World} {K : PySem.W.Frag} {mg : PySem.Str → Option Value} {base : Heap} {C_Truth : Addr} (z : Z K mg C_Truth) : CalD P w K mg base 1 "format_kind" (sp_fk 0) :=
  let ⟨f, fd, F, hm⟩ := z.f_format_kind
  ⟨f, fd, ps_format_kind, [], (fn_ok (wb := fun _ _ _ => False) F fs_format_kind (by intro ds M Q h; unfold sp_fk at h; (repeat' (first | (obtain ⟨rfl, _⟩ := h; rfl) | (obtain ⟨_, h⟩ := h)))) (fun cdv A outer s H E hr => vac) (by intro ds M Q h; simp [sp_fk] at h)), hm, F.kp, (F.bindsN fun _ _ _ _ _ _ us hl => match us, hl with | [_], _ => rfl), .nil⟩
theorem r_format_part {P : Program} {w : World} {K : PySem.W.Frag} {mg : PySem.Str → Option Value} {base : Heap} {C_Truth : Addr} (z : Z K mg C_Truth) (n : Nat) (h : CalD P w K mg base (2 * n + 1) "format_kind" (sp_fk n)) : CalD P w K mg base (2 * n + 2) "format_part" (sp_fp n) :=
  let ⟨f, fd, F, hm⟩ := z.f_format_part
  ⟨f, fd, ps_format_part, [], (fn_ok (k := 2 * n + 1) F fs_format_part (by intro ds M Q h; unfold sp_fp at h; (repeat' (first | (obtain ⟨rfl, _⟩ := h; rfl) | (obtain ⟨_, h⟩ := h)))) (fun cdv A outer s H E hr => b_format_part (k := 2 * n + 1) z.g h cdv A outer s H E hr) (fp_ok n)), hm, F.kp, (F.bindsN fun _ _ _ _ _ _ us hl => match us, hl with | [_], _ => rfl), .nil⟩
theorem c_format_kind {P : Program} {w : World} {K : PySem.W.Frag} {mg : PySem.Str → Option Value} {base : Heap} {C_Truth : Addr} : ∀ (n : Nat) (z : Z K mg C_Truth), CalD P w K mg base (2 * n + 1) "format_kind" (sp_fk n)
  | 0, z => CalD.mono (v_format_kind z) (by omega)
  | n + 1, z => let ⟨f, fd, F, hm⟩ := z.f_format_kind
  ⟨f, fd, ps_format_kind, [], (fn_ok (k := 2 * n + 2) F fs_format_kind (by intro ds M Q h; unfold sp_fk at h; (repeat' (first | (obtain ⟨rfl, _⟩ := h; rfl) | (obtain ⟨_, h⟩ := h)))) (fun cdv A outer s H E hr => b_format_kind (k := 2 * n + 2) z.g (r_format_part z n (c_format_kind n z)) cdv A outer s H E hr) (fk_ok n)), hm, F.kp, (F.bindsN fun _ _ _ _ _ _ us hl => match us, hl with | [_], _ => rfl), .nil⟩
theorem c_format_part {P : Program} {w : World} {K : PySem.W.Frag} {mg : PySem.Str → Option Value} {base : Heap} {C_Truth : Addr} (n : Nat) (z : Z K mg C_Truth) : CalD P w K mg base (2 * n + 2) "format_part" (sp_fp n) := r_format_part z n (c_format_kind n z)
theorem c_pieces_of {P : Program} {w : World} {K : PySem.W.Frag} {mg : PySem.Str → Option Value} {base : Heap} {C_Truth : Addr} (z : Z K mg C_Truth) : CalD P w K mg base 1 "pieces_of" sp_pieces :=
  let ⟨f, fd, F, hm⟩ := z.f_pieces_of
  ⟨f, fd, ps_pieces_of, [], (fn_ok F fs_pieces_of (by intro ds M Q h; unfold sp_pieces at h; (repeat' (first | (obtain ⟨rfl, _⟩ := h; rfl) | (obtain ⟨_, h⟩ := h)))) (fun cdv A outer s H E hr => b_pieces_of (k := 0) z.g  cdv A outer s H E hr) pieces_ok), hm, F.kp, (F.bindsN fun _ _ _ _ _ _ us hl => match us, hl with | [_, _], _ => rfl), .nil⟩
theorem c_Truth___init__ {P : Program} {w : World} {K : PySem.W.Frag} {mg : PySem.Str → Option Value} {base : Heap} {C_Truth : Addr} (z : Z K mg C_Truth) : MakD P w K mg base 1 "Truth" C_Truth (sp_init C_Truth) :=
  let ⟨f, fd, F, mk, hm⟩ := z.f_Truth___init__
  ⟨f, fd, ps_Truth___init__, [], mk, (fn_ok F fs_Truth___init__ (by intro ds M Q h; unfold sp_init at h; (repeat' (first | (obtain ⟨rfl, _⟩ := h; rfl) | (obtain ⟨_, h⟩ := h)))) (fun cdv A outer s H E hr => b_Truth___init__ (k := 0) z.g  cdv A outer s H E hr) (init_ok C_Truth)), hm, (F.bindsN fun _ _ _ _ _ _ us hl => match us, hl with | [_, _], _ => rfl), .nil⟩
theorem c_Truth_banned_by {P : Program} {w : World} {K : PySem.W.Frag} {mg : PySem.Str → Option Value} {base : Heap} {C_Truth : Addr} (z : Z K mg C_Truth) : MetD P w K mg base 42 C_Truth "banned_by" (sp_by C_Truth 20) :=
  let ⟨f, fd, F, me⟩ := z.f_Truth_banned_by
  ⟨f, fd, ps_Truth_banned_by, [], z.g.cls_Truth, me, (fn_ok F fs_Truth_banned_by (by intro ds M Q h; unfold sp_by at h; (repeat' (first | (obtain ⟨rfl, _⟩ := h; rfl) | (obtain ⟨_, h⟩ := h)))) (fun cdv A outer s H E hr => b_Truth_banned_by (k := 41) z.g (CalD.mono (c_format_kind 20 z) (by decide : _ ≤ 41)) (CalD.mono (c_kind_banned 20 z) (by decide : _ ≤ 41)) cdv A outer s H E hr) (by_ok C_Truth 20)), (F.bindsN fun _ _ _ _ _ _ us hl => match us, hl with | [_, _], _ => rfl), .nil⟩
theorem c_Truth_failing {P : Program} {w : World} {K : PySem.W.Frag} {mg : PySem.Str → Option Value} {base : Heap} {C_Truth : Addr} (z : Z K mg C_Truth) : MetD P w K mg base 43 C_Truth "failing" (sp_failing C_Truth 20) :=
  let ⟨f, fd, F, me⟩ := z.f_Truth_failing
  ⟨f, fd, ps_Truth_failing, [], z.g.cls_Truth, me, (fn_ok F fs_Truth_failing (by intro ds M Q h; unfold sp_failing at h; (repeat' (first | (obtain ⟨rfl, _⟩ := h; rfl) | (obtain ⟨_, h⟩ := h)))) (fun cdv A outer s H E hr => b_Truth_failing (k := 42) z.g (MetD.mono (c_Truth_banned_by z) (by decide : _ ≤ 42)) (CalD.mono (c_pieces_of z) (by decide : _ ≤ 42)) cdv A outer s H E hr) (failing_ok C_Truth 20)), (F.bindsN fun _ _ _ _ _ _ us hl => match us, hl with | [_, _], _ => rfl), .nil⟩
theorem c_failing_lines {P : Program} {w : World} {K : PySem.W.Frag} {mg : PySem.Str → Option Value} {base : Heap} {C_Truth : Addr} (z : Z K mg C_Truth) : CalD P w K mg base 45 "failing_lines" (sp_fl 20) :=
  let ⟨f, fd, F, hm⟩ := z.f_failing_lines
  ⟨f, fd, ps_failing_lines, [], (fn_ok F fs_failing_lines (by intro ds M Q h; unfold sp_fl at h; (repeat' (first | (obtain ⟨rfl, _⟩ := h; rfl) | (obtain ⟨_, h⟩ := h)))) (fun cdv A outer s H E hr => b_failing_lines (k := 43) z.g (MakD.mono (c_Truth___init__ z) (by decide : _ ≤ 43)) (MetD.mono (c_Truth_failing z) (by decide : _ ≤ 43)) cdv A outer s H E hr) (fl_ok C_Truth 20)), hm, F.kp, (F.bindsN fun _ _ _ _ _ _ us hl => match us, hl with | [_, _], _ => rfl), .nil⟩
theorem c_holds {P : Program} {w : World} {K : PySem.W.Frag} {mg : PySem.Str → Option Value} {base : Heap} {C_Truth : Addr} (z : Z K mg C_Truth) : CalD P w K mg base 46 "holds" (sp_holds 20) :=
  let ⟨f, fd, F, hm⟩ := z.f_holds
  ⟨f, fd, ps_holds, [], (fn_ok F fs_holds (by intro ds M Q h; unfold sp_holds at h; (repeat' (first | (obtain ⟨rfl, _⟩ := h; rfl) | (obtain ⟨_, h⟩ := h)))) (fun cdv A outer s H E hr => b_holds (k := 45) z.g (CalD.mono (c_failing_lines z) (by decide : _ ≤ 45)) cdv A outer s H E hr) (holds_ok 20)), hm, F.kp, (F.bindsN fun _ _ _ _ _ _ us hl => match us, hl with | [_, _], _ => rfl), .nil⟩
theorem c__law_stir {P : Program} {w : World} {K : PySem.W.Frag} {mg : PySem.Str → Option Value} {base : Heap} {C_Truth : Addr} (z : Z K mg C_Truth) : CalD P w K mg base 1 "_law_stir" sp_stir :=
  let ⟨f, fd, F, hm⟩ := z.f__law_stir
  ⟨f, fd, ps__law_stir, [], (fn_ok F fs__law_stir (by intro ds M Q h; unfold sp_stir at h; (repeat' (first | (obtain ⟨rfl, _⟩ := h; rfl) | (obtain ⟨_, h⟩ := h)))) (fun cdv A outer s H E hr => b__law_stir (k := 0) z.g  cdv A outer s H E hr) stir_ok), hm, F.kp, (F.bindsN fun _ _ _ _ _ _ us hl => match us, hl with | [_, _], _ => rfl), .nil⟩
theorem c__law_source {P : Program} {w : World} {K : PySem.W.Frag} {mg : PySem.Str → Option Value} {base : Heap} {C_Truth : Addr} (z : Z K mg C_Truth) : CalD P w K mg base 1 "_law_source" sp_source :=
  let ⟨f, fd, F, hm⟩ := z.f__law_source
  ⟨f, fd, ps__law_source, [], (fn_ok F fs__law_source (by intro ds M Q h; unfold sp_source at h; (repeat' (first | (obtain ⟨rfl, _⟩ := h; rfl) | (obtain ⟨_, h⟩ := h)))) (fun cdv A outer s H E hr => b__law_source (k := 0) z.g  cdv A outer s H E hr) source_ok), hm, F.kp, (F.bindsN fun _ _ _ _ _ _ us hl => match us, hl with | [_, _], _ => rfl), .nil⟩
theorem c__law_take {P : Program} {w : World} {K : PySem.W.Frag} {mg : PySem.Str → Option Value} {base : Heap} {C_Truth : Addr} (z : Z K mg C_Truth) : CalD P w K mg base 2 "_law_take" sp_take :=
  let ⟨f, fd, F, hm⟩ := z.f__law_take
  ⟨f, fd, ps__law_take, [], (fn_ok F fs__law_take (by intro ds M Q h; unfold sp_take at h; (repeat' (first | (obtain ⟨rfl, _⟩ := h; rfl) | (obtain ⟨_, h⟩ := h)))) (fun cdv A outer s H E hr => b__law_take (k := 1) z.g (CalD.mono (c__law_stir z) (by decide : _ ≤ 1)) cdv A outer s H E hr) take_ok), hm, F.kp, (F.bindsN fun _ _ _ _ _ _ us hl => match us, hl with | [_, _], _ => rfl), .nil⟩
theorem c__law_atom {P : Program} {w : World} {K : PySem.W.Frag} {mg : PySem.Str → Option Value} {base : Heap} {C_Truth : Addr} (z : Z K mg C_Truth) : CalD P w K mg base 3 "_law_atom" sp_lat :=
  let ⟨f, fd, F, hm⟩ := z.f__law_atom
  ⟨f, fd, ps__law_atom, [], (fn_ok F fs__law_atom (by intro ds M Q h; unfold sp_lat at h; (repeat' (first | (obtain ⟨rfl, _⟩ := h; rfl) | (obtain ⟨_, h⟩ := h)))) (fun cdv A outer s H E hr => b__law_atom (k := 2) z.g (CalD.mono (c__law_take z) (by decide : _ ≤ 2)) cdv A outer s H E hr) lat_ok), hm, F.kp, (F.bindsN fun _ _ _ _ _ _ us hl => match us, hl with | [_], _ => rfl), .nil⟩
theorem c__law_base {P : Program} {w : World} {K : PySem.W.Frag} {mg : PySem.Str → Option Value} {base : Heap} {C_Truth : Addr} (z : Z K mg C_Truth) : CalD P w K mg base 1 "_law_base" sp_base :=
  let ⟨f, fd, F, hm⟩ := z.f__law_base
  ⟨f, fd, ps__law_base, [], (fn_ok F fs__law_base (by intro ds M Q h; unfold sp_base at h; (repeat' (first | (obtain ⟨rfl, _⟩ := h; rfl) | (obtain ⟨_, h⟩ := h)))) (fun cdv A outer s H E hr => b__law_base (k := 0) z.g  cdv A outer s H E hr) lbase_ok), hm, F.kp, (F.bindsN fun _ _ _ _ _ _ us hl => match us, hl with | [_], _ => rfl), .nil⟩
theorem c__law_names {P : Program} {w : World} {K : PySem.W.Frag} {mg : PySem.Str → Option Value} {base : Heap} {C_Truth : Addr} (z : Z K mg C_Truth) : CalD P w K mg base 4 "_law_names" sp_names :=
  let ⟨f, fd, F, hm⟩ := z.f__law_names
  ⟨f, fd, ps__law_names, [], (fn_ok F fs__law_names (by intro ds M Q h; unfold sp_names at h; (repeat' (first | (obtain ⟨rfl, _⟩ := h; rfl) | (obtain ⟨_, h⟩ := h)))) (fun cdv A outer s H E hr => b__law_names (k := 3) z.g (CalD.mono (c__law_atom z) (by decide : _ ≤ 3)) (CalD.mono (c__law_take z) (by decide : _ ≤ 3)) (CalD.mono (c__law_base z) (by decide : _ ≤ 3)) cdv A outer s H E hr) names_ok), hm, F.kp, (F.bindsN fun _ _ _ _ _ _ us hl => match us, hl with | [_, _], _ => rfl), .nil⟩
theorem v__law_size {P : Program} {w : World} {K : PySem.W.Frag} {mg : PySem.Str → Option Value} {base : Heap} {C_Truth : Addr} (z : Z K mg C_Truth) : CalD P w K mg base 1 "_law_size" (sp_size 0) :=
  let ⟨f, fd, F, hm⟩ := z.f__law_size
  ⟨f, fd, ps__law_size, [], (fn_ok (wb := fun _ _ _ => False) F fs__law_size (by intro ds M Q h; unfold sp_size at h; (repeat' (first | (obtain ⟨rfl, _⟩ := h; rfl) | (obtain ⟨_, h⟩ := h)))) (fun cdv A outer s H E hr => vac) (by intro ds M Q h; simp [sp_size] at h)), hm, F.kp, (F.bindsN fun _ _ _ _ _ _ us hl => match us, hl with | [_], _ => rfl), .nil⟩
theorem c__law_size {P : Program} {w : World} {K : PySem.W.Frag} {mg : PySem.Str → Option Value} {base : Heap} {C_Truth : Addr} : ∀ (n : Nat) (z : Z K mg C_Truth), CalD P w K mg base (n + 1) "_law_size" (sp_size n)
  | 0, z => CalD.mono (v__law_size z) (by omega)
  | n + 1, z => let ⟨f, fd, F, hm⟩ := z.f__law_size
  ⟨f, fd, ps__law_size, [], (fn_ok (k := n + 1) F fs__law_size (by intro ds M Q h; unfold sp_size at h; (repeat' (first | (obtain ⟨rfl, _⟩ := h; rfl) | (obtain ⟨_, h⟩ := h)))) (fun cdv A outer s H E hr => b__law_size (k := n + 1) z.g (c__law_size n z) cdv A outer s H E hr) (size_ok n)), hm, F.kp, (F.bindsN fun _ _ _ _ _ _ us hl => match us, hl with | [_], _ => rfl), .nil⟩
theorem v__law_leaves {P : Program} {w : World} {K : PySem.W.Frag} {mg : PySem.Str → Option Value} {base : Heap} {C_Truth : Addr} (z : Z K mg C_Truth) : CalD P w K mg base 1 "_law_leaves" (sp_leaves 0) :=
  let ⟨f, fd, F, hm⟩ := z.f__law_leaves
  ⟨f, fd, ps__law_leaves, [], (fn_ok (wb := fun _ _ _ => False) F fs__law_leaves (by intro ds M Q h; unfold sp_leaves at h; (repeat' (first | (obtain ⟨rfl, _⟩ := h; rfl) | (obtain ⟨_, h⟩ := h)))) (fun cdv A outer s H E hr => vac) (by intro ds M Q h; simp [sp_leaves] at h)), hm, F.kp, (F.bindsN fun _ _ _ _ _ _ us hl => match us, hl with | [_], _ => rfl), .nil⟩
theorem c__law_leaves {P : Program} {w : World} {K : PySem.W.Frag} {mg : PySem.Str → Option Value} {base : Heap} {C_Truth : Addr} : ∀ (n : Nat) (z : Z K mg C_Truth), CalD P w K mg base (n + 1) "_law_leaves" (sp_leaves n)
  | 0, z => CalD.mono (v__law_leaves z) (by omega)
  | n + 1, z => let ⟨f, fd, F, hm⟩ := z.f__law_leaves
  ⟨f, fd, ps__law_leaves, [], (fn_ok (k := n + 1) F fs__law_leaves (by intro ds M Q h; unfold sp_leaves at h; (repeat' (first | (obtain ⟨rfl, _⟩ := h; rfl) | (obtain ⟨_, h⟩ := h)))) (fun cdv A outer s H E hr => b__law_leaves (k := n + 1) z.g (c__law_leaves n z) cdv A outer s H E hr) (leaves_ok n)), hm, F.kp, (F.bindsN fun _ _ _ _ _ _ us hl => match us, hl with | [_], _ => rfl), .nil⟩
theorem c__law_spots {P : Program} {w : World} {K : PySem.W.Frag} {mg : PySem.Str → Option Value} {base : Heap} {C_Truth : Addr} (z : Z K mg C_Truth) : CalD P w K mg base 22 "_law_spots" (sp_spots 20) :=
  let ⟨f, fd, F, hm⟩ := z.f__law_spots
  ⟨f, fd, ps__law_spots, [], (fn_ok F fs__law_spots (by intro ds M Q h; unfold sp_spots at h; (repeat' (first | (obtain ⟨rfl, _⟩ := h; rfl) | (obtain ⟨_, h⟩ := h)))) (fun cdv A outer s H E hr => b__law_spots (k := 21) z.g (CalD.mono (c__law_leaves 20 z) (by decide : _ ≤ 21)) cdv A outer s H E hr) (spots_ok 20)), hm, F.kp, (F.bindsN fun _ _ _ _ _ _ us hl => match us, hl with | [_], _ => rfl), .nil⟩
theorem v__law_bush {P : Program} {w : World} {K : PySem.W.Frag} {mg : PySem.Str → Option Value} {base : Heap} {C_Truth : Addr} (z : Z K mg C_Truth) : CalD P w K mg base 1 "_law_bush" (sp_bush 0) :=
  let ⟨f, fd, F, hm⟩ := z.f__law_bush
  ⟨f, fd, ps__law_bush, [], (fn_ok (wb := fun _ _ _ => False) F fs__law_bush (by intro ds M Q h; unfold sp_bush at h; (repeat' (first | (obtain ⟨rfl, _⟩ := h; rfl) | (obtain ⟨_, h⟩ := h)))) (fun cdv A outer s H E hr => vac) (by intro ds M Q h; simp [sp_bush] at h)), hm, F.kp, (F.bindsN fun _ _ _ _ _ _ us hl => match us, hl with | [_, _, _], _ => rfl), .nil⟩
theorem c__law_bush {P : Program} {w : World} {K : PySem.W.Frag} {mg : PySem.Str → Option Value} {base : Heap} {C_Truth : Addr} : ∀ (n : Nat) (z : Z K mg C_Truth), CalD P w K mg base (n + 2) "_law_bush" (sp_bush n)
  | 0, z => CalD.mono (v__law_bush z) (by omega)
  | n + 1, z => let ⟨f, fd, F, hm⟩ := z.f__law_bush
  ⟨f, fd, ps__law_bush, [], (fn_ok (k := n + 2) F fs__law_bush (by intro ds M Q h; unfold sp_bush at h; (repeat' (first | (obtain ⟨rfl, _⟩ := h; rfl) | (obtain ⟨_, h⟩ := h)))) (fun cdv A outer s H E hr => b__law_bush (k := n + 2) z.g (CalD.mono (c__law_take z) (by omega)) (c__law_bush n z) cdv A outer s H E hr) (bush_ok n)), hm, F.kp, (F.bindsN fun _ _ _ _ _ _ us hl => match us, hl with | [_, _, _], _ => rfl), .nil⟩
theorem c__law_bushes {P : Program} {w : World} {K : PySem.W.Frag} {mg : PySem.Str → Option Value} {base : Heap} {C_Truth : Addr} (z : Z K mg C_Truth) : CalD P w K mg base 33 "_law_bushes" sp_bushes :=
  let ⟨f, fd, F, hm⟩ := z.f__law_bushes
  ⟨f, fd, ps__law_bushes, [], (fn_ok F fs__law_bushes (by intro ds M Q h; unfold sp_bushes at h; (repeat' (first | (obtain ⟨rfl, _⟩ := h; rfl) | (obtain ⟨_, h⟩ := h)))) (fun cdv A outer s H E hr => b__law_bushes (k := 32) z.g (CalD.mono (c__law_take z) (by decide : _ ≤ 32)) (CalD.mono (c__law_bush 30 z) (by decide : _ ≤ 32)) cdv A outer s H E hr) bushes_ok), hm, F.kp, (F.bindsN fun _ _ _ _ _ _ us hl => match us, hl with | [_, _, _, _, _], _ => rfl), .nil⟩
theorem v__law_poured {P : Program} {w : World} {K : PySem.W.Frag} {mg : PySem.Str → Option Value} {base : Heap} {C_Truth : Addr} (z : Z K mg C_Truth) : CalD P w K mg base 1 "_law_poured" (sp_poured 0) :=
  let ⟨f, fd, F, hm⟩ := z.f__law_poured
  ⟨f, fd, ps__law_poured, [], (fn_ok (wb := fun _ _ _ => False) F fs__law_poured (by intro ds M Q h; unfold sp_poured at h; (repeat' (first | (obtain ⟨rfl, _⟩ := h; rfl) | (obtain ⟨_, h⟩ := h)))) (fun cdv A outer s H E hr => vac) (by intro ds M Q h; simp [sp_poured] at h)), hm, F.kp, (F.bindsN fun _ _ _ _ _ _ us hl => match us, hl with | [_, _], _ => rfl), .nil⟩
theorem c__law_poured {P : Program} {w : World} {K : PySem.W.Frag} {mg : PySem.Str → Option Value} {base : Heap} {C_Truth : Addr} : ∀ (n : Nat) (z : Z K mg C_Truth), CalD P w K mg base (n + 1) "_law_poured" (sp_poured n)
  | 0, z => CalD.mono (v__law_poured z) (by omega)
  | n + 1, z => let ⟨f, fd, F, hm⟩ := z.f__law_poured
  ⟨f, fd, ps__law_poured, [], (fn_ok (k := n + 1) F fs__law_poured (by intro ds M Q h; unfold sp_poured at h; (repeat' (first | (obtain ⟨rfl, _⟩ := h; rfl) | (obtain ⟨_, h⟩ := h)))) (fun cdv A outer s H E hr => b__law_poured (k := n + 1) z.g (c__law_poured n z) cdv A outer s H E hr) (poured_ok n)), hm, F.kp, (F.bindsN fun _ _ _ _ _ _ us hl => match us, hl with | [_, _], _ => rfl), .nil⟩
theorem c__law_refilled {P : Program} {w : World} {K : PySem.W.Frag} {mg : PySem.Str → Option Value} {base : Heap} {C_Truth : Addr} (z : Z K mg C_Truth) : CalD P w K mg base 22 "_law_refilled" (sp_refilled 20) :=
  let ⟨f, fd, F, hm⟩ := z.f__law_refilled
  ⟨f, fd, ps__law_refilled, [], (fn_ok F fs__law_refilled (by intro ds M Q h; unfold sp_refilled at h; (repeat' (first | (obtain ⟨rfl, _⟩ := h; rfl) | (obtain ⟨_, h⟩ := h)))) (fun cdv A outer s H E hr => b__law_refilled (k := 21) z.g (CalD.mono (c__law_poured 20 z) (by decide : _ ≤ 21)) cdv A outer s H E hr) (refilled_ok 20)), hm, F.kp, (F.bindsN fun _ _ _ _ _ _ us hl => match us, hl with | [_, _], _ => rfl), .nil⟩
theorem c__law_below {P : Program} {w : World} {K : PySem.W.Frag} {mg : PySem.Str → Option Value} {base : Heap} {C_Truth : Addr} (z : Z K mg C_Truth) : CalD P w K mg base 1 "_law_below" sp_below :=
  let ⟨f, fd, F, hm⟩ := z.f__law_below
  ⟨f, fd, ps__law_below, [], (fn_ok F fs__law_below (by intro ds M Q h; unfold sp_below at h; (repeat' (first | (obtain ⟨rfl, _⟩ := h; rfl) | (obtain ⟨_, h⟩ := h)))) (fun cdv A outer s H E hr => b__law_below (k := 0) z.g  cdv A outer s H E hr) below_ok), hm, F.kp, (F.bindsN fun _ _ _ _ _ _ us hl => match us, hl with | [_, _, _], _ => rfl), .nil⟩
theorem c__law_axiom {P : Program} {w : World} {K : PySem.W.Frag} {mg : PySem.Str → Option Value} {base : Heap} {C_Truth : Addr} (z : Z K mg C_Truth) : CalD P w K mg base 1 "_law_axiom" sp_axiom :=
  let ⟨f, fd, F, hm⟩ := z.f__law_axiom
  ⟨f, fd, ps__law_axiom, [], (fn_ok F fs__law_axiom (by intro ds M Q h; unfold sp_axiom at h; (repeat' (first | (obtain ⟨rfl, _⟩ := h; rfl) | (obtain ⟨_, h⟩ := h)))) (fun cdv A outer s H E hr => b__law_axiom (k := 0) z.g  cdv A outer s H E hr) axiom_ok), hm, F.kp, (F.bindsN fun _ _ _ _ _ _ us hl => match us, hl with | [_], _ => rfl), .nil⟩
theorem c__law_step {P : Program} {w : World} {K : PySem.W.Frag} {mg : PySem.Str → Option Value} {base : Heap} {C_Truth : Addr} (z : Z K mg C_Truth) : CalD P w K mg base 2 "_law_step" sp_step :=
  let ⟨f, fd, F, hm⟩ := z.f__law_step
  ⟨f, fd, ps__law_step, [], (fn_ok F fs__law_step (by intro ds M Q h; unfold sp_step at h; (repeat' (first | (obtain ⟨rfl, _⟩ := h; rfl) | (obtain ⟨_, h⟩ := h)))) (fun cdv A outer s H E hr => b__law_step (k := 1) z.g (CalD.mono (c__law_below z) (by decide : _ ≤ 1)) cdv A outer s H E hr) step_ok), hm, F.kp, (F.bindsN fun _ _ _ _ _ _ us hl => match us, hl with | [_, _, _], _ => rfl), .nil⟩
theorem c__law_turned {P : Program} {w : World} {K : PySem.W.Frag} {mg : PySem.Str → Option Value} {base : Heap} {C_Truth : Addr} (z : Z K mg C_Truth) : CalD P w K mg base 32 "_law_turned" (sp_turned 30) :=
  let ⟨f, fd, F, hm⟩ := z.f__law_turned
  ⟨f, fd, ps__law_turned, [], (fn_ok F fs__law_turned (by intro ds M Q h; unfold sp_turned at h; (repeat' (first | (obtain ⟨rfl, _⟩ := h; rfl) | (obtain ⟨_, h⟩ := h)))) (fun cdv A outer s H E hr => b__law_turned (k := 31) z.g (CalD.mono (c__law_step z) (by decide : _ ≤ 31)) (CalD.mono (c__law_size 30 z) (by decide : _ ≤ 31)) cdv A outer s H E hr) (turned_ok 30)), hm, F.kp, (F.bindsN fun _ _ _ _ _ _ us hl => match us, hl with | [_, _, _], _ => rfl), .nil⟩
theorem c__law_is_whole {P : Program} {w : World} {K : PySem.W.Frag} {mg : PySem.Str → Option Value} {base : Heap} {C_Truth : Addr} (z : Z K mg C_Truth) : CalD P w K mg base 1 "_law_is_whole" sp_whole :=
  let ⟨f, fd, F, hm⟩ := z.f__law_is_whole
  ⟨f, fd, ps__law_is_whole, [], (fn_ok F fs__law_is_whole (by intro ds M Q h; unfold sp_whole at h; (repeat' (first | (obtain ⟨rfl, _⟩ := h; rfl) | (obtain ⟨_, h⟩ := h)))) (fun cdv A outer s H E hr => b__law_is_whole (k := 0) z.g  cdv A outer s H E hr) whole_ok), hm, F.kp, (F.bindsN fun _ _ _ _ _ _ us hl => match us, hl with | [_], _ => rfl), .nil⟩
theorem v__law_alike {P : Program} {w : World} {K : PySem.W.Frag} {mg : PySem.Str → Option Value} {base : Heap} {C_Truth : Addr} (z : Z K mg C_Truth) : CalD P w K mg base 1 "_law_alike" (sp_alike 0) :=
  let ⟨f, fd, F, hm⟩ := z.f__law_alike
  ⟨f, fd, ps__law_alike, [], (fn_ok (wb := fun _ _ _ => False) F fs__law_alike (by intro ds M Q h; unfold sp_alike at h; (repeat' (first | (obtain ⟨rfl, _⟩ := h; rfl) | (obtain ⟨_, h⟩ := h)))) (fun cdv A outer s H E hr => vac) (by intro ds M Q h; simp [sp_alike, Pl] at h)), hm, F.kp, (F.bindsN fun _ _ _ _ _ _ us hl => match us, hl with | [_, _], _ => rfl), .nil⟩
theorem c__law_alike {P : Program} {w : World} {K : PySem.W.Frag} {mg : PySem.Str → Option Value} {base : Heap} {C_Truth : Addr} : ∀ (n : Nat) (z : Z K mg C_Truth), CalD P w K mg base (n + 1) "_law_alike" (sp_alike n)
  | 0, z => CalD.mono (v__law_alike z) (by omega)
  | n + 1, z => let ⟨f, fd, F, hm⟩ := z.f__law_alike
  ⟨f, fd, ps__law_alike, [], (fn_ok (k := n + 1) F fs__law_alike (by intro ds M Q h; unfold sp_alike at h; (repeat' (first | (obtain ⟨rfl, _⟩ := h; rfl) | (obtain ⟨_, h⟩ := h)))) (fun cdv A outer s H E hr => b__law_alike (k := n + 1) z.g (c__law_alike n z) cdv A outer s H E hr) (alike_ok n)), hm, F.kp, (F.bindsN fun _ _ _ _ _ _ us hl => match us, hl with | [_, _], _ => rfl), .nil⟩
theorem c__law_pair_bans {P : Program} {w : World} {K : PySem.W.Frag} {mg : PySem.Str → Option Value} {base : Heap} {C_Truth : Addr} (z : Z K mg C_Truth) : CalD P w K mg base 1 "_law_pair_bans" sp_lpair :=
  let ⟨f, fd, F, hm⟩ := z.f__law_pair_bans
  ⟨f, fd, ps__law_pair_bans, [], (fn_ok F fs__law_pair_bans (by intro ds M Q h; unfold sp_lpair at h; (repeat' (first | (obtain ⟨rfl, _⟩ := h; rfl) | (obtain ⟨_, h⟩ := h)))) (fun cdv A outer s H E hr => b__law_pair_bans (k := 0) z.g  cdv A outer s H E hr) lpair_ok), hm, F.kp, (F.bindsN fun _ _ _ _ _ _ us hl => match us, hl with | [_, _, _], _ => rfl), .nil⟩
theorem v__law_kind_bans {P : Program} {w : World} {K : PySem.W.Frag} {mg : PySem.Str → Option Value} {base : Heap} {C_Truth : Addr} (z : Z K mg C_Truth) : CalD P w K mg base 1 "_law_kind_bans" (sp_lkind 0) :=
  let ⟨f, fd, F, hm⟩ := z.f__law_kind_bans
  ⟨f, fd, ps__law_kind_bans, [], (fn_ok (wb := fun _ _ _ => False) F fs__law_kind_bans (by intro ds M Q h; unfold sp_lkind at h; (repeat' (first | (obtain ⟨rfl, _⟩ := h; rfl) | (obtain ⟨_, h⟩ := h)))) (fun cdv A outer s H E hr => vac) (by intro ds M Q h; simp [sp_lkind] at h)), hm, F.kp, (F.bindsN fun _ _ _ _ _ _ us hl => match us, hl with | [_, _], _ => rfl), .nil⟩
theorem c__law_kind_bans {P : Program} {w : World} {K : PySem.W.Frag} {mg : PySem.Str → Option Value} {base : Heap} {C_Truth : Addr} : ∀ (n : Nat) (z : Z K mg C_Truth), CalD P w K mg base (n + 1) "_law_kind_bans" (sp_lkind n)
  | 0, z => CalD.mono (v__law_kind_bans z) (by omega)
  | n + 1, z => let ⟨f, fd, F, hm⟩ := z.f__law_kind_bans
  ⟨f, fd, ps__law_kind_bans, [], (fn_ok (k := n + 1) F fs__law_kind_bans (by intro ds M Q h; unfold sp_lkind at h; (repeat' (first | (obtain ⟨rfl, _⟩ := h; rfl) | (obtain ⟨_, h⟩ := h)))) (fun cdv A outer s H E hr => b__law_kind_bans (k := n + 1) z.g (c__law_kind_bans n z) (CalD.mono (c__law_pair_bans z) (by omega)) cdv A outer s H E hr) (lkind_ok n)), hm, F.kp, (F.bindsN fun _ _ _ _ _ _ us hl => match us, hl with | [_, _], _ => rfl), .nil⟩
theorem c__law_ordered {P : Program} {w : World} {K : PySem.W.Frag} {mg : PySem.Str → Option Value} {base : Heap} {C_Truth : Addr} (z : Z K mg C_Truth) : CalD P w K mg base 1 "_law_ordered" sp_ordered :=
  let ⟨f, fd, F, hm⟩ := z.f__law_ordered
  ⟨f, fd, ps__law_ordered, [], (fn_ok F fs__law_ordered (by intro ds M Q h; unfold sp_ordered at h; (repeat' (first | (obtain ⟨rfl, _⟩ := h; rfl) | (obtain ⟨_, h⟩ := h)))) (fun cdv A outer s H E hr => b__law_ordered (k := 0) z.g  cdv A outer s H E hr) ordered_ok), hm, F.kp, (F.bindsN fun _ _ _ _ _ _ us hl => match us, hl with | [_], _ => rfl), .nil⟩
theorem c__law_cuttable {P : Program} {w : World} {K : PySem.W.Frag} {mg : PySem.Str → Option Value} {base : Heap} {C_Truth : Addr} (z : Z K mg C_Truth) : CalD P w K mg base 1 "_law_cuttable" sp_cuttable :=
  let ⟨f, fd, F, hm⟩ := z.f__law_cuttable
  ⟨f, fd, ps__law_cuttable, [], (fn_ok F fs__law_cuttable (by intro ds M Q h; unfold sp_cuttable at h; (repeat' (first | (obtain ⟨rfl, _⟩ := h; rfl) | (obtain ⟨_, h⟩ := h)))) (fun cdv A outer s H E hr => b__law_cuttable (k := 0) z.g  cdv A outer s H E hr) cuttable_ok), hm, F.kp, (F.bindsN fun _ _ _ _ _ _ us hl => match us, hl with | [_, _], _ => rfl), .nil⟩
theorem c__law_fails {P : Program} {w : World} {K : PySem.W.Frag} {mg : PySem.Str → Option Value} {base : Heap} {C_Truth : Addr} (z : Z K mg C_Truth) : CalD P w K mg base 22 "_law_fails" (sp_fails 20) :=
  let ⟨f, fd, F, hm⟩ := z.f__law_fails
  ⟨f, fd, ps__law_fails, [], (fn_ok F fs__law_fails (by intro ds M Q h; unfold sp_fails at h; (repeat' (first | (obtain ⟨rfl, _⟩ := h; rfl) | (obtain ⟨_, h⟩ := h)))) (fun cdv A outer s H E hr => b__law_fails (k := 21) z.g (CalD.mono (c__law_kind_bans 20 z) (by decide : _ ≤ 21)) (CalD.mono (c__law_cuttable z) (by decide : _ ≤ 21)) cdv A outer s H E hr) (fails_ok 20)), hm, F.kp, (F.bindsN fun _ _ _ _ _ _ us hl => match us, hl with | [_, _], _ => rfl), .nil⟩
theorem c__law_shows {P : Program} {w : World} {K : PySem.W.Frag} {mg : PySem.Str → Option Value} {base : Heap} {C_Truth : Addr} (z : Z K mg C_Truth) : CalD P w K mg base 22 "_law_shows" (sp_shows 20) :=
  let ⟨f, fd, F, hm⟩ := z.f__law_shows
  ⟨f, fd, ps__law_shows, [], (fn_ok F fs__law_shows (by intro ds M Q h; unfold sp_shows at h; (repeat' (first | (obtain ⟨rfl, _⟩ := h; rfl) | (obtain ⟨_, h⟩ := h)))) (fun cdv A outer s H E hr => b__law_shows (k := 21) z.g (CalD.mono (c__law_is_whole z) (by decide : _ ≤ 21)) (CalD.mono (c__law_kind_bans 20 z) (by decide : _ ≤ 21)) cdv A outer s H E hr) (shows_ok 20)), hm, F.kp, (F.bindsN fun _ _ _ _ _ _ us hl => match us, hl with | [_, _, _], _ => rfl), .nil⟩
theorem c__law_is_truth {P : Program} {w : World} {K : PySem.W.Frag} {mg : PySem.Str → Option Value} {base : Heap} {C_Truth : Addr} (z : Z K mg C_Truth) : CalD P w K mg base 1 "_law_is_truth" sp_truth :=
  let ⟨f, fd, F, hm⟩ := z.f__law_is_truth
  ⟨f, fd, ps__law_is_truth, [], (fn_ok F fs__law_is_truth (by intro ds M Q h; unfold sp_truth at h; (repeat' (first | (obtain ⟨rfl, _⟩ := h; rfl) | (obtain ⟨_, h⟩ := h)))) (fun cdv A outer s H E hr => b__law_is_truth (k := 0) z.g  cdv A outer s H E hr) truth_ok), hm, F.kp, (F.bindsN fun _ _ _ _ _ _ us hl => match us, hl with | [_, _], _ => rfl), .nil⟩
theorem c__law_move {P : Program} {w : World} {K : PySem.W.Frag} {mg : PySem.Str → Option Value} {base : Heap} {C_Truth : Addr} (z : Z K mg C_Truth) : CalD P w K mg base 1 "_law_move" sp_move :=
  let ⟨f, fd, F, hm⟩ := z.f__law_move
  ⟨f, fd, ps__law_move, [], (fn_ok F fs__law_move (by intro ds M Q h; unfold sp_move at h; (repeat' (first | (obtain ⟨rfl, _⟩ := h; rfl) | (obtain ⟨_, h⟩ := h)))) (fun cdv A outer s H E hr => b__law_move (k := 0) z.g  cdv A outer s H E hr) move_ok), hm, F.kp, (F.bindsN fun _ _ _ _ _ _ us hl => match us, hl with | [_, _, _], _ => rfl), .nil⟩
theorem c__law_ban_list {P : Program} {w : World} {K : PySem.W.Frag} {mg : PySem.Str → Option Value} {base : Heap} {C_Truth : Addr} (z : Z K mg C_Truth) : CalD P w K mg base 3 "_law_ban_list" sp_banlist :=
  let ⟨f, fd, F, hm⟩ := z.f__law_ban_list
  ⟨f, fd, ps__law_ban_list, [], (fn_ok F fs__law_ban_list (by intro ds M Q h; unfold sp_banlist at h; (repeat' (first | (obtain ⟨rfl, _⟩ := h; rfl) | (obtain ⟨_, h⟩ := h)))) (fun cdv A outer s H E hr => b__law_ban_list (k := 2) z.g (CalD.mono (c__law_take z) (by decide : _ ≤ 2)) cdv A outer s H E hr) banlist_ok), hm, F.kp, (F.bindsN fun _ _ _ _ _ _ us hl => match us, hl with | [_, _, _, _], _ => rfl), .nil⟩
theorem c__law_truth_agrees {P : Program} {w : World} {K : PySem.W.Frag} {mg : PySem.Str → Option Value} {base : Heap} {C_Truth : Addr} (z : Z K mg C_Truth) : CalD P w K mg base 47 "_law_truth_agrees" (sp_agrees 20) :=
  let ⟨f, fd, F, hm⟩ := z.f__law_truth_agrees
  ⟨f, fd, ps__law_truth_agrees, [], (fn_ok F fs__law_truth_agrees (by intro ds M Q h; unfold sp_agrees at h; (repeat' (first | (obtain ⟨rfl, _⟩ := h; rfl) | (obtain ⟨_, h⟩ := h)))) (fun cdv A outer s H E hr => b__law_truth_agrees (k := 46) z.g (CalD.mono (c_holds z) (by decide : _ ≤ 46)) (CalD.mono (c__law_is_truth z) (by decide : _ ≤ 46)) (CalD.mono (c_failing_lines z) (by decide : _ ≤ 46)) (CalD.mono (c__law_shows z) (by decide : _ ≤ 46)) cdv A outer s H E hr) (agrees_ok 20)), hm, F.kp, (F.bindsN fun _ _ _ _ _ _ us hl => match us, hl with | [_, _, _], _ => rfl), .nil⟩
theorem c__law_all_lines {P : Program} {w : World} {K : PySem.W.Frag} {mg : PySem.Str → Option Value} {base : Heap} {C_Truth : Addr} (z : Z K mg C_Truth) : CalD P w K mg base 25 "_law_all_lines" (sp_all 20) :=
  let ⟨f, fd, F, hm⟩ := z.f__law_all_lines
  ⟨f, fd, ps__law_all_lines, [], (fn_ok F fs__law_all_lines (by intro ds M Q h; unfold sp_all at h; (repeat' (first | (obtain ⟨rfl, _⟩ := h; rfl) | (obtain ⟨_, h⟩ := h)))) (fun cdv A outer s H E hr => b__law_all_lines (k := 24) z.g (CalD.mono (c__law_kind_bans 20 z) (by decide : _ ≤ 24)) (CalD.mono (c__law_ordered z) (by decide : _ ≤ 24)) (CalD.mono (c_banned_lines z) (by decide : _ ≤ 24)) (CalD.mono (c__law_alike 5 z) (by decide : _ ≤ 24)) cdv A outer s H E hr) (all_ok 20)), hm, F.kp, (F.bindsN fun _ _ _ _ _ _ us hl => match us, hl with | [_, _], _ => rfl), .nil⟩
theorem v__law_grown {P : Program} {w : World} {K : PySem.W.Frag} {mg : PySem.Str → Option Value} {base : Heap} {C_Truth : Addr} (z : Z K mg C_Truth) : CalD P w K mg base 1 "_law_grown" ((sp_grown 30) 0) :=
  let ⟨f, fd, F, hm⟩ := z.f__law_grown
  ⟨f, fd, ps__law_grown, [], (fn_ok (wb := fun _ _ _ => False) F fs__law_grown (by intro ds M Q h; unfold sp_grown at h; (repeat' (first | (obtain ⟨rfl, _⟩ := h; rfl) | (obtain ⟨_, h⟩ := h)))) (fun cdv A outer s H E hr => vac) (by intro ds M Q h; simp [sp_grown] at h)), hm, F.kp, (F.bindsN fun _ _ _ _ _ _ us hl => match us, hl with | [_, _, _], _ => rfl), .nil⟩
theorem c__law_grown {P : Program} {w : World} {K : PySem.W.Frag} {mg : PySem.Str → Option Value} {base : Heap} {C_Truth : Addr} : ∀ (n : Nat) (z : Z K mg C_Truth), CalD P w K mg base (n + 32) "_law_grown" ((sp_grown 30) n)
  | 0, z => CalD.mono (v__law_grown z) (by omega)
  | n + 1, z => let ⟨f, fd, F, hm⟩ := z.f__law_grown
  ⟨f, fd, ps__law_grown, [], (fn_ok (k := n + 32) F fs__law_grown (by intro ds M Q h; unfold sp_grown at h; (repeat' (first | (obtain ⟨rfl, _⟩ := h; rfl) | (obtain ⟨_, h⟩ := h)))) (fun cdv A outer s H E hr => b__law_grown (k := n + 32) z.g (CalD.mono (c__law_take z) (by omega)) (CalD.mono (c__law_axiom z) (by omega)) (c__law_grown n z) (CalD.mono (c__law_step z) (by omega)) (CalD.mono (c__law_turned z) (by omega)) cdv A outer s H E hr) ((grown_ok 30) n)), hm, F.kp, (F.bindsN fun _ _ _ _ _ _ us hl => match us, hl with | [_, _, _], _ => rfl), .nil⟩
theorem c__law_scene {P : Program} {w : World} {K : PySem.W.Frag} {mg : PySem.Str → Option Value} {base : Heap} {C_Truth : Addr} (z : Z K mg C_Truth) : CalD P w K mg base 43 "_law_scene" sp_scene :=
  let ⟨f, fd, F, hm⟩ := z.f__law_scene
  ⟨f, fd, ps__law_scene, [], (fn_ok F fs__law_scene (by intro ds M Q h; unfold sp_scene at h; (repeat' (first | (obtain ⟨rfl, _⟩ := h; rfl) | (obtain ⟨_, h⟩ := h)))) (fun cdv A outer s H E hr => b__law_scene (k := 42) z.g (CalD.mono (c__law_take z) (by decide : _ ≤ 42)) (CalD.mono (c__law_bushes z) (by decide : _ ≤ 42)) (CalD.mono (c__law_grown 10 z) (by decide : _ ≤ 42)) (CalD.mono (c__law_spots z) (by decide : _ ≤ 42)) (CalD.mono (c__law_refilled z) (by decide : _ ≤ 42)) cdv A outer s H E hr) scene_ok), hm, F.kp, (F.bindsN fun _ _ _ _ _ _ us hl => match us, hl with | [_, _], _ => rfl), .nil⟩
theorem c_law {P : Program} {w : World} {K : PySem.W.Frag} {mg : PySem.Str → Option Value} {base : Heap} {C_Truth : Addr} (z : Z K mg C_Truth) {f : Addr} {fd : FuncData} (F : FunD K "law" "law" (defArgs st_law) (defBody st_law) (defScope st_law) [] [] f fd) : FnOk P w K mg base C8.CX0 48 f fd ps_law (lSp P w K sp_law) :=
  (fn_ok F fs_law (by intro ds M Q h; unfold sp_law at h; (repeat' (first | (obtain ⟨rfl, _⟩ := h; rfl) | (obtain ⟨_, h⟩ := h)))) (fun cdv A outer s H E hr => b_law (k := 47) z.g (CalD.mono (c__law_source z) (by decide : _ ≤ 47)) (CalD.mono (c__law_take z) (by decide : _ ≤ 47)) (CalD.mono (c__law_names z) (by decide : _ ≤ 47)) (CalD.mono (c__law_scene z) (by decide : _ ≤ 47)) (CalD.mono (c__law_ban_list z) (by decide : _ ≤ 47)) (CalD.mono (c__law_fails z) (by decide : _ ≤ 47)) (CalD.mono (c_is_ban_list z) (by decide : _ ≤ 47)) (CalD.mono (c__law_truth_agrees z) (by decide : _ ≤ 47)) (CalD.mono (c__law_all_lines z) (by decide : _ ≤ 47)) (CalD.mono (c__law_move z) (by decide : _ ≤ 47)) (CalD.mono (c_holds z) (by decide : _ ≤ 47)) (CalD.mono (c__law_is_truth z) (by decide : _ ≤ 47)) cdv A outer s H E hr) law_ok)
def d_is_atom_number : He.DefD := ⟨("is_atom_number", none), "is_atom_number", "is_atom_number", defArgs st_is_atom_number, defBody st_is_atom_number, defScope st_is_atom_number, [], []⟩
def d_is_atom : He.DefD := ⟨("is_atom", none), "is_atom", "is_atom", defArgs st_is_atom, defBody st_is_atom, defScope st_is_atom, [], []⟩
def d_is_line : He.DefD := ⟨("is_line", none), "is_line", "is_line", defArgs st_is_line, defBody st_is_line, defScope st_is_line, [], []⟩
def d_are_unlike_lines : He.DefD := ⟨("are_unlike_lines", none), "are_unlike_lines", "are_unlike_lines", defArgs st_are_unlike_lines, defBody st_are_unlike_lines, defScope st_are_unlike_lines, [], []⟩
def d_is_ban_list : He.DefD := ⟨("is_ban_list", none), "is_ban_list", "is_ban_list", defArgs st_is_ban_list, defBody st_is_ban_list, defScope st_is_ban_list, [], []⟩
def d_atom_banned : He.DefD := ⟨("atom_banned", none), "atom_banned", "atom_banned", defArgs st_atom_banned, defBody st_atom_banned, defScope st_atom_banned, [], []⟩
def d_over_banned : He.DefD := ⟨("over_banned", none), "over_banned", "over_banned", defArgs st_over_banned, defBody st_over_banned, defScope st_over_banned, [], []⟩
def d_under_banned : He.DefD := ⟨("under_banned", none), "under_banned", "under_banned", defArgs st_under_banned, defBody st_under_banned, defScope st_under_banned, [], []⟩
def d_is_allowed_row : He.DefD := ⟨("is_allowed_row", none), "is_allowed_row", "is_allowed_row", defArgs st_is_allowed_row, defBody st_is_allowed_row, defScope st_is_allowed_row, [], []⟩
def d_allowed_frames : He.DefD := ⟨("allowed_frames", none), "allowed_frames", "allowed_frames", defArgs st_allowed_frames, defBody st_allowed_frames, defScope st_allowed_frames, [], []⟩
def d_pair_banned : He.DefD := ⟨("pair_banned", none), "pair_banned", "pair_banned", defArgs st_pair_banned, defBody st_pair_banned, defScope st_pair_banned, [], []⟩
def d_kind_banned : He.DefD := ⟨("kind_banned", none), "kind_banned", "kind_banned", defArgs st_kind_banned, defBody st_kind_banned, defScope st_kind_banned, [], []⟩
def d_line_key : He.DefD := ⟨("line_key", none), "line_key", "line_key", defArgs st_line_key, defBody st_line_key, defScope st_line_key, [], []⟩
def d_banned_lines : He.DefD := ⟨("banned_lines", none), "banned_lines", "banned_lines", defArgs st_banned_lines, defBody st_banned_lines, defScope st_banned_lines, [], []⟩
def d_format_part : He.DefD := ⟨("format_part", none), "format_part", "format_part", defArgs st_format_part, defBody st_format_part, defScope st_format_part, [], []⟩
def d_format_kind : He.DefD := ⟨("format_kind", none), "format_kind", "format_kind", defArgs st_format_kind, defBody st_format_kind, defScope st_format_kind, [], []⟩
def d_pieces_of : He.DefD := ⟨("pieces_of", none), "pieces_of", "pieces_of", defArgs st_pieces_of, defBody st_pieces_of, defScope st_pieces_of, [], []⟩
def d_Truth___init__ : He.DefD := ⟨("Truth", some "__init__"), "__init__", "Truth.__init__", defArgs st_Truth___init__, defBody st_Truth___init__, defScope st_Truth___init__, [], []⟩
def d_Truth_banned_by : He.DefD := ⟨("Truth", some "banned_by"), "banned_by", "Truth.banned_by", defArgs st_Truth_banned_by, defBody st_Truth_banned_by, defScope st_Truth_banned_by, [], []⟩
def d_Truth_failing : He.DefD := ⟨("Truth", some "failing"), "failing", "Truth.failing", defArgs st_Truth_failing, defBody st_Truth_failing, defScope st_Truth_failing, [], []⟩
def d_failing_lines : He.DefD := ⟨("failing_lines", none), "failing_lines", "failing_lines", defArgs st_failing_lines, defBody st_failing_lines, defScope st_failing_lines, [], []⟩
def d_holds : He.DefD := ⟨("holds", none), "holds", "holds", defArgs st_holds, defBody st_holds, defScope st_holds, [], []⟩
def d__law_stir : He.DefD := ⟨("_law_stir", none), "_law_stir", "_law_stir", defArgs st__law_stir, defBody st__law_stir, defScope st__law_stir, [], []⟩
def d__law_source : He.DefD := ⟨("_law_source", none), "_law_source", "_law_source", defArgs st__law_source, defBody st__law_source, defScope st__law_source, [], []⟩
def d__law_take : He.DefD := ⟨("_law_take", none), "_law_take", "_law_take", defArgs st__law_take, defBody st__law_take, defScope st__law_take, [], []⟩
def d__law_atom : He.DefD := ⟨("_law_atom", none), "_law_atom", "_law_atom", defArgs st__law_atom, defBody st__law_atom, defScope st__law_atom, [], []⟩
def d__law_base : He.DefD := ⟨("_law_base", none), "_law_base", "_law_base", defArgs st__law_base, defBody st__law_base, defScope st__law_base, [], []⟩
def d__law_names : He.DefD := ⟨("_law_names", none), "_law_names", "_law_names", defArgs st__law_names, defBody st__law_names, defScope st__law_names, [], []⟩
def d__law_size : He.DefD := ⟨("_law_size", none), "_law_size", "_law_size", defArgs st__law_size, defBody st__law_size, defScope st__law_size, [], []⟩
def d__law_leaves : He.DefD := ⟨("_law_leaves", none), "_law_leaves", "_law_leaves", defArgs st__law_leaves, defBody st__law_leaves, defScope st__law_leaves, [], []⟩
def d__law_spots : He.DefD := ⟨("_law_spots", none), "_law_spots", "_law_spots", defArgs st__law_spots, defBody st__law_spots, defScope st__law_spots, [], []⟩
def d__law_bush : He.DefD := ⟨("_law_bush", none), "_law_bush", "_law_bush", defArgs st__law_bush, defBody st__law_bush, defScope st__law_bush, [], []⟩
def d__law_bushes : He.DefD := ⟨("_law_bushes", none), "_law_bushes", "_law_bushes", defArgs st__law_bushes, defBody st__law_bushes, defScope st__law_bushes, [], []⟩
def d__law_poured : He.DefD := ⟨("_law_poured", none), "_law_poured", "_law_poured", defArgs st__law_poured, defBody st__law_poured, defScope st__law_poured, [], []⟩
def d__law_refilled : He.DefD := ⟨("_law_refilled", none), "_law_refilled", "_law_refilled", defArgs st__law_refilled, defBody st__law_refilled, defScope st__law_refilled, [], []⟩
def d__law_below : He.DefD := ⟨("_law_below", none), "_law_below", "_law_below", defArgs st__law_below, defBody st__law_below, defScope st__law_below, [], []⟩
def d__law_axiom : He.DefD := ⟨("_law_axiom", none), "_law_axiom", "_law_axiom", defArgs st__law_axiom, defBody st__law_axiom, defScope st__law_axiom, [], []⟩
def d__law_step : He.DefD := ⟨("_law_step", none), "_law_step", "_law_step", defArgs st__law_step, defBody st__law_step, defScope st__law_step, [], []⟩
def d__law_grown : He.DefD := ⟨("_law_grown", none), "_law_grown", "_law_grown", defArgs st__law_grown, defBody st__law_grown, defScope st__law_grown, [], []⟩
def d__law_turned : He.DefD := ⟨("_law_turned", none), "_law_turned", "_law_turned", defArgs st__law_turned, defBody st__law_turned, defScope st__law_turned, [], []⟩
def d__law_is_whole : He.DefD := ⟨("_law_is_whole", none), "_law_is_whole", "_law_is_whole", defArgs st__law_is_whole, defBody st__law_is_whole, defScope st__law_is_whole, [], []⟩
def d__law_alike : He.DefD := ⟨("_law_alike", none), "_law_alike", "_law_alike", defArgs st__law_alike, defBody st__law_alike, defScope st__law_alike, [], []⟩
def d__law_pair_bans : He.DefD := ⟨("_law_pair_bans", none), "_law_pair_bans", "_law_pair_bans", defArgs st__law_pair_bans, defBody st__law_pair_bans, defScope st__law_pair_bans, [], []⟩
def d__law_kind_bans : He.DefD := ⟨("_law_kind_bans", none), "_law_kind_bans", "_law_kind_bans", defArgs st__law_kind_bans, defBody st__law_kind_bans, defScope st__law_kind_bans, [], []⟩
def d__law_ordered : He.DefD := ⟨("_law_ordered", none), "_law_ordered", "_law_ordered", defArgs st__law_ordered, defBody st__law_ordered, defScope st__law_ordered, [], []⟩
def d__law_cuttable : He.DefD := ⟨("_law_cuttable", none), "_law_cuttable", "_law_cuttable", defArgs st__law_cuttable, defBody st__law_cuttable, defScope st__law_cuttable, [], []⟩
def d__law_fails : He.DefD := ⟨("_law_fails", none), "_law_fails", "_law_fails", defArgs st__law_fails, defBody st__law_fails, defScope st__law_fails, [], []⟩
def d__law_shows : He.DefD := ⟨("_law_shows", none), "_law_shows", "_law_shows", defArgs st__law_shows, defBody st__law_shows, defScope st__law_shows, [], []⟩
def d__law_is_truth : He.DefD := ⟨("_law_is_truth", none), "_law_is_truth", "_law_is_truth", defArgs st__law_is_truth, defBody st__law_is_truth, defScope st__law_is_truth, [], []⟩
def d__law_move : He.DefD := ⟨("_law_move", none), "_law_move", "_law_move", defArgs st__law_move, defBody st__law_move, defScope st__law_move, [], []⟩
def d__law_ban_list : He.DefD := ⟨("_law_ban_list", none), "_law_ban_list", "_law_ban_list", defArgs st__law_ban_list, defBody st__law_ban_list, defScope st__law_ban_list, [], []⟩
def d__law_truth_agrees : He.DefD := ⟨("_law_truth_agrees", none), "_law_truth_agrees", "_law_truth_agrees", defArgs st__law_truth_agrees, defBody st__law_truth_agrees, defScope st__law_truth_agrees, [], []⟩
def d__law_scene : He.DefD := ⟨("_law_scene", none), "_law_scene", "_law_scene", defArgs st__law_scene, defBody st__law_scene, defScope st__law_scene, [], []⟩
def d__law_all_lines : He.DefD := ⟨("_law_all_lines", none), "_law_all_lines", "_law_all_lines", defArgs st__law_all_lines, defBody st__law_all_lines, defScope st__law_all_lines, [], []⟩
def d_law : He.DefD := ⟨("law", none), "law", "law", defArgs st_law, defBody st_law, defScope st_law, [], []⟩
def fn0 : List He.DefD := [d_is_atom_number, d_is_atom, d_is_line, d_are_unlike_lines, d_is_ban_list, d_atom_banned, d_over_banned, d_under_banned, d_is_allowed_row, d_allowed_frames, d_pair_banned, d_kind_banned, d_line_key, d_banned_lines, d_format_part, d_format_kind, d_pieces_of, d_Truth___init__, d_Truth_banned_by, d_Truth_failing, d_failing_lines, d_holds, d__law_stir, d__law_source, d__law_take, d__law_atom, d__law_base, d__law_names, d__law_size, d__law_leaves]
def fn1 : List He.DefD := [d__law_spots, d__law_bush, d__law_bushes, d__law_poured, d__law_refilled, d__law_below, d__law_axiom, d__law_step, d__law_grown, d__law_turned, d__law_is_whole, d__law_alike, d__law_pair_bans, d__law_kind_bans, d__law_ordered, d__law_cuttable, d__law_fails, d__law_shows, d__law_is_truth, d__law_move, d__law_ban_list, d__law_truth_agrees, d__law_scene, d__law_all_lines, d_law]
def fn : List He.DefD := fn0 ++ fn1
def fa0 : List He.Fa := [.glo "is_atom_number", .glo "is_atom", .glo "is_line", .glo "are_unlike_lines", .glo "is_ban_list", .glo "atom_banned", .glo "over_banned", .glo "under_banned", .glo "is_allowed_row", .glo "allowed_frames", .glo "pair_banned", .glo "kind_banned", .glo "line_key", .glo "banned_lines", .glo "format_part", .glo "format_kind", .glo "pieces_of", .glo "failing_lines", .glo "holds", .glo "_law_stir", .glo "_law_source", .glo "_law_take", .glo "_law_atom", .glo "_law_base", .glo "_law_names", .glo "_law_size", .glo "_law_leaves", .glo "_law_spots", .glo "_law_bush", .glo "_law_bushes"]
def fa1 : List He.Fa := [.glo "_law_poured", .glo "_law_refilled", .glo "_law_below", .glo "_law_axiom", .glo "_law_step", .glo "_law_grown", .glo "_law_turned", .glo "_law_is_whole", .glo "_law_alike", .glo "_law_pair_bans", .glo "_law_kind_bans", .glo "_law_ordered", .glo "_law_cuttable", .glo "_law_fails", .glo "_law_shows", .glo "_law_is_truth", .glo "_law_move", .glo "_law_ban_list", .glo "_law_truth_agrees", .glo "_law_scene", .glo "_law_all_lines", .glo "law", .glo "Truth", .free "abs", .free "all", .free "any", .free "bool", .free "int", .free "isinstance", .free "len"]
def fa2 : List He.Fa := [.free "list", .free "max", .free "min", .free "range", .free "reversed", .free "sorted", .free "str", .free "tuple", .str "LETTERS" "abcdefghijklmnopqrstuvwxyz", .str "DIGITS" "0123456789", .int "MOST_IN_NAME" 8, .int "MOST_IN_NUMBER" 6, .int "MOST_LINES" 100, .int "MOST_MARKS" 80, .int "LAST_MARK" 999999, .cls "Truth", .noat "Truth" "banned", .noat "Truth" "bans", .mkr "Truth", .meth "Truth" "banned_by", .meth "Truth" "failing"]
def fa : List He.Fa := fa0 ++ fa1 ++ fa2
def names0 : List PySem.Str := ["LETTERS", "DIGITS", "MOST_IN_NAME", "MOST_IN_NUMBER", "is_atom_number", "is_atom", "MOST_LINES", "MOST_MARKS", "LAST_MARK", "is_line", "are_unlike_lines", "is_ban_list", "atom_banned", "over_banned", "under_banned", "is_allowed_row", "allowed_frames", "pair_banned", "kind_banned", "line_key", "banned_lines", "format_part", "format_kind", "pieces_of", "Truth", "failing_lines", "holds", "_law_stir", "_law_source", "_law_take"]
def names1 : List PySem.Str := ["_law_atom", "_law_base", "_law_names", "_law_size", "_law_leaves", "_law_spots", "_law_bush", "_law_bushes", "_law_poured", "_law_refilled", "_law_below", "_law_axiom", "_law_step", "_law_grown", "_law_turned", "_law_is_whole", "_law_alike", "_law_pair_bans", "_law_kind_bans", "_law_ordered", "_law_cuttable", "_law_fails", "_law_shows", "_law_is_truth", "_law_move", "_law_ban_list", "_law_truth_agrees", "_law_scene", "_law_all_lines"]
def names : List PySem.Str := names0 ++ names1
abbrev Rw : PySem.W.OpenRow := PySem.W.OpenLaw.row PySem.Challenge.rw_fractionwords_k88_whole_moves_keep_holdi
abbrev qv : Program := PySem.W.view Rw.prog [64]
abbrev hk : PySem.W.Hook := hookN 4 fa fn
def ob (s : PySem.W.SharedT) : Bool × He.AlD := obsN 4 fa fn (HandSHeadRun.getT s)
theorem ob_eq (s : PySem.W.SharedT) : ob s = hk.obs s.abs := obsN_eq (HandSHeadRun.getT_eq s)
theorem run (w : World) : HandSHeadRun.RunEq Rw qv hk ob 3000 names w := by
  intro os
  kernel_rfl
theorem facts {K : PySem.W.Frag} {h : Heap} {mg : PySem.Str → Option Value} (X : K.In h) (G : h.Ns mainGlobals mg) (c : He.SaysD fa fn K) : Z K mg (He.ga K "Truth") where
    g := ⟨He.free_ok X G (c.fact 53 rfl), He.free_ok X G (c.fact 54 rfl), He.free_ok X G (c.fact 55 rfl), He.free_ok X G (c.fact 56 rfl), He.free_ok X G (c.fact 57 rfl), He.free_ok X G (c.fact 58 rfl), He.free_ok X G (c.fact 59 rfl), He.free_ok X G (c.fact 60 rfl), He.free_ok X G (c.fact 61 rfl), He.free_ok X G (c.fact 62 rfl), He.free_ok X G (c.fact 63 rfl), He.free_ok X G (c.fact 64 rfl), He.free_ok X G (c.fact 65 rfl), He.free_ok X G (c.fact 66 rfl), He.free_ok X G (c.fact 67 rfl), He.str_ok X G (c.fact 68 rfl), He.str_ok X G (c.fact 69 rfl), He.int_ok X G (c.fact 70 rfl), He.int_ok X G (c.fact 71 rfl), He.int_ok X G (c.fact 72 rfl), He.int_ok X G (c.fact 73 rfl), He.int_ok X G (c.fact 74 rfl), He.cls_ok (c.fact 75 rfl), He.noat_ok (c.fact 76 rfl), He.noat_ok (c.fact 77 rfl)⟩
    f_is_atom_number := let ⟨fd, F⟩ := c.def_ 0 (d := d_is_atom_number) rfl; ⟨_, fd, ⟨F, He.glo_ok X G (c.fact 0 rfl)⟩⟩
    f_is_atom := let ⟨fd, F⟩ := c.def_ 1 (d := d_is_atom) rfl; ⟨_, fd, ⟨F, He.glo_ok X G (c.fact 1 rfl)⟩⟩
    f_is_line := let ⟨fd, F⟩ := c.def_ 2 (d := d_is_line) rfl; ⟨_, fd, ⟨F, He.glo_ok X G (c.fact 2 rfl)⟩⟩
    f_are_unlike_lines := let ⟨fd, F⟩ := c.def_ 3 (d := d_are_unlike_lines) rfl; ⟨_, fd, ⟨F, He.glo_ok X G (c.fact 3 rfl)⟩⟩
    f_is_ban_list := let ⟨fd, F⟩ := c.def_ 4 (d := d_is_ban_list) rfl; ⟨_, fd, ⟨F, He.glo_ok X G (c.fact 4 rfl)⟩⟩
    f_atom_banned := let ⟨fd, F⟩ := c.def_ 5 (d := d_atom_banned) rfl; ⟨_, fd, ⟨F, He.glo_ok X G (c.fact 5 rfl)⟩⟩
    f_over_banned := let ⟨fd, F⟩ := c.def_ 6 (d := d_over_banned) rfl; ⟨_, fd, ⟨F, He.glo_ok X G (c.fact 6 rfl)⟩⟩
    f_under_banned := let ⟨fd, F⟩ := c.def_ 7 (d := d_under_banned) rfl; ⟨_, fd, ⟨F, He.glo_ok X G (c.fact 7 rfl)⟩⟩
    f_is_allowed_row := let ⟨fd, F⟩ := c.def_ 8 (d := d_is_allowed_row) rfl; ⟨_, fd, ⟨F, He.glo_ok X G (c.fact 8 rfl)⟩⟩
    f_allowed_frames := let ⟨fd, F⟩ := c.def_ 9 (d := d_allowed_frames) rfl; ⟨_, fd, ⟨F, He.glo_ok X G (c.fact 9 rfl)⟩⟩
    f_pair_banned := let ⟨fd, F⟩ := c.def_ 10 (d := d_pair_banned) rfl; ⟨_, fd, ⟨F, He.glo_ok X G (c.fact 10 rfl)⟩⟩
    f_kind_banned := let ⟨fd, F⟩ := c.def_ 11 (d := d_kind_banned) rfl; ⟨_, fd, ⟨F, He.glo_ok X G (c.fact 11 rfl)⟩⟩
    f_line_key := let ⟨fd, F⟩ := c.def_ 12 (d := d_line_key) rfl; ⟨_, fd, ⟨F, He.glo_ok X G (c.fact 12 rfl)⟩⟩
    f_banned_lines := let ⟨fd, F⟩ := c.def_ 13 (d := d_banned_lines) rfl; ⟨_, fd, ⟨F, He.glo_ok X G (c.fact 13 rfl)⟩⟩
    f_format_part := let ⟨fd, F⟩ := c.def_ 14 (d := d_format_part) rfl; ⟨_, fd, ⟨F, He.glo_ok X G (c.fact 14 rfl)⟩⟩
    f_format_kind := let ⟨fd, F⟩ := c.def_ 15 (d := d_format_kind) rfl; ⟨_, fd, ⟨F, He.glo_ok X G (c.fact 15 rfl)⟩⟩
    f_pieces_of := let ⟨fd, F⟩ := c.def_ 16 (d := d_pieces_of) rfl; ⟨_, fd, ⟨F, He.glo_ok X G (c.fact 16 rfl)⟩⟩
    f_Truth___init__ := let ⟨fd, F⟩ := c.def_ 17 (d := d_Truth___init__) rfl; ⟨_, fd, ⟨F, He.mkr_ok (c.fact 78 rfl), He.glo_ok X G (c.fact 52 rfl)⟩⟩
    f_Truth_banned_by := let ⟨fd, F⟩ := c.def_ 18 (d := d_Truth_banned_by) rfl; ⟨_, fd, ⟨F, He.meth_ok (c.fact 79 rfl)⟩⟩
    f_Truth_failing := let ⟨fd, F⟩ := c.def_ 19 (d := d_Truth_failing) rfl; ⟨_, fd, ⟨F, He.meth_ok (c.fact 80 rfl)⟩⟩
    f_failing_lines := let ⟨fd, F⟩ := c.def_ 20 (d := d_failing_lines) rfl; ⟨_, fd, ⟨F, He.glo_ok X G (c.fact 17 rfl)⟩⟩
    f_holds := let ⟨fd, F⟩ := c.def_ 21 (d := d_holds) rfl; ⟨_, fd, ⟨F, He.glo_ok X G (c.fact 18 rfl)⟩⟩
    f__law_stir := let ⟨fd, F⟩ := c.def_ 22 (d := d__law_stir) rfl; ⟨_, fd, ⟨F, He.glo_ok X G (c.fact 19 rfl)⟩⟩
    f__law_source := let ⟨fd, F⟩ := c.def_ 23 (d := d__law_source) rfl; ⟨_, fd, ⟨F, He.glo_ok X G (c.fact 20 rfl)⟩⟩
    f__law_take := let ⟨fd, F⟩ := c.def_ 24 (d := d__law_take) rfl; ⟨_, fd, ⟨F, He.glo_ok X G (c.fact 21 rfl)⟩⟩
    f__law_atom := let ⟨fd, F⟩ := c.def_ 25 (d := d__law_atom) rfl; ⟨_, fd, ⟨F, He.glo_ok X G (c.fact 22 rfl)⟩⟩
    f__law_base := let ⟨fd, F⟩ := c.def_ 26 (d := d__law_base) rfl; ⟨_, fd, ⟨F, He.glo_ok X G (c.fact 23 rfl)⟩⟩
    f__law_names := let ⟨fd, F⟩ := c.def_ 27 (d := d__law_names) rfl; ⟨_, fd, ⟨F, He.glo_ok X G (c.fact 24 rfl)⟩⟩
    f__law_size := let ⟨fd, F⟩ := c.def_ 28 (d := d__law_size) rfl; ⟨_, fd, ⟨F, He.glo_ok X G (c.fact 25 rfl)⟩⟩
    f__law_leaves := let ⟨fd, F⟩ := c.def_ 29 (d := d__law_leaves) rfl; ⟨_, fd, ⟨F, He.glo_ok X G (c.fact 26 rfl)⟩⟩
    f__law_spots := let ⟨fd, F⟩ := c.def_ 30 (d := d__law_spots) rfl; ⟨_, fd, ⟨F, He.glo_ok X G (c.fact 27 rfl)⟩⟩
    f__law_bush := let ⟨fd, F⟩ := c.def_ 31 (d := d__law_bush) rfl; ⟨_, fd, ⟨F, He.glo_ok X G (c.fact 28 rfl)⟩⟩
    f__law_bushes := let ⟨fd, F⟩ := c.def_ 32 (d := d__law_bushes) rfl; ⟨_, fd, ⟨F, He.glo_ok X G (c.fact 29 rfl)⟩⟩
    f__law_poured := let ⟨fd, F⟩ := c.def_ 33 (d := d__law_poured) rfl; ⟨_, fd, ⟨F, He.glo_ok X G (c.fact 30 rfl)⟩⟩
    f__law_refilled := let ⟨fd, F⟩ := c.def_ 34 (d := d__law_refilled) rfl; ⟨_, fd, ⟨F, He.glo_ok X G (c.fact 31 rfl)⟩⟩
    f__law_below := let ⟨fd, F⟩ := c.def_ 35 (d := d__law_below) rfl; ⟨_, fd, ⟨F, He.glo_ok X G (c.fact 32 rfl)⟩⟩
    f__law_axiom := let ⟨fd, F⟩ := c.def_ 36 (d := d__law_axiom) rfl; ⟨_, fd, ⟨F, He.glo_ok X G (c.fact 33 rfl)⟩⟩
    f__law_step := let ⟨fd, F⟩ := c.def_ 37 (d := d__law_step) rfl; ⟨_, fd, ⟨F, He.glo_ok X G (c.fact 34 rfl)⟩⟩
    f__law_grown := let ⟨fd, F⟩ := c.def_ 38 (d := d__law_grown) rfl; ⟨_, fd, ⟨F, He.glo_ok X G (c.fact 35 rfl)⟩⟩
    f__law_turned := let ⟨fd, F⟩ := c.def_ 39 (d := d__law_turned) rfl; ⟨_, fd, ⟨F, He.glo_ok X G (c.fact 36 rfl)⟩⟩
    f__law_is_whole := let ⟨fd, F⟩ := c.def_ 40 (d := d__law_is_whole) rfl; ⟨_, fd, ⟨F, He.glo_ok X G (c.fact 37 rfl)⟩⟩
    f__law_alike := let ⟨fd, F⟩ := c.def_ 41 (d := d__law_alike) rfl; ⟨_, fd, ⟨F, He.glo_ok X G (c.fact 38 rfl)⟩⟩
    f__law_pair_bans := let ⟨fd, F⟩ := c.def_ 42 (d := d__law_pair_bans) rfl; ⟨_, fd, ⟨F, He.glo_ok X G (c.fact 39 rfl)⟩⟩
    f__law_kind_bans := let ⟨fd, F⟩ := c.def_ 43 (d := d__law_kind_bans) rfl; ⟨_, fd, ⟨F, He.glo_ok X G (c.fact 40 rfl)⟩⟩
    f__law_ordered := let ⟨fd, F⟩ := c.def_ 44 (d := d__law_ordered) rfl; ⟨_, fd, ⟨F, He.glo_ok X G (c.fact 41 rfl)⟩⟩
    f__law_cuttable := let ⟨fd, F⟩ := c.def_ 45 (d := d__law_cuttable) rfl; ⟨_, fd, ⟨F, He.glo_ok X G (c.fact 42 rfl)⟩⟩
    f__law_fails := let ⟨fd, F⟩ := c.def_ 46 (d := d__law_fails) rfl; ⟨_, fd, ⟨F, He.glo_ok X G (c.fact 43 rfl)⟩⟩
    f__law_shows := let ⟨fd, F⟩ := c.def_ 47 (d := d__law_shows) rfl; ⟨_, fd, ⟨F, He.glo_ok X G (c.fact 44 rfl)⟩⟩
    f__law_is_truth := let ⟨fd, F⟩ := c.def_ 48 (d := d__law_is_truth) rfl; ⟨_, fd, ⟨F, He.glo_ok X G (c.fact 45 rfl)⟩⟩
    f__law_move := let ⟨fd, F⟩ := c.def_ 49 (d := d__law_move) rfl; ⟨_, fd, ⟨F, He.glo_ok X G (c.fact 46 rfl)⟩⟩
    f__law_ban_list := let ⟨fd, F⟩ := c.def_ 50 (d := d__law_ban_list) rfl; ⟨_, fd, ⟨F, He.glo_ok X G (c.fact 47 rfl)⟩⟩
    f__law_truth_agrees := let ⟨fd, F⟩ := c.def_ 51 (d := d__law_truth_agrees) rfl; ⟨_, fd, ⟨F, He.glo_ok X G (c.fact 48 rfl)⟩⟩
    f__law_scene := let ⟨fd, F⟩ := c.def_ 52 (d := d__law_scene) rfl; ⟨_, fd, ⟨F, He.glo_ok X G (c.fact 49 rfl)⟩⟩
    f__law_all_lines := let ⟨fd, F⟩ := c.def_ 53 (d := d__law_all_lines) rfl; ⟨_, fd, ⟨F, He.glo_ok X G (c.fact 50 rfl)⟩⟩
    f_law := let ⟨fd, F⟩ := c.def_ 54 (d := d_law) rfl; ⟨_, fd, ⟨F, He.glo_ok X G (c.fact 51 rfl)⟩⟩
end F83
open PySem PySem.W PySem.Calls PyProof.Rows
theorem PySem.Challenge.cw_fractionwords_k88_whole_moves_keep_holdi_holds : PySem.Challenge.rw_fractionwords_k88_whole_moves_keep_holdi.Holds := by
  w_on; o_law
  refine HandSHeadRun.head_any (r := OpenLaw.row PySem.Challenge.rw_fractionwords_k88_whole_moves_keep_holdi) (q := view (OpenLaw.row PySem.Challenge.rw_fractionwords_k88_whole_moves_keep_holdi).prog [64]) (H := F83.hk) (ob := F83.ob) (M := 3000) (loose := F83.names) (d := HandSHeadRun.topDef (OpenLaw.row PySem.Challenge.rw_fractionwords_k88_whole_moves_keep_holdi).prog 64) (kwd := []) F83.ob_eq
    (by kernel_rfl) (fun s => by kernel_rfl) F83.run (by kernel_rfl) (by kernel_rfl) (by kernel_rfl) (by rfl) (by first | assumption | decide +kernel) (by decide +kernel) ⟨rfl, rfl, rfl, rfl, rfl, by decide +kernel⟩ ?hw ?hc
  case hw => w_witness2
  case hc =>
    refine L2.walk_ofE (l := PySem.Challenge.rw_fractionwords_k88_whole_moves_keep_holdi) (n := 63) (k := 48) (x := "script") (CX := C8.CX0) rfl (by decide) (by kernel_rfl) ⟨rfl, by decide, by decide⟩ ?F (fun _ _ _ _ z => z)
    intro w mg fa h Y G hmg0
    obtain ⟨K, KX, ⟨nl, c⟩⟩ := Y
    have hmg : mg ("law" : PySem.Str) = some (.ref fa) := by
      have e : (HandSHeadRun.topDef (OpenLaw.row PySem.Challenge.rw_fractionwords_k88_whole_moves_keep_holdi).prog 64).name = ("law" : PySem.Str) := by kernel_rfl
      rw [← e]
      exact hmg0
    have z := F83.facts KX G c
    obtain ⟨fl, fd, F, hm⟩ := z.f_law
    have e2 := hmg.symm.trans hm
    injection e2 with e2
    injection e2 with e2
    subst e2
    have b := L2.FunD.bindsA (ps := ["script"]) F fun _ _ _ _ _ _ us hl => match us, hl with | [_], _ => rfl
    exact ⟨K, fd, Fw.lSp (PySem.Challenge.rw_fractionwords_k88_whole_moves_keep_holdi).prog w K Fw.sp_law, KX, fun s v => b s [v] rfl, fun H a ns hl hO hS => Fw.sp_script nl hO hS, fun base _ _ => F83.c_law z F⟩
