import PyProof.Rows.All
import Wide.All
import OpenK.AllK
import Wide.FinOn
import HandS.ForMost
import HandS.TupAny
import HandS.TupMul
import HandS.TupSets
import HandS.IsInst
import HandS.Conv
import HandS.Rev
import HandS.RevRange
import HandS.Wide
import HandS.SortInts
import HandS.SetKeys
import HandS.DictComp
import HandS.TupLen
import KE.KDictKeyed
import KE.KDictWalk
import KE.KDictDisplayH
import KE.GoesDict
import HandS.Zip
import KE.GoesEnum
import HandS.Style
import HandS.Words
import HandS.TupLe
import HandS.DictSub
import PyProof.FactsAll.subtypes_4
import HandS.ForDict
import HandS.EndBits
import PySem.Challenge.RW_layersheld_k48_whole_price_papers
set_option Elab.async false
set_option linter.all false
set_option maxRecDepth 100000
set_option maxHeartbeats 4000000
/-! # Plain data over the hand layer: values as trees, stores of lists and dicts that hold such trees -/
namespace DW
open PySem PySem.Spec PyProof.Rows L2

/-! ## 1. Data -/
inductive D where
  | non | bl (b : Bool) | int (i : Int) | str (s : Str) | tup (xs : List D) | ref (a : Addr) | ty (n : String)
mutual
def D.beq : D → D → Bool
  | .non, .non => true
  | .bl a, .bl b => decide (a = b)
  | .int a, .int b => decide (a = b)
  | .str a, .str b => decide (a = b)
  | .tup a, .tup b => D.beqs a b
  | .ref a, .ref b => decide (a = b)
  | .ty a, .ty b => decide (a = b)
  | _, _ => false
def D.beqs : List D → List D → Bool
  | [], [] => true
  | x :: xs, y :: ys => D.beq x y && D.beqs xs ys
  | _, _ => false
end
mutual
theorem D.beq_self : ∀ d : D, D.beq d d = true
  | .non => rfl
  | .bl _ => by simp [D.beq]
  | .int _ => by simp [D.beq]
  | .str _ => by simp [D.beq]
  | .tup xs => by simp [D.beq, D.beqs_self xs]
  | .ref _ => by simp [D.beq]
  | .ty _ => by simp [D.beq]
theorem D.beqs_self : ∀ ds : List D, D.beqs ds ds = true
  | [] => rfl
  | x :: xs => by simp [D.beqs, D.beq_self x, D.beqs_self xs]
end
mutual
theorem D.eq_of_beq : ∀ a b : D, D.beq a b = true → a = b
  | .non, b, h => by cases b <;> simp_all [D.beq]
  | .bl _, b, h => by cases b <;> simp_all [D.beq]
  | .int _, b, h => by cases b <;> simp_all [D.beq]
  | .str _, b, h => by cases b <;> simp_all [D.beq]
  | .ref _, b, h => by cases b <;> simp_all [D.beq]
  | .ty _, b, h => by cases b <;> simp_all [D.beq]
  | .tup xs, b, h => by
    cases b with
    | tup ys => rw [D.beq] at h; rw [D.eqs_of_beqs xs ys h]
    | _ => simp [D.beq] at h
theorem D.eqs_of_beqs : ∀ a b : List D, D.beqs a b = true → a = b
  | [], b, h => by cases b <;> simp_all [D.beqs]
  | x :: xs, b, h => by
    cases b with
    | nil => simp [D.beqs] at h
    | cons y ys =>
      simp only [D.beqs, Bool.and_eq_true] at h
      rw [D.eq_of_beq x y h.1, D.eqs_of_beqs xs ys h.2]
end
instance : DecidableEq D := fun a b => if h : D.beq a b = true then .isTrue (D.eq_of_beq a b h) else .isFalse fun e => h (e ▸ D.beq_self a)

/-- the program, the world, the written part -/
structure G where
  P : Program
  w : World
  K : PySem.W.Frag
abbrev gOf (X : Cx) : G := ⟨X.prog, X.w, X.K⟩
/-! a value stands for data: the tuples by what the heap holds -/
mutual
inductive Rep (K : G) (H : Hp) : D → V → Prop
  | non : Rep K H .non .non
  | bl (b : Bool) : Rep K H (.bl b) (.bl b)
  | int (i : Int) : Rep K H (.int i) (.int i)
  | str (x : Str) : Rep K H (.str x) (.str x)
  | tup {a : Addr} {vs : List V} {ds : List D} : H a = some (.tup vs) → Reps K H ds vs → Rep K H (.tup ds) (.ref a)
  | ref (a : Addr) : Rep K H (.ref a) (.ref a)
  | ty (n : String) : Rep K H (.ty n) (.ty n)
inductive Reps (K : G) (H : Hp) : List D → List V → Prop
  | nil : Reps K H [] []
  | cons {d : D} {v : V} {ds : List D} {vs : List V} : Rep K H d v → Reps K H ds vs → Reps K H (d :: ds) (v :: vs)
end
/-- the tuples stay -/
def Keep (K : G) (H H' : Hp) : Prop := ∀ a xs, H a = some (.tup xs) → H' a = some (.tup xs)
section
variable {K : G} {H H' H1 H2 : Hp}
theorem Keep.refl : Keep K H H := fun _ _ h => h
theorem Keep.trans (a : Keep K H H1) (b : Keep K H1 H2) : Keep K H H2 := fun c xs h => b c xs (a c xs h)
theorem Keep.new {p : Addr} {o : HO} (h : H p = none) : Keep K H (upd H p o) := fun a xs q => by rw [upd_ne (ne_of_none q h)]; exact q
theorem Keep.mut {p : Addr} {o : HO} (h : Mut (H p)) : Keep K H (upd H p o) := fun a xs q => by
  rw [upd_ne (by rintro rfl; rw [q] at h; exact h)]; exact q
theorem Keep.lst {p : Addr} {o : HO} {xs : List V} (h : H p = some (.lst xs)) : Keep K H (upd H p o) := Keep.mut (by rw [h]; trivial)
mutual
theorem Rep.keep (k : Keep K H H') : ∀ {d : D} {v : V}, Rep K H d v → Rep K H' d v
  | _, _, .non => .non
  | _, _, .bl b => .bl b
  | _, _, .int i => .int i
  | _, _, .str x => .str x
  | _, _, .tup h r => .tup (k _ _ h) (Reps.keep k r)
  | _, _, .ref a => .ref a
  | _, _, .ty n => .ty n
theorem Reps.keep (k : Keep K H H') : ∀ {ds : List D} {vs : List V}, Reps K H ds vs → Reps K H' ds vs
  | _, _, .nil => .nil
  | _, _, .cons r t => .cons (Rep.keep k r) (Reps.keep k t)
end
theorem Reps.length : ∀ {ds : List D} {vs : List V}, Reps K H ds vs → ds.length = vs.length
  | _, _, .nil => rfl
  | _, _, .cons _ t => by simp [Reps.length t]
theorem Reps.get : ∀ {ds : List D} {vs : List V} {i : Nat} {d : D}, Reps K H ds vs → ds[i]? = some d → ∃ v, vs[i]? = some v ∧ Rep K H d v
  | _, _, _, _, .nil, e => by simp at e
  | _, _, 0, _, .cons r _, e => by simp at e; subst e; exact ⟨_, rfl, r⟩
  | _, _, i + 1, d, .cons _ t, e => by
    obtain ⟨v, h1, h2⟩ := Reps.get (i := i) (d := d) t (by simpa using e)
    exact ⟨v, by simpa using h1, h2⟩
theorem Reps.getV : ∀ {ds : List D} {vs : List V} {i : Nat} {v : V}, Reps K H ds vs → vs[i]? = some v → ∃ d, ds[i]? = some d ∧ Rep K H d v
  | _, _, _, _, .nil, e => by simp at e
  | _, _, 0, _, .cons r _, e => by simp at e; subst e; exact ⟨_, rfl, r⟩
  | _, _, i + 1, v, .cons _ t, e => by
    obtain ⟨d, h1, h2⟩ := Reps.getV (i := i) (v := v) t (by simpa using e)
    exact ⟨d, by simpa using h1, h2⟩
theorem Reps.append : ∀ {ds es : List D} {vs ws : List V}, Reps K H ds vs → Reps K H es ws → Reps K H (ds ++ es) (vs ++ ws)
  | _, _, _, _, .nil, s => s
  | _, _, _, _, .cons r t, s => .cons r (Reps.append t s)
theorem Reps.take : ∀ {ds : List D} {vs : List V} (n : Nat), Reps K H ds vs → Reps K H (ds.take n) (vs.take n)
  | _, _, 0, _ => .nil
  | _, _, _ + 1, .nil => .nil
  | _, _, n + 1, .cons r t => .cons r (Reps.take n t)
theorem Reps.drop : ∀ {ds : List D} {vs : List V} (n : Nat), Reps K H ds vs → Reps K H (ds.drop n) (vs.drop n)
  | _, _, 0, r => r
  | _, _, _ + 1, .nil => .nil
  | _, _, n + 1, .cons _ t => Reps.drop n t
theorem Reps.set {d : D} {v : V} (r : Rep K H d v) : ∀ {ds : List D} {vs : List V} (i : Nat), Reps K H ds vs → Reps K H (ds.set i d) (vs.set i v)
  | _, _, _, .nil => .nil
  | _, _, 0, .cons _ t => .cons r t
  | _, _, i + 1, .cons q t => .cons q (Reps.set r i t)
theorem Reps.eraseIdx : ∀ {ds : List D} {vs : List V} (i : Nat), Reps K H ds vs → Reps K H (ds.eraseIdx i) (vs.eraseIdx i)
  | _, _, _, .nil => .nil
  | _, _, 0, .cons _ t => t
  | _, _, i + 1, .cons q t => .cons q (Reps.eraseIdx i t)
theorem Reps.dropLast : ∀ {ds : List D} {vs : List V}, Reps K H ds vs → Reps K H ds.dropLast vs.dropLast
  | _, _, .nil => .nil
  | _, _, .cons _ .nil => .nil
  | _, _, .cons q (.cons r t) => .cons q (Reps.dropLast (.cons r t))
theorem Reps.reverse {ds : List D} {vs : List V} (r : Reps K H ds vs) : Reps K H ds.reverse vs.reverse := by
  have : ∀ {ds es : List D} {vs ws : List V}, Reps K H ds vs → Reps K H es ws → Reps K H (ds.reverse ++ es) (vs.reverse ++ ws) := by
    intro ds es vs ws h
    induction ds generalizing vs es ws with
    | nil => cases h; exact fun z => z
    | cons d ds ih =>
      cases h with
      | cons r t =>
        intro z
        have q := ih t (.cons r z)
        simpa using q
  simpa using this r .nil
theorem Reps.flat (n : Nat) {ds : List D} {vs : List V} (r : Reps K H ds vs) : Reps K H (List.replicate n ds).flatten (List.replicate n vs).flatten := by
  induction n with
  | zero => exact .nil
  | succ n ih => rw [List.replicate_succ, List.replicate_succ, List.flatten_cons, List.flatten_cons]; exact r.append ih
theorem Reps.ints : ∀ {ns : List Int} {vs : List V}, Reps K H (ns.map .int) vs → vs = ns.map .int
  | [], _, h => by cases h; rfl
  | n :: ns, _, h => by
    cases h with
    | cons r t => cases r; rw [Reps.ints t]; rfl
theorem Reps.of_ints : ∀ (ns : List Int), Reps K H (ns.map .int) (ns.map .int)
  | [] => .nil
  | n :: ns => .cons (.int n) (Reps.of_ints ns)
theorem Reps.bls : ∀ {bs : List Bool} {vs : List V}, Reps K H (bs.map .bl) vs → vs = bs.map .bl
  | [], _, h => by cases h; rfl
  | n :: ns, _, h => by
    cases h with
    | cons r t => cases r; rw [Reps.bls t]; rfl
theorem Reps.strs : ∀ {bs : List Str} {vs : List V}, Reps K H (bs.map .str) vs → vs = bs.map .str
  | [], _, h => by cases h; rfl
  | n :: ns, _, h => by
    cases h with
    | cons r t => cases r; rw [Reps.strs t]; rfl
theorem Reps.of_strs : ∀ (ns : List Str), Reps K H (ns.map .str) (ns.map .str)
  | [] => .nil
  | n :: ns => .cons (.str n) (Reps.of_strs ns)
end

/-! ## 2. The store -/
inductive DO where
  | lst (ds : List D)
  | rls (ds : List D)
  | dic (kvs : List (D × D))
/-- a leaf key, a key of leaves -/
def kD : Key → D
  | .inl i => .int i
  | .inr x => .str x
inductive KV1 (K : G) (H : Hp) : List (D × D) → List (Key × V) → Prop
  | nil : KV1 K H [] []
  | cons {k : Key} {e : D} {v : V} {ds : List (D × D)} {vs : List (Key × V)} : Rep K H e v → KV1 K H ds vs → KV1 K H ((kD k, e) :: ds) ((k, v) :: vs)
mutual
/-- data as a key of a dict: no bools -/
def D.nk : D → Option NestedKey
  | .non => some .none
  | .int i => some (.num i)
  | .str x => some (.text x)
  | .tup xs => (D.nks xs).map .tup
  | _ => none
def D.nks : List D → Option (List NestedKey)
  | [] => some []
  | x :: xs => match D.nk x, D.nks xs with
    | some a, some b => some (a :: b)
    | _, _ => none
end
/-- the entries of a dict whose keys are tuples -/
inductive KV2 (K : G) (H : Hp) : List (D × D) → List (NestedKey × Addr × Value) → Prop
  | nil : KV2 K H [] []
  | cons {xs : List D} {k : NestedKey} {b : Addr} {e : D} {v : V} {u : Value} {ds : List (D × D)} {vs : List (NestedKey × Addr × Value)} :
      (D.tup xs).nk = some k → k.depth ≤ 8 → Rep K H (.tup xs) (.ref b) → Rep K H e v → RelV v u → KV2 K H ds vs → KV2 K H ((.tup xs, e) :: ds) ((k, b, u) :: vs)
theorem KV1.keep {K : G} {H H' : Hp} (k : Keep K H H') : ∀ {ds : List (D × D)} {vs : List (Key × V)}, KV1 K H ds vs → KV1 K H' ds vs
  | _, _, .nil => .nil
  | _, _, .cons r t => .cons (r.keep k) (t.keep k)
theorem KV2.keep {K : G} {H H' : Hp} (k : Keep K H H') : ∀ {ds : List (D × D)} {vs : List (NestedKey × Addr × Value)}, KV2 K H ds vs → KV2 K H' ds vs
  | _, _, .nil => .nil
  | _, _, .cons a b c r q t => .cons a b (c.keep k) (r.keep k) q (t.keep k)
/-- at a stands a dict whose keys are tuples -/
def TD2 (K : G) (H : Hp) (a : Addr) (kvs : List (D × D)) : Prop :=
  ∃ (o : Obj) (es : Array DictEntry) (ep : Nat) (xs : List (NestedKey × Addr × Value)), H a = some (.ext fun h => h.get? a = some o) ∧ o.ExactDict ∧ o.data = .dict es ep ∧
    es.toList = xs.map (entryOfKey (nestedKind K.P K.w)) ∧ (xs.map (·.1)).Nodup ∧ (a == sysModules) = false ∧ xs.length ≤ sizeLine ∧ kvs ≠ [] ∧ KV2 K H kvs xs
theorem TD2.keep {K : G} {H H' : Hp} {a : Addr} {kvs : List (D × D)} (h : TD2 K H a kvs) (k : Keep K H H') (e : H' a = H a) : TD2 K H' a kvs := by
  obtain ⟨o, es, ep, xs, h1, h2, h3, h4, h5, h6, h7, h9, h8⟩ := h
  exact ⟨o, es, ep, xs, e.trans h1, h2, h3, h4, h5, h6, h7, h9, h8.keep k⟩
def ORel (K : G) (H : Hp) (a : Addr) : DO → Prop
  | .lst ds => ∃ vs, H a = some (.lst vs) ∧ Reps K H ds vs
  | .rls ds => ∃ vs, Rd H a (.lst vs) ∧ Reps K H ds vs
  | .dic kvs => (∃ ks, H a = some (.dK ks) ∧ KV1 K H kvs ks) ∨ TD2 K H a kvs
abbrev Sto := Addr → Option DO
def put (S : Sto) (a : Addr) (o : DO) : Sto := fun b => if b = a then some o else S b
def del (S : Sto) (a : Addr) : Sto := fun b => if b = a then none else S b
theorem put_same {S : Sto} {a : Addr} {o : DO} : put S a o a = some o := by unfold put; rw [if_pos rfl]
theorem put_ne {S : Sto} {a b : Addr} {o : DO} (h : b ≠ a) : put S a o b = S b := by unfold put; rw [if_neg h]
theorem put_put {S : Sto} {a : Addr} {o u : DO} : put (put S a o) a u = put S a u := by funext b; unfold put; split <;> rfl
theorem put_swap {S : Sto} {a b : Addr} {o u : DO} (h : a ≠ b) : put (put S a o) b u = put (put S b u) a o := by
  funext c; unfold put; by_cases h1 : c = b <;> by_cases h2 : c = a <;> simp_all
theorem put_eta {S : Sto} {a : Addr} {o : DO} (h : S a = some o) : put S a o = S := by
  funext b; unfold put; split
  · next e => rw [e, h]
  · rfl
theorem del_put {S : Sto} {a : Addr} {o : DO} (h : S a = none) : del (put S a o) a = S := by
  funext b; unfold del put; split
  · next e => rw [e, h]
  · rfl
theorem del_put_ne {S : Sto} {a b : Addr} {o : DO} (h : a ≠ b) : del (put S b o) a = put (del S a) b o := by
  funext c; unfold del put; by_cases h1 : c = b <;> by_cases h2 : c = a <;> simp_all
theorem del_none {S : Sto} {a : Addr} (h : S a = none) : del S a = S := by
  funext b; unfold del; split
  · next e => rw [e, h]
  · rfl
/-- at least so much -/
def Sub (S S' : Sto) : Prop := ∀ a o, S a = some o → S' a = some o
theorem Sub.refl {S : Sto} : Sub S S := fun _ _ h => h
theorem Sub.trans {S S1 S2 : Sto} (a : Sub S S1) (b : Sub S1 S2) : Sub S S2 := fun c o h => b c o (a c o h)
theorem Sub.new {S : Sto} {p : Addr} {o : DO} (h : S p = none) : Sub S (put S p o) := fun a u e => by
  rw [put_ne (by rintro rfl; rw [h] at e; cases e)]; exact e
theorem Sub.put {S S' : Sto} {p : Addr} {o : DO} (h : Sub S S') : Sub (DW.put S p o) (DW.put S' p o) := fun a u e => by
  by_cases q : a = p
  · subst q; rw [put_same] at e ⊢; exact e
  · rw [put_ne q] at e ⊢; exact h a u e
theorem Sub.del {S : Sto} {p : Addr} : Sub (DW.del S p) S := fun a u e => by
  unfold DW.del at e; split at e
  · cases e
  · exact e
theorem Sub.free {S S' : Sto} (h : Sub S S') {p : Addr} (e : S' p = none) : S p = none := by
  cases q : S p with
  | none => rfl
  | some o => rw [h p o q] at e; cases e

def SRel (K : G) (S : Sto) (H : Hp) : Prop := ∀ a o, S a = some o → ORel K H a o
section
variable {K : G} {S S' : Sto} {H H' : Hp} {a p : Addr} {o : DO} {ho : HO}
theorem ORel.ofLst {vs : List V} {ds : List D} (e : H a = some (.lst vs)) (r : Reps K H ds vs) : ORel K H a (.lst ds) := ⟨vs, e, r⟩
theorem ORel.there (h : ORel K H a o) : ∃ u, H a = some u := by
  cases o with
  | lst ds => obtain ⟨vs, e, _⟩ := h; exact ⟨_, e⟩
  | rls ds =>
    obtain ⟨vs, e | ⟨u, e⟩, _⟩ := h
    · exact ⟨_, e⟩
    · exact ⟨_, e⟩
  | dic kvs =>
    rcases h with ⟨ks, e, _⟩ | ⟨o, es, ep, xs, e, _⟩
    · exact ⟨_, e⟩
    · exact ⟨_, e⟩
theorem ORel.keep (h : ORel K H a o) (k : Keep K H H') (e : H' a = H a) : ORel K H' a o := by
  cases o with
  | lst ds => obtain ⟨vs, q, r⟩ := h; exact ⟨vs, e.trans q, r.keep k⟩
  | rls ds =>
    obtain ⟨vs, q | ⟨u, q⟩, r⟩ := h
    · exact ⟨vs, .inl (e.trans q), r.keep k⟩
    · exact ⟨vs, .inr ⟨u, e.trans q⟩, r.keep k⟩
  | dic kvs =>
    rcases h with ⟨ks, q, r⟩ | h
    · exact .inl ⟨ks, e.trans q, r.keep k⟩
    · exact .inr (h.keep k e)
theorem SRel.free (R : SRel K S H) (h : H p = none) : S p = none := by
  cases q : S p with
  | none => rfl
  | some o => obtain ⟨u, e⟩ := (R p o q).there; rw [h] at e; cases e
theorem SRel.sub (R : SRel K S' H) (h : Sub S S') : SRel K S H := fun a o e => R a o (h a o e)
/-- an object that the store does not name -/
theorem SRel.new (R : SRel K S H) (h : H p = none) : SRel K S (upd H p ho) := fun a o e =>
  (R a o e).keep (Keep.new h) (upd_ne (by rintro rfl; rw [R.free h] at e; cases e))
theorem SRel.put (R : SRel K S H) (k : Keep K H (upd H p ho)) (new : ORel K (upd H p ho) p o) : SRel K (put S p o) (upd H p ho) := fun a u e => by
  by_cases q : a = p
  · subst q; rw [put_same] at e; cases e; exact new
  · rw [put_ne q] at e; exact (R a u e).keep k (upd_ne q)
theorem SRel.putNew (R : SRel K S H) (h : H p = none) (new : ORel K (upd H p ho) p o) : SRel K (DW.put S p o) (upd H p ho) := R.put (Keep.new h) new
end

/-! ## 3. What a place of the program asks, over data -/
abbrev REnv := List (Option D)
def ERel (K : G) (H : Hp) (ρ : REnv) (σ : L2.St) : Prop := ρ.length = σ.length ∧ ∀ (i : Nat) d, ρ[i]? = some (some d) → ∃ v, σ[i]? = some (some v) ∧ Rep K H d v
abbrev DQ := D → Sto → Prop
abbrev DE := REnv → Sto → DQ → Prop
abbrev DT := REnv → Sto → (Bool → Sto → Prop) → Prop
abbrev DA := REnv → Sto → (List D → Sto → Prop) → Prop
abbrev DOp := D → D → Sto → DQ → Prop
abbrev DC := List D → Sto → DQ → Prop
def upE (K : G) (t : DE) : TE := fun σ H Q => ∃ ρ S Q', ERel K H ρ σ ∧ SRel K S H ∧ t ρ S Q' ∧ ∀ v d H' S', Keep K H H' → SRel K S' H' → Rep K H' d v → Q' d S' → Q v H'
def upT (K : G) (t : DT) : TT := fun σ H Q => ∃ ρ S Q', ERel K H ρ σ ∧ SRel K S H ∧ t ρ S Q' ∧ ∀ b H' S', Keep K H H' → SRel K S' H' → Q' b S' → Q b H'
def upA (K : G) (t : DA) : TA := fun σ H Q => ∃ ρ S Q', ERel K H ρ σ ∧ SRel K S H ∧ t ρ S Q' ∧ ∀ vs ds H' S', Keep K H H' → SRel K S' H' → Reps K H' ds vs → Q' ds S' → Q vs H'
def upO (K : G) (r : DOp) : R2 := fun x y H Q => ∃ dx dy S Q', SRel K S H ∧ Rep K H dx x ∧ Rep K H dy y ∧ r dx dy S Q' ∧ ∀ v d H' S', Keep K H H' → SRel K S' H' → Rep K H' d v → Q' d S' → Q v H'
def upC (K : G) (r : DC) : List V → Hp → VK → Prop := fun xs H Q => ∃ ds S Q', SRel K S H ∧ Reps K H ds xs ∧ r ds S Q' ∧ ∀ v d H' S', Keep K H H' → SRel K S' H' → Rep K H' d v → Q' d S' → Q v H'
abbrev ED (X : Cx) (e : Expr) (t : DE) : Prop := PE X e (upE (gOf X) t)
abbrev TD (X : Cx) (e : Expr) (t : DT) : Prop := PT X e (upT (gOf X) t)
abbrev WD (X : Cx) (e : Expr) (t : DT) : Prop := PW X e (upT (gOf X) t)
abbrev AD (X : Cx) (es : List Expr) (t : DA) : Prop := PA X es (upA (gOf X) t)
section
variable {X : Cx} {e a b c : Expr} {pos p : Pos}
theorem PE.imp {t t' : TE} (h : PE X e t) (i : ∀ σ H Q, t' σ H Q → t σ H Q) : PE X e t' := ⟨fun pins s σ H Q I q => h.run pins s σ H Q I (i _ _ _ q)⟩
theorem PT.imp {t t' : TT} (h : PT X e t) (i : ∀ σ H Q, t' σ H Q → t σ H Q) : PT X e t' := ⟨fun pins s σ H Q I q => h.run pins s σ H Q I (i _ _ _ q)⟩
theorem PW.imp {t t' : TT} (h : PW X e t) (i : ∀ σ H Q, t' σ H Q → t σ H Q) : PW X e t' := ⟨fun wh pins s σ H Q I q => h.run wh pins s σ H Q I (i _ _ _ q)⟩
theorem PA.imp {es : List Expr} {t t' : TA} (h : PA X es t) (i : ∀ σ H Q, t' σ H Q → t σ H Q) : PA X es t' := ⟨fun pos pins s σ H Q I q => h.run pos pins s σ H Q I (i _ _ _ q)⟩
theorem PS.imp {st : Stmt} {t t' : TS} (h : PS X st t) (i : ∀ σ H Q, t' Q σ H → t Q σ H) : PS X st t' := ⟨fun pins s σ H Q I q => h.run pins s σ H Q I (i _ _ _ q)⟩
theorem PSs.imp {st : List Stmt} {t t' : TS} (h : PSs X st t) (i : ∀ σ H Q, t' Q σ H → t Q σ H) : PSs X st t' := ⟨fun pins s σ H Q I q => h.run pins s σ H Q I (i _ _ _ q)⟩
theorem ERel.keep {K : G} {H H' : Hp} {ρ : REnv} {σ : L2.St} (h : ERel K H ρ σ) (k : Keep K H H') : ERel K H' ρ σ := ⟨h.1, fun i d e => let ⟨v, q, r⟩ := h.2 i d e; ⟨v, q, r.keep k⟩⟩
theorem ERel.set {K : G} {H : Hp} {ρ : REnv} {σ : L2.St} (h : ERel K H ρ σ) {i : Nat} {d : D} {v : V} (r : Rep K H d v) : ERel K H (ρ.set i (some d)) (σ.set i (some v)) := by
  refine ⟨by simpa using h.1, fun j e q => ?_⟩
  by_cases hj : j = i
  · subst hj
    by_cases hl : j < ρ.length
    · rw [List.getElem?_set_self hl] at q; cases q
      exact ⟨v, List.getElem?_set_self (by rw [← h.1]; exact hl), r⟩
    · rw [List.getElem?_eq_none (by simpa using hl)] at q; cases q
  · rw [List.getElem?_set_ne (Ne.symm hj)] at q ⊢
    exact h.2 j e q
/-- a slot forgotten -/
theorem ERel.forget {K : G} {H : Hp} {ρ : REnv} {σ : L2.St} (h : ERel K H ρ σ) {i : Nat} : ERel K H (ρ.set i none) (σ.set i none) := by
  refine ⟨by simpa using h.1, fun j e q => ?_⟩
  by_cases hj : j = i
  · subst hj
    by_cases hl : j < ρ.length
    · rw [List.getElem?_set_self hl] at q; cases q
    · rw [List.getElem?_eq_none (by simpa using hl)] at q; cases q
  · rw [List.getElem?_set_ne (Ne.symm hj)] at q ⊢
    exact h.2 j e q
end
end DW
namespace DW
open PySem PySem.Spec PyProof.Rows L2

/-! ## 4. Names, constants, operators -/
def dVar (i : Nat) : DE := fun ρ S Q => ∃ d, ρ[i]? = some (some d) ∧ Q d S
def dC (d : D) : DE := fun _ S Q => Q d S
def dOp (r : DOp) (ta tb : DE) : DE := fun ρ S Q => ta ρ S fun x S1 => tb ρ S1 fun y S2 => r x y S2 Q
def dChain (r r' : DOp) (ta tb tc : DE) : DE := fun ρ S Q => ta ρ S fun x S1 => tb ρ S1 fun y S2 => r x y S2 fun z S3 => ∃ k, z = .bl k ∧ (if k = true then tc ρ S3 fun w S4 => r' y w S4 Q else Q (.bl false) S3)
def dUn (r : D → Sto → DQ → Prop) (ta : DE) : DE := fun ρ S Q => ta ρ S fun x S1 => r x S1 Q
def dB (t : DE) : DT := fun ρ S Q => t ρ S fun x S1 => ∃ c, x = .bl c ∧ Q c S1
def dAndV (ta tb : DE) : DE := fun ρ S Q => ta ρ S fun x S1 => ∃ c, x = .bl c ∧ if c = true then tb ρ S1 Q else Q (.bl false) S1
def dOrV (ta tb : DE) : DE := fun ρ S Q => ta ρ S fun x S1 => ∃ c, x = .bl c ∧ if c = true then Q (.bl true) S1 else tb ρ S1 Q
def dNotV (ta : DE) : DE := fun ρ S Q => ta ρ S fun x S1 => ∃ c, x = .bl c ∧ Q (.bl (!c)) S1
def dIf (c : DT) (ta tb : DE) : DE := fun ρ S Q => c ρ S fun b S1 => if b = true then ta ρ S1 Q else tb ρ S1 Q
def dAnd (t u : DT) : DT := fun ρ S Q => t ρ S fun c S1 => if c = true then u ρ S1 Q else Q false S1
def dOr (t u : DT) : DT := fun ρ S Q => t ρ S fun c S1 => if c = true then Q true S1 else u ρ S1 Q
def dNot (t : DT) : DT := fun ρ S Q => t ρ S fun c S1 => Q (!c) S1
def dNil : DA := fun _ S Q => Q [] S
def dCons (ta : DE) (t : DA) : DA := fun ρ S Q => ta ρ S fun x S1 => t ρ S1 fun xs S2 => Q (x :: xs) S2
def dTup (t : DA) : DE := fun ρ S Q => t ρ S fun xs S1 => xs.length ≤ sizeLine ∧ Q (.tup xs) S1
def dLst (t : DA) : DE := fun ρ S Q => t ρ S fun xs S1 => xs.length ≤ sizeLine ∧ ∀ p, S1 p = none → Q (.ref p) (put S1 p (.lst xs))
def dCall (r : DC) (t : DA) : DE := fun ρ S Q => t ρ S fun xs S1 => r xs S1 Q
section
variable {X : Cx} {e a b c : Expr} {pos p : Pos} {ta tb tc : DE}
theorem ed_var (i : Nat) {x : Str} (hN : X.N[i]? = some x := by rfl) (hv : Vis X.env.scope x := by first | exact Or.inl rfl | exact Or.inr (Or.inl rfl) | exact Or.inr (Or.inr rfl)) (hd : (x == ("__debug__" : Str)) = false := by decide)
    (hcd : (x == ("__classdict__" : Str)) = false := by decide) : ED X (.Name x pos) (dVar i) := PE.imp (pe_var hN hv hd hcd) fun σ H Q ⟨ρ, S, Q', hE, hS, ⟨d, e, q⟩, k⟩ => by
  obtain ⟨v, ev, r⟩ := hE.2 i d e
  exact ⟨v, ev, k v d H S Keep.refl hS r q⟩
theorem ed_const {e : Expr} {v : V} {d : D} (h : PE X e (tC v)) (r : ∀ H, Rep (gOf X) H d v) : ED X e (dC d) := PE.imp h fun _ H _ ⟨_, S, _, _, hS, q, k⟩ => k v d H S Keep.refl hS (r H) q
theorem ed_int {i j} : ED X (.Constant (.int i) j pos) (dC (.int i)) := ed_const pe_int fun _ => .int i
theorem ed_bl {x j} : ED X (.Constant (.bool x) j pos) (dC (.bl x)) := ed_const pe_bl fun _ => .bl x
theorem ed_non {j} : ED X (.Constant .none j pos) (dC .non) := ed_const pe_non fun _ => .non
theorem ed_str {x j} : ED X (.Constant (.str x) j pos) (dC (.str x)) := ed_const pe_str fun _ => .str x
/-- a module's int -/
theorem ed_globI {x : Str} {i : Int} (hg : Gl X x) (hm : ∃ t, X.mg x = some (.int i t)) (hd : (x == ("__debug__" : Str)) = false := by decide) : ED X (.Name x pos) (dC (.int i)) := by
  obtain ⟨t, h⟩ := hm
  exact ed_const (v := .int i) (pe_glob hg h ⟨t, rfl⟩ hd) fun _ => .int i
/-- a built-in class as a value -/
theorem ed_ty {x : Str} {n : String} (hg : Gl X x) (hm : X.mg x = none) (hv : bootBuiltins x = some (.type n)) (hn : x ≠ "__name__" := by decide) (hd : (x == ("__debug__" : Str)) = false := by decide) : ED X (.Name x pos) (dC (.ty n)) :=
  ed_const (v := .ty n) (pe_bltn hg hm hv rfl hn hd) fun _ => .ty n

/-- two in a row -/
theorem upE.two {K : G} {σ : L2.St} {H : Hp} {ρ : REnv} {S : Sto} {R : V → V → Hp → Prop} {Q' : D → D → Sto → Prop} (hE : ERel K H ρ σ) (hS : SRel K S H) (h : ta ρ S fun x S1 => tb ρ S1 fun y S2 => Q' x y S2)
    (k : ∀ x y dx dy H2 S2, Keep K H H2 → SRel K S2 H2 → Rep K H2 dx x → Rep K H2 dy y → Q' dx dy S2 → R x y H2) : upE K ta σ H fun x H1 => upE K tb σ H1 fun y H2 => R x y H2 :=
  ⟨ρ, S, _, hE, hS, h, fun x dx H1 S1 k1 s1 r1 q1 => ⟨ρ, S1, _, hE.keep k1, s1, q1, fun y dy H2 S2 k2 s2 r2 q2 => k x y dx dy H2 S2 (k1.trans k2) s2 (r1.keep k2) r2 q2⟩⟩
theorem ed_op {op : Operator} {r : DOp} (ho : OpR X (binaryOp op) (upO (gOf X) r)) (ha : ED X a ta) (hb : ED X b tb) : ED X (.BinOp a op b pos) (dOp r ta tb) :=
  PE.imp (pe_op ho ha hb) fun σ H Q ⟨ρ, S, Q', hE, hS, h, k⟩ => upE.two hE hS h fun x y dx dy H2 S2 k2 s2 r1 r2 q2 => ⟨dx, dy, S2, Q', s2, r1, r2, q2, fun v d H' S' k' => k v d H' S' (k2.trans k')⟩
theorem ed_cmp {op : CmpOp} {r : DOp} (ho : OpR X (compareOp op) (upO (gOf X) r)) (ha : ED X a ta) (hb : ED X b tb) (hm : behindInMarks op b = false) : ED X (.Compare a [op] [b] pos) (dOp r ta tb) :=
  PE.imp (pe_cmpR ho ha hb hm) fun σ H Q ⟨ρ, S, Q', hE, hS, h, k⟩ => upE.two hE hS h fun x y dx dy H2 S2 k2 s2 r1 r2 q2 => ⟨dx, dy, S2, Q', s2, r1, r2, q2, fun v d H' S' k' => k v d H' S' (k2.trans k')⟩
theorem td_cmp {op : CmpOp} {r : DOp} (ho : OpR X (compareOp op) (upO (gOf X) r)) (ha : ED X a ta) (hb : ED X b tb) (hm : behindInMarks op b = false) : TD X (.Compare a [op] [b] pos) (dB (dOp r ta tb)) :=
  PT.imp (pt_cmpR ho ha hb hm) fun σ H Q ⟨ρ, S, Q', hE, hS, h, k⟩ => upE.two hE hS h fun x y dx dy H2 S2 k2 s2 r1 r2 q2 => ⟨dx, dy, S2, _, s2, r1, r2, q2, fun v d H' S' k' s' r' ⟨c, e, q⟩ => by
    subst e; cases r'; exact ⟨c, rfl, k c H' S' (k2.trans k') s' q⟩⟩
theorem ed_un {op : UnaryOp} {r : D → Sto → DQ → Prop} (ho : UnR X (unaryOp op) fun x H Q => ∃ dx S Q', SRel (gOf X) S H ∧ Rep (gOf X) H dx x ∧ r dx S Q' ∧ ∀ v d H' S', Keep (gOf X) H H' → SRel (gOf X) S' H' → Rep (gOf X) H' d v → Q' d S' → Q v H')
    (ha : ED X a ta) : ED X (.UnaryOp op a pos) (dUn r ta) :=
  PE.imp (pe_un ho ha) fun σ H Q ⟨ρ, S, Q', hE, hS, h, k⟩ => ⟨ρ, S, _, hE, hS, h, fun x dx H1 S1 k1 s1 r1 q1 => ⟨dx, S1, Q', s1, r1, q1, fun v d H' S' k' => k v d H' S' (k1.trans k')⟩⟩
theorem chain_up {K : G} {r r' : DOp} {σ : L2.St} {H : Hp} {ρ : REnv} {S : Sto} {Q : VK} {Q' : DQ} (hE : ERel K H ρ σ) (hS : SRel K S H) (h : dChain r r' ta tb tc ρ S Q') (k : ∀ v d H' S', Keep K H H' → SRel K S' H' → Rep K H' d v → Q' d S' → Q v H') :
    tChain (upO K r) (upO K r') (upE K ta) (upE K tb) (upE K tc) σ H Q :=
  upE.two hE hS h fun x y dx dy H2 S2 k2 s2 r1 r2 q2 => ⟨dx, dy, S2, _, s2, r1, r2, q2, fun z dz H3 S3 k3 s3 r3 ⟨c, e, q⟩ => by
    subst e
    cases r3
    refine ⟨c, rfl, ?_⟩
    cases c with
    | true =>
      rw [if_pos rfl] at q ⊢
      exact ⟨ρ, S3, _, hE.keep (k2.trans k3), s3, q, fun w' dw H4 S4 k4 s4 r4 q4 => ⟨dy, dw, S4, Q', s4, (r2.keep k3).keep k4, r4, q4, fun v d H' S' k' => k v d H' S' (((k2.trans k3).trans k4).trans k')⟩⟩
    | false =>
      rw [if_neg Bool.false_ne_true] at q ⊢
      exact k _ _ H3 S3 (k2.trans k3) s3 (.bl false) q⟩
theorem ed_chain {op op' : CmpOp} {r r' : DOp} (ho : OpR X (compareOp op) (upO (gOf X) r)) (ho' : OpR X (compareOp op') (upO (gOf X) r')) (ha : ED X a ta) (hb : ED X b tb) (hc : ED X c tc)
    (hm : lastMarks [op, op'] [b, c] = false := by with_unfolding_all rfl) : ED X (.Compare a [op, op'] [b, c] pos) (dChain r r' ta tb tc) :=
  PE.imp (pe_chain ho ho' ha hb hc hm) fun σ H Q ⟨ρ, S, Q', hE, hS, h, k⟩ => chain_up hE hS h k
theorem td_val {e : Expr} {t : DE} (h : ED X e t) (he : ∀ whole, isTrue e X.env whole = (do let v ← whole; standAt e.pos; holding [v] (truthy v)) := by intro _; rfl) : TD X e (dB t) :=
  PT.imp (pt_val h he) fun σ H Q ⟨ρ, S, Q', hE, hS, q, k⟩ => ⟨ρ, S, _, hE, hS, q, fun v d H' S' k' s' r' ⟨c, e, q⟩ => by
    subst e; cases r'; exact ⟨c, rfl, k c H' S' k' s' q⟩⟩
theorem td_not {t : DT} (h : TD X a t) : TD X (.UnaryOp .Not a pos) (dNot t) :=
  PT.imp (pt_not h) fun σ H Q ⟨ρ, S, Q', hE, hS, q, k⟩ => ⟨ρ, S, _, hE, hS, q, fun b H' S' k' s' q' => k _ H' S' k' s' q'⟩
section
variable {t u : DT} {rest : List Expr}
theorem wd_and1 (ha : TD X a t) : WD X (.BoolOp .And [a] pos) t := pw_and1 ha
theorem wd_or1 (ha : TD X a t) : WD X (.BoolOp .Or [a] pos) t := pw_or1 ha
theorem wd_and (ha : TD X a t) (hb : WD X (.BoolOp .And (b :: rest) pos) u) : WD X (.BoolOp .And (a :: b :: rest) pos) (dAnd t u) :=
  PW.imp (pw_and ha hb) fun σ H Q ⟨ρ, S, Q', hE, hS, q, k⟩ => ⟨ρ, S, _, hE, hS, q, fun c H' S' k' s' q' => by
    cases c with
    | true =>
      rw [if_pos rfl] at q' ⊢
      exact ⟨ρ, S', Q', hE.keep k', s', q', fun b H2 S2 k2 s2 q2 => k b H2 S2 (k'.trans k2) s2 q2⟩
    | false =>
      rw [if_neg Bool.false_ne_true] at q' ⊢
      exact k _ H' S' k' s' q'⟩
theorem wd_or (ha : TD X a t) (hb : WD X (.BoolOp .Or (b :: rest) pos) u) : WD X (.BoolOp .Or (a :: b :: rest) pos) (dOr t u) :=
  PW.imp (pw_or ha hb) fun σ H Q ⟨ρ, S, Q', hE, hS, q, k⟩ => ⟨ρ, S, _, hE, hS, q, fun c H' S' k' s' q' => by
    cases c with
    | true =>
      rw [if_pos rfl] at q' ⊢
      exact k _ H' S' k' s' q'
    | false =>
      rw [if_neg Bool.false_ne_true] at q' ⊢
      exact ⟨ρ, S', Q', hE.keep k', s', q', fun b H2 S2 k2 s2 q2 => k b H2 S2 (k'.trans k2) s2 q2⟩⟩
theorem ed_one {op} {t : DE} (h : ED X a t) : ED X (.BoolOp op [a] pos) t := pe_one h
theorem ed_and (ha : ED X a ta) (hb : ED X (.BoolOp .And (b :: rest) pos) tb) : ED X (.BoolOp .And (a :: b :: rest) pos) (dAndV ta tb) :=
  PE.imp (pe_and ha hb) fun σ H Q ⟨ρ, S, Q', hE, hS, q, k⟩ => ⟨ρ, S, _, hE, hS, q, fun x dx H' S' k' s' r' ⟨c, e, q'⟩ => by
    subst e
    cases r'
    refine ⟨c, rfl, ?_⟩
    cases c with
    | true =>
      rw [if_pos rfl] at q' ⊢
      exact ⟨ρ, S', Q', hE.keep k', s', q', fun v d H2 S2 k2 => k v d H2 S2 (k'.trans k2)⟩
    | false =>
      rw [if_neg Bool.false_ne_true] at q' ⊢
      exact k _ _ H' S' k' s' (.bl false) q'⟩
theorem ed_or (ha : ED X a ta) (hb : ED X (.BoolOp .Or (b :: rest) pos) tb) : ED X (.BoolOp .Or (a :: b :: rest) pos) (dOrV ta tb) :=
  PE.imp (pe_or ha hb) fun σ H Q ⟨ρ, S, Q', hE, hS, q, k⟩ => ⟨ρ, S, _, hE, hS, q, fun x dx H' S' k' s' r' ⟨c, e, q'⟩ => by
    subst e
    cases r'
    refine ⟨c, rfl, ?_⟩
    cases c with
    | true =>
      rw [if_pos rfl] at q' ⊢
      exact k _ _ H' S' k' s' (.bl true) q'
    | false =>
      rw [if_neg Bool.false_ne_true] at q' ⊢
      exact ⟨ρ, S', Q', hE.keep k', s', q', fun v d H2 S2 k2 => k v d H2 S2 (k'.trans k2)⟩⟩
theorem ed_not (ha : ED X a ta) : ED X (.UnaryOp .Not a pos) (dNotV ta) :=
  PE.imp (pe_not ha) fun σ H Q ⟨ρ, S, Q', hE, hS, q, k⟩ => ⟨ρ, S, _, hE, hS, q, fun x dx H' S' k' s' r' ⟨c, e, q'⟩ => by
    subst e
    cases r'
    exact ⟨c, rfl, k _ _ H' S' k' s' (.bl _) q'⟩⟩
theorem ed_if (hc : TD X c t) (ha : ED X a ta) (hb : ED X b tb) : ED X (.IfExp c a b pos) (dIf t ta tb) :=
  PE.imp (pe_ifExp hc ha hb) fun σ H Q ⟨ρ, S, Q', hE, hS, q, k⟩ => ⟨ρ, S, _, hE, hS, q, fun c H' S' k' s' q' => by
    cases c with
    | true =>
      rw [if_pos rfl] at q' ⊢
      exact ⟨ρ, S', Q', hE.keep k', s', q', fun v d H2 S2 k2 => k v d H2 S2 (k'.trans k2)⟩
    | false =>
      rw [if_neg Bool.false_ne_true] at q' ⊢
      exact ⟨ρ, S', Q', hE.keep k', s', q', fun v d H2 S2 k2 => k v d H2 S2 (k'.trans k2)⟩⟩
end
section
variable {es : List Expr} {t : DA}
theorem ad_nil : AD X [] dNil := PA.imp pa_nil fun σ H Q ⟨ρ, S, Q', hE, hS, q, k⟩ => k _ _ H S Keep.refl hS .nil q
theorem ad_cons (ha : ED X e ta) (hr : AD X es t) (hs : starEach (e :: es) X.env = (false, eval e X.env) :: starEach es X.env := by rfl) : AD X (e :: es) (dCons ta t) :=
  PA.imp (pa_cons ha hr hs) fun σ H Q ⟨ρ, S, Q', hE, hS, q, k⟩ => ⟨ρ, S, _, hE, hS, q, fun v d H1 S1 k1 s1 r1 q1 => ⟨ρ, S1, _, hE.keep k1, s1, q1, fun vs ds H2 S2 k2 s2 r2 q2 => k _ _ H2 S2 (k1.trans k2) s2 (.cons (r1.keep k2) r2) q2⟩⟩
theorem ed_tup {x1} (h : AD X es t) : ED X (.Tuple es x1 pos) (dTup t) :=
  PE.imp (pe_tup h) fun σ H Q ⟨ρ, S, Q', hE, hS, q, k⟩ => ⟨ρ, S, _, hE, hS, q, fun vs ds H1 S1 k1 s1 r1 ⟨hl, q1⟩ => ⟨by rw [← r1.length]; exact hl, fun p hp =>
    k _ _ _ S1 (k1.trans (Keep.new hp)) (s1.new hp) (.tup upd_same (r1.keep (Keep.new hp))) q1⟩⟩
theorem ed_lst (h : AD X es t) : ED X (.List es pos) (dLst t) :=
  PE.imp (pe_lst h) fun σ H Q ⟨ρ, S, Q', hE, hS, q, k⟩ => ⟨ρ, S, _, hE, hS, q, fun vs ds H1 S1 k1 s1 r1 ⟨hl, q1⟩ => ⟨by rw [← r1.length]; exact hl, fun p hp =>
    k _ _ _ _ (k1.trans (Keep.new hp)) (s1.putNew hp (.ofLst upd_same (r1.keep (Keep.new hp)))) (.ref p) (q1 p (s1.free hp))⟩⟩
/-- a call of a built-in by its name -/
theorem ed_callB {x : Str} {id : String} {r : DC} (hc : CallR X (.builtin id) (upC (gOf X) r)) (hg : Gl X x) (hm : X.mg x = none) (hv : bootBuiltins x = some (.builtin id)) (ha : AD X (e :: es) t) (hn : x ≠ "__name__" := by decide) (hdb : (x == ("__debug__" : Str)) = false := by decide)
    (he : starEach (e :: es) X.env = (false, eval e X.env) :: starEach es X.env := by rfl) (hpl : (backTo pos (starEach es X.env)).any (·.1) = false := by rfl) : ED X (.Call (.Name x p) (e :: es) [] pos) (dCall r t) :=
  PE.imp (pe_callB hc hg hm hv ha hn hdb he hpl) fun σ H Q ⟨ρ, S, Q', hE, hS, q, k⟩ => ⟨ρ, S, _, hE, hS, q, fun vs ds H1 S1 k1 s1 r1 q1 => ⟨ds, S1, Q', s1, r1, q1, fun v d H2 S2 k2 => k v d H2 S2 (k1.trans k2)⟩⟩
theorem ed_callTy {x : Str} {T : String} {r : DC} (hc : CallR X (.type T) (upC (gOf X) r)) (hg : Gl X x) (hm : X.mg x = none) (hv : bootBuiltins x = some (.type T)) (ha : AD X (e :: es) t) (hn : x ≠ "__name__" := by decide) (hdb : (x == ("__debug__" : Str)) = false := by decide)
    (he : starEach (e :: es) X.env = (false, eval e X.env) :: starEach es X.env := by rfl) (hpl : (backTo pos (starEach es X.env)).any (·.1) = false := by rfl) : ED X (.Call (.Name x p) (e :: es) [] pos) (dCall r t) :=
  PE.imp (pe_callTy hc hg hm hv ha hn hdb he hpl) fun σ H Q ⟨ρ, S, Q', hE, hS, q, k⟩ => ⟨ρ, S, _, hE, hS, q, fun vs ds H1 S1 k1 s1 r1 q1 => ⟨ds, S1, Q', s1, r1, q1, fun v d H2 S2 k2 => k v d H2 S2 (k1.trans k2)⟩⟩
end
end

/-! ### operators by data -/
def mulOk (i j : Int) : Prop := (-(2 ^ 64) < i ∧ i < 2 ^ 64) ∨ (-(2 ^ 64) < j ∧ j < 2 ^ 64) ∨ i.natAbs.log2 + j.natAbs.log2 < 8000000
def aAdd : DOp := fun x y S Q => match x, y with
  | .int i, .int j => Q (.int (i + j)) S
  | .str a, .str b => a.length + b.length ≤ sizeLine ∧ Q (.str (a ++ b)) S
  | .tup a, .tup b => a.length + b.length ≤ sizeLine ∧ Q (.tup (a ++ b)) S
  | .ref p, .ref q => ∃ a b, S p = some (.lst a) ∧ S q = some (.lst b) ∧ a.length + b.length ≤ sizeLine ∧ ∀ r, S r = none → Q (.ref r) (put S r (.lst (a ++ b)))
  | _, _ => False
def aSub : DOp := fun x y S Q => match x, y with
  | .int i, .int j => Q (.int (i - j)) S
  | _, _ => False
def aMul : DOp := fun x y S Q => match x, y with
  | .int i, .int j => mulOk i j ∧ Q (.int (i * j)) S
  | .tup a, .int k => a ≠ [] ∧ 2 ≤ k ∧ k ≤ 1000 ∧ a.length ≤ 1000 ∧ Q (.tup (List.replicate k.toNat a).flatten) S
  | .ref p, .int k => ∃ a, S p = some (.lst a) ∧ -(2 ^ 63) ≤ k ∧ k < 2 ^ 63 ∧ a.length * k.toNat ≤ sizeLine ∧ ∀ r, S r = none → Q (.ref r) (put S r (.lst (List.replicate k.toNat a).flatten))
  | _, _ => False
def aFdiv : DOp := fun x y S Q => match x, y with
  | .int i, .int j => (0 < j ∧ j < 2 ^ 64) ∧ Q (.int (i / j)) S
  | _, _ => False
def aMod : DOp := fun x y S Q => match x, y with
  | .int i, .int j => 0 < j ∧ Q (.int (i % j)) S
  | _, _ => False
def aPow : DOp := fun x y S Q => match x, y with
  | .int i, .int j => (0 ≤ j ∧ j ≤ 1000000 ∧ i.natAbs < 2 ^ 64) ∧ Q (.int (i ^ j.toNat)) S
  | _, _ => False
def aCmp (f : Int → Int → Bool) : DOp := fun x y S Q => match x, y with
  | .int i, .int j => Q (.bl (f i j)) S
  | _, _ => False
def aIsN : DOp := fun x y S Q => y = .non ∧ Q (.bl (decide (x = .non))) S
def aNotN : DOp := fun x y S Q => y = .non ∧ Q (.bl (!decide (x = .non))) S
def aIsB : DOp := fun x y S Q => match x, y with
  | .bl a, .bl b => Q (.bl (decide (a = b))) S
  | _, _ => False
def aNotB : DOp := fun x y S Q => match x, y with
  | .bl a, .bl b => Q (.bl (!decide (a = b))) S
  | _, _ => False
section
variable {X : Cx}
theorem mulOk.ok {i j : Int} (h : mulOk i j) : IntMulOk i j := by
  rcases h with h | h | h
  · exact CMul.ok (.inl h)
  · exact CMul.ok (.inr h)
  · have b : ∀ x : Int, Builtin.Int.intBits x ≤ x.natAbs.log2 + 1 := fun x => by
      unfold Builtin.Int.intBits
      split <;> omega
    have h1 := b i
    have h2 := b j
    have e : bitsLine = 134217728 := by decide
    unfold IntMulOk
    intro z
    rw [Bool.and_eq_true] at z
    have z2 := z.2
    unfold Builtin.Int.intTooBig at z2
    have z3 := of_decide_eq_true z2
    rw [e] at z3
    omega
theorem op_mulX : OpR X (binaryOp .Mult) (rI mulOk fun i j => .int (i * j)) := opI fun _ _ _ _ _ _ _ hc q => mul_int q hc.ok
theorem od_add : OpR X (binaryOp .Add) (upO (gOf X) aAdd) := by
  intro pins s σ H x y v u Q I rx ry ⟨dx, dy, S, Q', hS, r1, r2, h, k⟩
  cases r1 <;> cases r2 <;> first | exact h.elim | skip
  · exact op_add pins s σ H _ _ v u Q I rx ry ⟨_, _, rfl, rfl, k _ _ H S Keep.refl hS (.int _) h⟩
  · exact op_add_str pins s σ H _ _ v u Q I rx ry ⟨_, _, rfl, rfl, h.1, k _ _ H S Keep.refl hS (.str _) h.2⟩
  · rename_i a vs ds t1 s1 b ws es t2 s2
    have l1 := s1.length
    have l2 := s2.length
    refine op_catA pins s σ H _ _ v u Q I rx ry ⟨_, _, _, _, rfl, rfl, SqT.of t1, SqT.of t2, by rw [← l1, ← l2]; exact h.1, fun e => ?_, fun _ e => ?_, fun _ _ p hp => ?_⟩
    · subst e; cases s1; exact k _ _ H S Keep.refl hS (.tup t2 s2) h.2
    · subst e; cases s2; exact k _ _ H S Keep.refl hS (.tup t1 s1) (by simpa using h.2)
    · exact k _ _ _ S (Keep.new hp) (hS.new hp) (.tup upd_same ((s1.append s2).keep (Keep.new hp))) h.2
  · rename_i p q
    obtain ⟨a, b, e1, e2, hl, h⟩ := h
    obtain ⟨vs, f1, s1⟩ := hS _ _ e1
    obtain ⟨ws, f2, s2⟩ := hS _ _ e2
    refine op_cat pins s σ H _ _ v u Q I rx ry ⟨_, _, _, _, rfl, rfl, f1, f2, by rw [← s1.length, ← s2.length]; exact hl, fun r hr => ?_⟩
    exact k _ _ _ _ (Keep.new hr) (hS.putNew hr (.ofLst upd_same ((s1.append s2).keep (Keep.new hr)))) (.ref r) (h r (hS.free hr))
theorem od_sub : OpR X (binaryOp .Sub) (upO (gOf X) aSub) := by
  intro pins s σ H x y v u Q I rx ry ⟨dx, dy, S, Q', hS, r1, r2, h, k⟩
  cases r1 <;> cases r2 <;> first | exact h.elim | skip
  exact op_sub pins s σ H _ _ v u Q I rx ry ⟨_, _, rfl, rfl, k _ _ H S Keep.refl hS (.int _) h⟩
theorem od_mul : OpR X (binaryOp .Mult) (upO (gOf X) aMul) := by
  intro pins s σ H x y v u Q I rx ry ⟨dx, dy, S, Q', hS, r1, r2, h, k⟩
  cases r1 <;> cases r2 <;> first | exact h.elim | skip
  · exact op_mulX pins s σ H _ _ v u Q I rx ry ⟨_, _, rfl, rfl, h.1, k _ _ H S Keep.refl hS (.int _) h.2⟩
  · rename_i a vs ds t1 s1 i
    obtain ⟨h1, h2, h3, h4, h⟩ := h
    have l1 := s1.length
    refine op_repT pins s σ H _ _ v u Q I rx ry ⟨_, _, _, rfl, rfl, SqT.of t1, ?_, h2, h3, by omega, fun p hp => ?_⟩
    · rintro rfl; cases s1; exact h1 rfl
    · exact k _ _ _ S (Keep.new hp) (hS.new hp) (.tup upd_same ((s1.flat _).keep (Keep.new hp))) h
  · rename_i p i
    obtain ⟨a, e1, h1, h2, h3, h⟩ := h
    obtain ⟨vs, f1, s1⟩ := hS _ _ e1
    refine op_rep pins s σ H _ _ v u Q I rx ry ⟨_, _, _, rfl, rfl, f1, h1, h2, by rw [← s1.length]; exact h3, fun r hr => ?_⟩
    exact k _ _ _ _ (Keep.new hr) (hS.putNew hr (.ofLst upd_same ((s1.flat _).keep (Keep.new hr)))) (.ref r) (h r (hS.free hr))
theorem od_fdiv : OpR X (binaryOp .FloorDiv) (upO (gOf X) aFdiv) := by
  intro pins s σ H x y v u Q I rx ry ⟨dx, dy, S, Q', hS, r1, r2, h, k⟩
  cases r1 <;> cases r2 <;> first | exact h.elim | skip
  obtain ⟨⟨h1, h2⟩, h⟩ := h
  exact op_fdivW pins s σ H _ _ v u Q I rx ry ⟨_, _, rfl, rfl, wide_div (b := 64) h1 (by omega) (by decide) (by decide), k _ _ H S Keep.refl hS (.int _) h⟩
theorem od_mod : OpR X (binaryOp .Mod) (upO (gOf X) aMod) := by
  intro pins s σ H x y v u Q I rx ry ⟨dx, dy, S, Q', hS, r1, r2, h, k⟩
  cases r1 <;> cases r2 <;> first | exact h.elim | skip
  exact op_mod pins s σ H _ _ v u Q I rx ry ⟨_, _, rfl, rfl, h.1, k _ _ H S Keep.refl hS (.int _) h.2⟩
theorem od_pow : OpR X (binaryOp .Pow) (upO (gOf X) aPow) := by
  intro pins s σ H x y v u Q I rx ry ⟨dx, dy, S, Q', hS, r1, r2, h, k⟩
  cases r1 <;> cases r2 <;> first | exact h.elim | skip
  exact op_pow pins s σ H _ _ v u Q I rx ry ⟨_, _, rfl, rfl, h.1, k _ _ H S Keep.refl hS (.int _) h.2⟩
theorem od_cmp {op : CmpOp} {f : Int → Int → Bool} (ho : OpR X (compareOp op) (rI0 fun i j => .bl (f i j))) : OpR X (compareOp op) (upO (gOf X) (aCmp f)) := by
  intro pins s σ H x y v u Q I rx ry ⟨dx, dy, S, Q', hS, r1, r2, h, k⟩
  cases r1 <;> cases r2 <;> first | exact h.elim | skip
  exact ho pins s σ H _ _ v u Q I rx ry ⟨_, _, rfl, rfl, k _ _ H S Keep.refl hS (.bl _) h⟩
abbrev fLt (i j : Int) : Bool := decide (i < j)
abbrev fLe (i j : Int) : Bool := decide (i ≤ j)
abbrev fGt (i j : Int) : Bool := decide (j < i)
abbrev fGe (i j : Int) : Bool := decide (j ≤ i)
theorem od_lt : OpR X (compareOp .Lt) (upO (gOf X) (aCmp fLt)) := od_cmp op_lt
theorem od_le : OpR X (compareOp .LtE) (upO (gOf X) (aCmp fLe)) := od_cmp op_le
theorem od_gt : OpR X (compareOp .Gt) (upO (gOf X) (aCmp fGt)) := od_cmp op_gt
theorem od_ge : OpR X (compareOp .GtE) (upO (gOf X) (aCmp fGe)) := od_cmp op_ge
theorem rep_non {K : G} {H : Hp} {d : D} {x : V} (r : Rep K H d x) : decide (x = .non) = decide (d = .non) := by
  cases r <;> rfl
theorem od_isN : OpR X (compareOp .Is) (upO (gOf X) aIsN) := by
  intro pins s σ H x y v u Q I rx ry ⟨dx, dy, S, Q', hS, r1, r2, ⟨e, h⟩, k⟩
  subst e
  cases r2
  exact op_isN pins s σ H _ _ v u Q I rx ry ⟨rfl, by rw [rep_non r1]; exact k _ _ H S Keep.refl hS (.bl _) h⟩
theorem od_notN : OpR X (compareOp .IsNot) (upO (gOf X) aNotN) := by
  intro pins s σ H x y v u Q I rx ry ⟨dx, dy, S, Q', hS, r1, r2, ⟨e, h⟩, k⟩
  subst e
  cases r2
  exact op_notN pins s σ H _ _ v u Q I rx ry ⟨rfl, by rw [rep_non r1]; exact k _ _ H S Keep.refl hS (.bl _) h⟩
end
end DW
namespace DW
open PySem PySem.Spec PyProof.Rows L2

/-! ## 5. Data as the model's own data; keys -/
mutual
def D.py : D → Option PyData
  | .non => some .none
  | .bl b => some (.bool b)
  | .int i => some (.int i)
  | .str x => some (.str x)
  | .tup xs => (D.pys xs).map .tuple
  | _ => none
def D.pys : List D → Option (List PyData)
  | [] => some []
  | x :: xs => match D.py x, D.pys xs with
    | some a, some b => some (a :: b)
    | _, _ => none
end
mutual
/-- no bools, no objects, not too deep, texts as they come -/
def D.cl : Nat → D → Bool
  | _, .non => true
  | _, .int _ => true
  | _, .str x => PyData.strOk x
  | 0, .tup _ => false
  | n + 1, .tup xs => D.cls n xs
  | _, _ => false
def D.cls : Nat → List D → Bool
  | _, [] => true
  | n, x :: xs => D.cl n x && D.cls n xs
end
theorem D.cls_all (n : Nat) : ∀ xs : List D, D.cls n xs = xs.all (D.cl n)
  | [] => by simp [D.cls]
  | x :: xs => by simp [D.cls, D.cls_all n xs]
section
variable {K : G} {H : Hp}
mutual
theorem Rep.dp : ∀ {d : D} {v : V} {p : PyData}, Rep K H d v → d.py = some p → Dp K.K H v p
  | _, _, _, .non, e => by cases e; exact .non
  | _, _, _, .bl b, e => by cases e; exact .bl b
  | _, _, _, .int i, e => by cases e; exact .int i
  | _, _, _, .str x, e => by cases e; exact .str x
  | .tup xs, _, p, .tup h r, e => by
    simp only [D.py, Option.map_eq_some_iff] at e
    obtain ⟨ps, e, rfl⟩ := e
    exact .tup (SqT.of h) (Reps.dp r e)
theorem Reps.dp : ∀ {ds : List D} {vs : List V} {ps : List PyData}, Reps K H ds vs → D.pys ds = some ps → DpAll K.K H vs ps
  | _, _, _, .nil, e => by cases e; exact .nil
  | d :: ds, _, ps, .cons r t, e => by
    simp only [D.pys] at e
    split at e
    · next a b h1 h2 => cases e; exact .cons (Rep.dp r h1) (Reps.dp t h2)
    · cases e
end
end
/-- what a value is, as data; a list by what the store says -/
def toP (S : Sto) : D → Option PyData
  | .ref a => match S a with
    | some (.lst ds) => (D.pys ds).map .list
    | _ => none
  | d => d.py
def eqOk (S : Sto) (d : D) : Prop := ∃ p, toP S d = some p ∧ SeqAt.shaped p = true
def eqD (S : Sto) (x y : D) : Bool := match toP S x, toP S y with
  | some p, some q => PyData.eqv p q
  | _, _ => false
theorem toP_dp {K : G} {S : Sto} {H : Hp} {d : D} {v : V} {p : PyData} (hS : SRel K S H) (r : Rep K H d v) (e : toP S d = some p) : Dp K.K H v p := by
  cases r with
  | ref a =>
    simp only [toP] at e
    split at e
    · next ds h =>
      simp only [Option.map_eq_some_iff] at e
      obtain ⟨ps, e, rfl⟩ := e
      obtain ⟨vs, f, s⟩ := hS _ _ h
      exact .lst (SqL.of f) (s.dp e)
    · cases e
  | non => exact Rep.dp (d := .non) .non e
  | bl b => exact Rep.dp (.bl b) e
  | int b => exact Rep.dp (.int b) e
  | str b => exact Rep.dp (.str b) e
  | ty n => cases e
  | tup h s => exact Rep.dp (.tup h s) e
def aEq : DOp := fun x y S Q => eqOk S x ∧ eqOk S y ∧ Q (.bl (eqD S x y)) S
def aNe : DOp := fun x y S Q => eqOk S x ∧ eqOk S y ∧ Q (.bl (!eqD S x y)) S
section
variable {X : Cx}
theorem od_eq (hu : X.A.units + 64 < cLine) : OpR X (compareOp .Eq) (upO (gOf X) aEq) := by
  intro pins s σ H x y v u Q I rx ry ⟨dx, dy, S, Q', hS, r1, r2, ⟨⟨p, e1, h1⟩, ⟨q, e2, h2⟩, h⟩, k⟩
  refine op_eqD hu pins s σ H _ _ v u Q I rx ry ⟨p, q, toP_dp hS r1 e1, toP_dp hS r2 e2, h1, h2, ?_⟩
  have : eqD S dx dy = PyData.eqv p q := by unfold eqD; rw [e1, e2]
  rw [← this]
  exact k _ _ H S Keep.refl hS (.bl _) h
theorem od_ne (hu : X.A.units + 64 < cLine) : OpR X (compareOp .NotEq) (upO (gOf X) aNe) := by
  intro pins s σ H x y v u Q I rx ry ⟨dx, dy, S, Q', hS, r1, r2, ⟨⟨p, e1, h1⟩, ⟨q, e2, h2⟩, h⟩, k⟩
  refine op_neD hu pins s σ H _ _ v u Q I rx ry ⟨p, q, toP_dp hS r1 e1, toP_dp hS r2 e2, h1, h2, ?_⟩
  have : eqD S dx dy = PyData.eqv p q := by unfold eqD; rw [e1, e2]
  rw [← this]
  exact k _ _ H S Keep.refl hS (.bl _) h
end
/-! clean data: == is equality -/
mutual
theorem cl_py : ∀ (n : Nat) (d : D), D.cl n d = true → ∃ p, d.py = some p ∧ p.canLay0 = true ∧ p.depth ≤ n
  | n, .non, _ => ⟨.none, rfl, by simp [PyData.canLay0], by simp [PyData.depth]⟩
  | n, .int i, _ => ⟨.int i, rfl, by simp [PyData.canLay0], by simp [PyData.depth]⟩
  | n, .str x, h => ⟨.str x, rfl, by simpa [D.cl, PyData.canLay0] using h, by simp [PyData.depth]⟩
  | 0, .tup _, h => by simp [D.cl] at h
  | n + 1, .tup xs, h => by
    obtain ⟨ps, e, a, b⟩ := cls_py n xs (by simpa [D.cl] using h)
    exact ⟨.tuple ps, by simp [D.py, e], by simpa [PyData.canLay0] using a, by simp only [PyData.depth]; omega⟩
  | _, .bl _, h => by simp [D.cl] at h
  | _, .ref _, h => by simp [D.cl] at h
  | _, .ty _, h => by simp [D.cl] at h
theorem cls_py : ∀ (n : Nat) (ds : List D), D.cls n ds = true → ∃ ps, D.pys ds = some ps ∧ PyData.canLayAll0 ps = true ∧ PyData.depthAll ps ≤ n
  | _, [], _ => ⟨[], rfl, by simp [PyData.canLayAll0], by simp [PyData.depthAll]⟩
  | n, x :: xs, h => by
    simp only [D.cls, Bool.and_eq_true] at h
    obtain ⟨p, e, a, b⟩ := cl_py n x h.1
    obtain ⟨ps, e', a', b'⟩ := cls_py n xs h.2
    exact ⟨p :: ps, by simp [D.pys, e, e'], by simp [PyData.canLayAll0, a, a'], by simp only [PyData.depthAll]; omega⟩
end
mutual
theorem cl_eqv : ∀ (n m : Nat) (a b : D) (p q : PyData), D.cl n a = true → D.cl m b = true → a.py = some p → b.py = some q → PyData.eqv p q = decide (a = b)
  | n, m, .tup xs, .tup ys, p, q, h1, h2, e1, e2 => by
    cases n with
    | zero => simp [D.cl] at h1
    | succ n =>
    cases m with
    | zero => simp [D.cl] at h2
    | succ m =>
    simp only [D.py, Option.map_eq_some_iff] at e1 e2
    obtain ⟨ps, e1, rfl⟩ := e1
    obtain ⟨qs, e2, rfl⟩ := e2
    have := cls_eqv n m xs ys ps qs (by simpa [D.cl] using h1) (by simpa [D.cl] using h2) e1 e2
    simp only [PyData.eqv, this]
    by_cases z : xs = ys <;> simp [z]
  | _, _, .non, b, p, q, _, h2, e1, e2 => by
    cases e1
    cases b <;> simp [D.py, D.cl] at e2 h2 <;> first | (subst e2; simp [PyData.eqv]) | (obtain ⟨_, _, rfl⟩ := e2; simp [PyData.eqv])
  | _, _, .int i, b, p, q, _, h2, e1, e2 => by
    cases e1
    cases b <;> simp [D.py, D.cl] at e2 h2 <;> first | (subst e2; simp [PyData.eqv, Bool.beq_eq_decide_eq]) | (obtain ⟨_, _, rfl⟩ := e2; simp [PyData.eqv])
  | _, _, .str i, b, p, q, _, h2, e1, e2 => by
    cases e1
    cases b <;> simp [D.py, D.cl] at e2 h2 <;> first | (subst e2; simp [PyData.eqv, Bool.beq_eq_decide_eq]) | (obtain ⟨_, _, rfl⟩ := e2; simp [PyData.eqv])
  | _, _, .tup xs, .non, p, q, h1, h2, e1, e2 => by
    simp only [D.py, Option.map_eq_some_iff] at e1
    obtain ⟨ps, e1, rfl⟩ := e1
    cases e2
    simp [PyData.eqv]
  | _, _, .tup xs, .int _, p, q, h1, h2, e1, e2 => by
    simp only [D.py, Option.map_eq_some_iff] at e1
    obtain ⟨ps, e1, rfl⟩ := e1
    cases e2
    simp [PyData.eqv]
  | _, _, .tup xs, .str _, p, q, h1, h2, e1, e2 => by
    simp only [D.py, Option.map_eq_some_iff] at e1
    obtain ⟨ps, e1, rfl⟩ := e1
    cases e2
    simp [PyData.eqv]
  | _, _, .tup xs, .bl _, p, q, h1, h2, e1, e2 => by simp [D.cl] at h2
  | _, _, .tup xs, .ref _, p, q, h1, h2, e1, e2 => by simp [D.cl] at h2
  | _, _, .tup xs, .ty _, p, q, h1, h2, e1, e2 => by simp [D.cl] at h2
  | _, _, .bl _, _, p, q, h1, h2, e1, e2 => by simp [D.cl] at h1
  | _, _, .ref _, _, p, q, h1, h2, e1, e2 => by simp [D.cl] at h1
  | _, _, .ty _, _, p, q, h1, h2, e1, e2 => by simp [D.cl] at h1
theorem cls_eqv : ∀ (n m : Nat) (xs ys : List D) (ps qs : List PyData), D.cls n xs = true → D.cls m ys = true → D.pys xs = some ps → D.pys ys = some qs → PyData.eqvAll ps qs = decide (xs = ys)
  | _, _, [], [], _, _, _, _, e1, e2 => by cases e1; cases e2; simp [PyData.eqvAll]
  | _, _, [], y :: ys, _, _, _, _, e1, e2 => by
    cases e1
    simp only [D.pys] at e2
    split at e2 <;> cases e2
    simp [PyData.eqvAll]
  | _, _, x :: xs, [], _, _, _, _, e1, e2 => by
    cases e2
    simp only [D.pys] at e1
    split at e1 <;> cases e1
    simp [PyData.eqvAll]
  | n, m, x :: xs, y :: ys, _, _, h1, h2, e1, e2 => by
    simp only [D.cls, Bool.and_eq_true] at h1 h2
    simp only [D.pys] at e1 e2
    split at e1
    · next a b i1 i2 =>
      cases e1
      split at e2
      · next c d j1 j2 =>
        cases e2
        simp only [PyData.eqvAll, cl_eqv n m x y a c h1.1 h2.1 i1 j1, cls_eqv n m xs ys b d h1.2 h2.2 i2 j2]
        by_cases z1 : x = y <;> by_cases z2 : xs = ys <;> simp [z1, z2]
      · cases e2
    · cases e1
end
theorem toP_cl {S : Sto} {n : Nat} {d : D} (h : D.cl n d = true) : toP S d = d.py := by cases d <;> first | rfl | simp [D.cl] at h
theorem eqOk_cl {S : Sto} {d : D} (h : D.cl 60 d = true) : eqOk S d := by
  obtain ⟨p, e, a, b⟩ := cl_py 60 d h
  refine ⟨p, by rw [toP_cl h, e], ?_⟩
  show (p.canLay0 && decide (p.depth ≤ 64)) = true
  rw [a, decide_eq_true (by omega)] <;> rfl
theorem eqD_cl {S : Sto} {n m : Nat} {a b : D} (h1 : D.cl n a = true) (h2 : D.cl m b = true) : eqD S a b = decide (a = b) := by
  obtain ⟨p, e1, _⟩ := cl_py n a h1
  obtain ⟨q, e2, _⟩ := cl_py m b h2
  unfold eqD
  rw [toP_cl h1, toP_cl h2, e1, e2]
  exact cl_eqv n m a b p q h1 h2 e1 e2
theorem eqOk_bl {S : Sto} {b : Bool} : eqOk S (.bl b) := ⟨.bool b, rfl, by rfl⟩
theorem eqD_bl {S : Sto} {a b : Bool} : eqD S (.bl a) (.bl b) = (a == b) := rfl
theorem eqOk_lst {S : Sto} {a : Addr} {ds : List D} (e : S a = some (.lst ds)) (h : D.cls 59 ds = true) : eqOk S (.ref a) := by
  obtain ⟨ps, f, a', b⟩ := cls_py 59 ds h
  refine ⟨.list ps, by simp only [toP, e, f]; rfl, ?_⟩
  show (PyData.canLay0 (.list ps) && decide (PyData.depth (.list ps) ≤ 64)) = true
  rw [show PyData.canLay0 (.list ps) = true by simpa [PyData.canLay0] using a', decide_eq_true (by simp only [PyData.depth]; omega)] <;> rfl
theorem eqD_lst {S : Sto} {a b : Addr} {ds es : List D} (e : S a = some (.lst ds)) (f : S b = some (.lst es)) (h1 : D.cls 59 ds = true) (h2 : D.cls 59 es = true) : eqD S (.ref a) (.ref b) = decide (ds = es) := by
  obtain ⟨ps, e1, _⟩ := cls_py 59 ds h1
  obtain ⟨qs, e2, _⟩ := cls_py 59 es h2
  have := cls_eqv 59 59 ds es ps qs h1 h2 e1 e2
  unfold eqD
  simp only [toP, e, f, e1, e2, Option.map_some, PyData.eqv, this]
theorem cls_ints (n : Nat) (ns : List Int) : D.cls n (ns.map .int) = true := by rw [D.cls_all]; simp [D.cl]
theorem cl_ints (n : Nat) (ns : List Int) : D.cl (n + 1) (.tup (ns.map .int)) = true := by rw [D.cl]; exact cls_ints n ns

/-! keys -/
mutual
theorem nk_inj : ∀ (a b : D) (k : NestedKey), a.nk = some k → b.nk = some k → a = b
  | .non, b, k, h1, h2 => by cases h1; cases b <;> simp [D.nk] at h2 ⊢
  | .int i, b, k, h1, h2 => by cases h1; cases b <;> simp [D.nk] at h2 ⊢; exact h2.symm
  | .str i, b, k, h1, h2 => by cases h1; cases b <;> simp [D.nk] at h2 ⊢; exact h2.symm
  | .tup xs, b, k, h1, h2 => by
    simp only [D.nk, Option.map_eq_some_iff] at h1
    obtain ⟨ks, h1, rfl⟩ := h1
    cases b <;> simp [D.nk] at h2
    rw [nks_inj xs _ ks h1 h2]
  | .bl _, _, _, h1, _ => by simp [D.nk] at h1
  | .ref _, _, _, h1, _ => by simp [D.nk] at h1
  | .ty _, _, _, h1, _ => by simp [D.nk] at h1
theorem nks_inj : ∀ (as bs : List D) (ks : List NestedKey), D.nks as = some ks → D.nks bs = some ks → as = bs
  | [], [], _, _, _ => rfl
  | [], b :: bs, _, h1, h2 => by
    cases h1
    simp only [D.nks] at h2
    split at h2 <;> cases h2
  | a :: as, [], _, h1, h2 => by
    cases h2
    simp only [D.nks] at h1
    split at h1 <;> cases h1
  | a :: as, b :: bs, _, h1, h2 => by
    simp only [D.nks] at h1 h2
    split at h1
    · next x y i1 i2 =>
      cases h1
      split at h2
      · next x' y' j1 j2 =>
        cases h2
        rw [nk_inj a b _ i1 j1, nks_inj as bs _ i2 j2]
      · cases h2
    · cases h1
end
section
variable {X : Cx} {pins : List (Addr × Obj)} {σ : L2.St} {H : Hp} {s : Shared}
mutual
theorem Rep.nested (I : Inv X pins σ H s) : ∀ {d : D} {v : V} {u : Value} {k : NestedKey}, Rep (gOf X) H d v → RelV v u → d.nk = some k → NestedIs s.heap k u
  | _, _, _, _, .non, r, e => by cases e; cases r; exact .none
  | _, _, _, _, .int i, r, e => by cases e; obtain ⟨t, rfl⟩ := r; exact .int _ _
  | _, _, _, _, .str x, r, e => by cases e; obtain ⟨t, rfl⟩ := r; exact .text _ _
  | .tup xs, _, _, k, .tup h q, r, e => by
    simp only [D.nk, Option.map_eq_some_iff] at e
    obtain ⟨ks, e, rfl⟩ := e
    cases r
    obtain ⟨its, rv, ⟨o, h1, h2, n, h3⟩, hz⟩ := I.tuple (SqT.of h)
    exact .tup h1 h2 h3 (by simpa using Reps.nested I q rv e)
theorem Reps.nested (I : Inv X pins σ H s) : ∀ {ds : List D} {vs : List V} {us : List Value} {ks : List NestedKey}, Reps (gOf X) H ds vs → Vals vs us → D.nks ds = some ks → NestedAll s.heap ks us
  | _, _, _, _, .nil, r, e => by cases r; cases e; exact .nil
  | d :: ds, _, _, _, .cons a t, r, e => by
    cases r with
    | cons r1 r2 =>
      simp only [D.nks] at e
      split at e
      · next x y i1 i2 => cases e; exact .cons (Rep.nested I a r1 i1) (Reps.nested I t r2 i2)
      · cases e
end
end
def lookD (kvs : List (D × D)) (k : D) : Option D := (kvs.find? fun kv => decide (kv.1 = k)).map (·.2)
def putD (kvs : List (D × D)) (k v : D) : List (D × D) := if (lookD kvs k).isSome then kvs.map (fun kv => if kv.1 = k then (kv.1, v) else kv) else kvs ++ [(k, v)]
def dropD (kvs : List (D × D)) (k : D) : List (D × D) := kvs.filter fun kv => decide (kv.1 ≠ k)
def mergeD (kvs more : List (D × D)) : List (D × D) := more.foldl (fun acc kv => putD acc kv.1 kv.2) kvs
def isLeaf (d : D) : Prop := ∃ k : Key, d = kD k
def isTup (d : D) : Prop := ∃ xs, d = .tup xs
def isTK (d : D) : Prop := ∃ xs k, d = .tup xs ∧ d.nk = some k ∧ k.depth ≤ 8
/-- x may be asked of a dict with such keys -/
def keyOk (kvs : List (D × D)) (x : D) : Prop := (isLeaf x ∧ ∀ kv ∈ kvs, isLeaf kv.1) ∨ (isTK x ∧ ∀ kv ∈ kvs, isTup kv.1)
theorem leaf_int (i : Int) : isLeaf (.int i) := ⟨.inl i, rfl⟩
theorem leaf_str (x : Str) : isLeaf (.str x) := ⟨.inr x, rfl⟩
theorem leaf_not_tup {d : D} (h : isLeaf d) : ¬ isTup d := by
  rintro ⟨xs, rfl⟩
  obtain ⟨k, e⟩ := h
  cases k <;> cases e
theorem kD_inj {a b : Key} (h : kD a = kD b) : a = b := by
  cases a <;> cases b <;> simp [kD] at h ⊢ <;> exact h
theorem rep_key {K : G} {H : Hp} {k : Key} {v : V} (r : Rep K H (kD k) v) : v = kV k := by
  cases k <;> cases r <;> rfl
end DW
namespace DW
open PySem PySem.Spec PyProof.Rows L2

/-! ## 6. Dicts -/
section
variable {K : G} {H : Hp}
/-! the two lists of entries agree -/
theorem kv1_val : ∀ {kvs : List (D × D)} {ks : List (Key × V)}, KV1 K H kvs ks → ∀ k : Key, (lookD kvs (kD k) = none ∧ valV ks k = none) ∨ ∃ e v, lookD kvs (kD k) = some e ∧ valV ks k = some v ∧ Rep K H e v
  | _, _, .nil, k => .inl ⟨rfl, rfl⟩
  | _, _, .cons (k := j) r t, k => by
    by_cases h : j = k
    · subst h
      exact .inr ⟨_, _, by simp [lookD], by simp [valV], r⟩
    · have h' : ¬ kD j = kD k := fun e => h (kD_inj e)
      have := kv1_val t k
      simpa [lookD, valV, List.find?_cons, h, h'] using this
theorem kv1_some {kvs : List (D × D)} {ks : List (Key × V)} (r : KV1 K H kvs ks) (k : Key) : (lookD kvs (kD k)).isSome = (valV ks k).isSome := by
  rcases kv1_val r k with ⟨a, b⟩ | ⟨e, v, a, b, _⟩ <;> rw [a, b] <;> rfl
theorem kv1_map {k : Key} {e : D} {v : V} (r : Rep K H e v) : ∀ {kvs : List (D × D)} {ks : List (Key × V)}, KV1 K H kvs ks → KV1 K H (kvs.map fun kv => if kv.1 = kD k then (kv.1, e) else kv) (ks.map fun kv => if kv.1 = k then (kv.1, v) else kv)
  | _, _, .nil => .nil
  | _, _, .cons (k := j) q t => by
    by_cases h : j = k
    · subst h
      simpa using KV1.cons r (kv1_map r t)
    · have h' : ¬ kD j = kD k := fun e => h (kD_inj e)
      simpa [h, h'] using KV1.cons q (kv1_map r t)
theorem KV1.append : ∀ {kvs more : List (D × D)} {ks ms : List (Key × V)}, KV1 K H kvs ks → KV1 K H more ms → KV1 K H (kvs ++ more) (ks ++ ms)
  | _, _, _, _, .nil, s => s
  | _, _, _, _, .cons r t, s => .cons r (KV1.append t s)
theorem kv1_put {kvs : List (D × D)} {ks : List (Key × V)} (t : KV1 K H kvs ks) (k : Key) {e : D} {v : V} (r : Rep K H e v) : KV1 K H (putD kvs (kD k) e) (putK ks k v) := by
  unfold putD putK
  rw [valV_any, kv1_some t k]
  split
  · exact kv1_map r t
  · exact t.append (.cons r .nil)
theorem kv1_drop (k : Key) : ∀ {kvs : List (D × D)} {ks : List (Key × V)}, KV1 K H kvs ks → KV1 K H (dropD kvs (kD k)) (dropK ks k)
  | _, _, .nil => .nil
  | _, _, .cons (k := j) q t => by
    by_cases h : j = k
    · subst h
      simpa [dropD, dropK] using kv1_drop j t
    · have h' : ¬ kD j = kD k := fun e => h (kD_inj e)
      have := kv1_drop k t
      simpa [dropD, dropK, h, h'] using KV1.cons q this
theorem KV1.length : ∀ {kvs : List (D × D)} {ks : List (Key × V)}, KV1 K H kvs ks → kvs.length = ks.length
  | _, _, .nil => rfl
  | _, _, .cons _ t => by simp [KV1.length t]
theorem KV1.leaf : ∀ {kvs : List (D × D)} {ks : List (Key × V)}, KV1 K H kvs ks → ∀ kv ∈ kvs, isLeaf kv.1
  | _, _, .nil, _, h => by cases h
  | _, _, .cons (k := j) _ t, kv, h => by
    rcases List.mem_cons.mp h with rfl | h
    · exact ⟨j, rfl⟩
    · exact KV1.leaf t kv h
theorem kv1_merge : ∀ {more : List (D × D)} {ms : List (Key × V)}, KV1 K H more ms → ∀ {kvs : List (D × D)} {ks : List (Key × V)}, KV1 K H kvs ks → KV1 K H (mergeD kvs more) (mergeK ks ms)
  | _, _, .nil, _, _, s => s
  | _, _, .cons (k := j) r t, _, _, s => kv1_merge t (kv1_put s j r)
theorem KV2.length : ∀ {kvs : List (D × D)} {xs : List (NestedKey × Addr × Value)}, KV2 K H kvs xs → kvs.length = xs.length
  | _, _, .nil => rfl
  | _, _, .cons _ _ _ _ _ t => by simp [KV2.length t]
theorem KV2.tup : ∀ {kvs : List (D × D)} {xs : List (NestedKey × Addr × Value)}, KV2 K H kvs xs → ∀ kv ∈ kvs, isTup kv.1
  | _, _, .nil, _, h => by cases h
  | _, _, .cons _ _ _ _ _ t, kv, h => by
    rcases List.mem_cons.mp h with rfl | h
    · exact ⟨_, rfl⟩
    · exact KV2.tup t kv h
theorem kv2_val {x : D} {k : NestedKey} (hx : x.nk = some k) : ∀ {kvs : List (D × D)} {xs : List (NestedKey × Addr × Value)}, KV2 K H kvs xs → (lookD kvs x = none ∧ atKey xs k = none) ∨ ∃ e v p, lookD kvs x = some e ∧ atKey xs k = some p ∧ Rep K H e v ∧ RelV v p.2
  | _, _, .nil => .inl ⟨rfl, rfl⟩
  | _, _, .cons (k := j) (xs := ys) (b := b) (u := u) e _ _ r q t => by
    by_cases h : j = k
    · subst h
      have h' := nk_inj _ _ _ e hx
      exact .inr ⟨_, _, (b, u), by simp [lookD, h'], by simp [atKey], r, q⟩
    · have h' : ¬ D.tup ys = x := fun z => h (by rw [z, hx] at e; exact (Option.some.inj e).symm)
      have := kv2_val hx t
      simpa [lookD, atKey, List.find?_cons, h, h'] using this
theorem kv2_some {x : D} {k : NestedKey} (hx : x.nk = some k) {kvs : List (D × D)} {xs : List (NestedKey × Addr × Value)} (r : KV2 K H kvs xs) : (lookD kvs x).isSome = (atKey xs k).isSome := by
  rcases kv2_val hx r with ⟨a, b⟩ | ⟨e, v, p, a, b, _⟩ <;> rw [a, b] <;> rfl
theorem kv2_map {x : D} {k : NestedKey} {e : D} {v : V} {u : Value} (hx : x.nk = some k) (r : Rep K H e v) (ru : RelV v u) : ∀ {kvs : List (D × D)} {xs : List (NestedKey × Addr × Value)}, KV2 K H kvs xs →
    KV2 K H (kvs.map fun kv => if kv.1 = x then (kv.1, e) else kv) (xs.map (putAt k u))
  | _, _, .nil => .nil
  | _, _, .cons (k := j) (xs := ys) a b c q p t => by
    by_cases h : j = k
    · subst h
      have h' := nk_inj _ _ _ a hx
      subst h'
      simpa [putAt] using KV2.cons a b c r ru (kv2_map hx r ru t)
    · have h' : ¬ D.tup ys = x := fun z => h (by rw [z, hx] at a; exact (Option.some.inj a).symm)
      simpa [putAt, h, h'] using KV2.cons a b c q p (kv2_map hx r ru t)
theorem KV2.append : ∀ {kvs more : List (D × D)} {ks ms : List (NestedKey × Addr × Value)}, KV2 K H kvs ks → KV2 K H more ms → KV2 K H (kvs ++ more) (ks ++ ms)
  | _, _, _, _, .nil, s => s
  | _, _, _, _, .cons a b c r q t, s => .cons a b c r q (KV2.append t s)
theorem kv2_put {ys : List D} {k : NestedKey} {b : Addr} {e : D} {v : V} {u : Value} (hx : (D.tup ys).nk = some k) (hk : k.depth ≤ 8) (rb : Rep K H (.tup ys) (.ref b)) (r : Rep K H e v) (ru : RelV v u) {kvs : List (D × D)} {xs : List (NestedKey × Addr × Value)} (t : KV2 K H kvs xs) :
    KV2 K H (putD kvs (.tup ys) e) (storedH xs k b u) := by
  unfold putD storedH
  rw [kv2_some hx t]
  split
  · exact kv2_map hx r ru t
  · exact t.append (.cons hx hk rb r ru .nil)
theorem kv2_drop {x : D} {k : NestedKey} (hx : x.nk = some k) : ∀ {kvs : List (D × D)} {xs : List (NestedKey × Addr × Value)}, KV2 K H kvs xs → KV2 K H (dropD kvs x) (withoutH xs k)
  | _, _, .nil => .nil
  | _, _, .cons (k := j) (xs := ys) a b c q p t => by
    by_cases h : j = k
    · subst h
      have h' := nk_inj _ _ _ a hx
      subst h'
      simpa [dropD, withoutH] using kv2_drop hx t
    · have h' : ¬ D.tup ys = x := fun z => h (by rw [z, hx] at a; exact (Option.some.inj a).symm)
      have := kv2_drop hx t
      simpa [dropD, withoutH, h, h'] using KV2.cons a b c q p this
theorem kv2_merge : ∀ {more : List (D × D)} {ms : List (NestedKey × Addr × Value)}, KV2 K H more ms → ∀ {kvs : List (D × D)} {ks : List (NestedKey × Addr × Value)}, KV2 K H kvs ks → KV2 K H (mergeD kvs more) (storedAllH ks ms)
  | _, _, .nil, _, _, s => s
  | _, _, .cons a b c r q t, _, _, s => kv2_merge t (kv2_put a b c r q s)
end
section
variable {X : Cx} {pins : List (Addr × Obj)} {σ : L2.St} {H : Hp} {s : Shared} {S : Sto} {a : Addr} {kvs : List (D × D)}
theorem putD_length (kvs : List (D × D)) (k v : D) : (putD kvs k v).length ≤ kvs.length + 1 := by
  unfold putD; split <;> simp
theorem putD_ne (kvs : List (D × D)) (k v : D) : putD kvs k v ≠ [] := by
  unfold putD
  split
  · next h =>
    intro e
    rw [List.map_eq_nil_iff] at e
    subst e
    cases h
  · simp
/-- a dict whose keys are tuples, to the library -/
theorem dicH (I : Inv X pins σ H s) (hS : SRel (gOf X) S H) (e : S a = some (.dic kvs)) (ht : ∀ kv ∈ kvs, isTup kv.1) :
    ∃ xs, s.heap.DictOfH (nestedKind X.prog X.w) a xs ∧ KV2 (gOf X) H kvs xs ∧ (a == sysModules) = false ∧ xs.length ≤ sizeLine ∧ Mut (H a) := by
  rcases hS _ _ e with ⟨ks, e1, r⟩ | ⟨o, es, ep, xs, h1, h2, h3, h4, h5, h6, h7, h9, h8⟩
  · cases r with
    | nil =>
      obtain ⟨z, hd, vs, rel, o, es, ep, g1, g2, g3, g4, g5, g6⟩ := dk_of I.hok e1
      cases rel
      refine ⟨[], ⟨o, es, ep, g1, g2, g3, ?_, (fun _ h => by cases h), .nil⟩, .nil, hd, Nat.zero_le _, by rw [e1]; trivial⟩
      have := g5.length
      simpa using this
    | cons r t => exact absurd (ht _ List.mem_cons_self) (leaf_not_tup ⟨_, rfl⟩)
  · obtain ⟨g1, _, _⟩ := (show ObjOk X.prog X.w H s.heap a (.ext _) from I.hok a _ h1)
    refine ⟨xs, ⟨o, es, ep, g1, h2, h3, h4, ?_, h5⟩, h8, h6, h7, by rw [h1]; trivial⟩
    clear h4 h5 h7 h9 e ht
    induction h8 with
    | nil => intro _ h; cases h
    | cons a b c q p t ih =>
      intro x hx
      rcases List.mem_cons.mp hx with rfl | hx
      · exact ⟨c.nested I rfl a, b⟩
      · exact ih x hx
/-- .. behind a store -/
theorem dicH_back (I : Inv X pins σ H s) (hS : SRel (gOf X) S H) (mu : Mut (H a)) (hs : (a == sysModules) = false) {h' : Heap} {tk : Nat} {kvs' : List (D × D)} {xs' : List (NestedKey × Addr × Value)}
    (hd : h'.DictOfH (nestedKind X.prog X.w) a xs') (sb : ∀ b o, b ≠ a → s.heap.get? b = some o → h'.get? b = some o) (hl : xs'.length ≤ sizeLine) (ne : kvs' ≠ []) (r : ∀ H', Keep (gOf X) H H' → KV2 (gOf X) H' kvs' xs') :
    ∃ H', Inv X pins σ H' { s with heap := h', toks := tk } ∧ Keep (gOf X) H H' ∧ SRel (gOf X) (put S a (.dic kvs')) H' := by
  obtain ⟨o, es, ep, g1, g2, g3, g4, g5, g6⟩ := hd
  have kp : Keep (gOf X) H (upd H a (.ext fun h => h.get? a = some o)) := Keep.mut mu
  refine ⟨upd H a (.ext fun h => h.get? a = some o), I.write (x := a) (e := a) mu (.inl rfl) sb ⟨o, g1⟩ ⟨g1, ⟨o, g1⟩, fun h1 h2 p q => q _ p⟩, kp, ?_⟩
  exact hS.put kp (.inr ⟨o, es, ep, xs', upd_same, g2, g3, g4, g6, hs, hl, ne, r _ kp⟩)
theorem keyOk.leaf {x : D} {kvs : List (D × D)} (h : keyOk kvs x) (k : Key) (e : x = kD k) : ∀ kv ∈ kvs, isLeaf kv.1 := by
  rcases h with ⟨_, h⟩ | ⟨⟨xs, _, h, _⟩, _⟩
  · exact h
  · subst e; cases k <;> cases h
theorem leaf_dK (hS : SRel (gOf X) S H) (e : S a = some (.dic kvs)) (hl : ∀ kv ∈ kvs, isLeaf kv.1) : ∃ ks, H a = some (.dK ks) ∧ KV1 (gOf X) H kvs ks := by
  rcases hS _ _ e with h | ⟨o, es, ep, xs, h1, h2, h3, h4, h5, h6, h7, h9, h8⟩
  · exact h
  · cases h8 with
    | nil => exact absurd rfl h9
    | cons a b c q p t => exact absurd ⟨_, rfl⟩ (leaf_not_tup (hl _ List.mem_cons_self))
theorem unH {A : Around} (hu : A.units + 64 < cLine) : (nestedKind X.prog X.w).room A.in1 := by
  show A.in1.units + 8 < cLine
  have : A.in1.units = A.units + 1 := by simp [Around.in1_units]
  omega
/-- k in d -/
theorem vd_in {x : D} {v : V} {u : Value} {Q : Value → Shared → Prop} {E : Value → Shared → Prop} (hu : X.A.units + 64 < cLine) (I : Inv X pins σ H s) (hS : SRel (gOf X) S H) (e : S a = some (.dic kvs)) (ok : keyOk kvs x) (rx : Rep (gOf X) H x v) (ru : RelV v u)
    (h : ∀ s', Inv X pins σ H s' → Q (.bool (lookD kvs x).isSome) s') : wpAny (model X.prog X.w) X.A (compareOp .In u (.ref a)) Q E s := by
  rcases ok with ⟨⟨k, rfl⟩, hl⟩ | ⟨⟨xs, k, rfl, hk, hd⟩, ht⟩
  · obtain ⟨ks, e1, r⟩ := leaf_dK hS e hl
    rw [kv1_some r k] at h
    rw [rep_key rx] at ru
    exact d_in (by omega) I (DGet.k e1) ru h
  · obtain ⟨xs, dh, r, hs, _, _⟩ := dicH I hS e ht
    have hn := rx.nested I ru hk
    cases rx
    cases ru
    rw [kv2_some hk r] at h
    exact wpAny_in_heap (unH hu) ⟨hn, hd⟩ hs dh (h _ (I.tok _))
theorem vd_notIn {x : D} {v : V} {u : Value} {Q : Value → Shared → Prop} {E : Value → Shared → Prop} (hu : X.A.units + 64 < cLine) (I : Inv X pins σ H s) (hS : SRel (gOf X) S H) (e : S a = some (.dic kvs)) (ok : keyOk kvs x) (rx : Rep (gOf X) H x v) (ru : RelV v u)
    (h : ∀ s', Inv X pins σ H s' → Q (.bool (!(lookD kvs x).isSome)) s') : wpAny (model X.prog X.w) X.A (compareOp .NotIn u (.ref a)) Q E s := by
  rcases ok with ⟨⟨k, rfl⟩, hl⟩ | ⟨⟨xs, k, rfl, hk, hd⟩, ht⟩
  · obtain ⟨ks, e1, r⟩ := leaf_dK hS e hl
    rw [kv1_some r k] at h
    rw [rep_key rx] at ru
    exact d_notIn (by omega) I (DGet.k e1) ru h
  · obtain ⟨xs, dh, r, hs, _, _⟩ := dicH I hS e ht
    have hn := rx.nested I ru hk
    cases rx
    cases ru
    rw [kv2_some hk r] at h
    show wpAny _ _ (do return .bool (!(← contains (.ref a) (.ref _)))) Q E s
    exact wpAny_bind (wpAny_contains_heap (unH hu) ⟨hn, hd⟩ hs dh (wpAny_pure (h _ (I.tok _))))
/-- d[k], there -/
theorem vd_get {x y : D} {v : V} {u : Value} {Q : Value → Shared → Prop} {E : Value → Shared → Prop} (hu : X.A.units + 64 < cLine) (I : Inv X pins σ H s) (hS : SRel (gOf X) S H) (e : S a = some (.dic kvs)) (ok : keyOk kvs x) (rx : Rep (gOf X) H x v) (ru : RelV v u)
    (hy : lookD kvs x = some y) (h : ∀ w' z s', Inv X pins σ H s' → Rep (gOf X) H y z → RelV z w' → Q w' s') : wpAny (model X.prog X.w) X.A (getItem (.ref a) u) Q E s := by
  rcases ok with ⟨⟨k, rfl⟩, hl⟩ | ⟨⟨xs, k, rfl, hk, hd⟩, ht⟩
  · obtain ⟨ks, e1, r⟩ := leaf_dK hS e hl
    rw [rep_key rx] at ru
    rcases kv1_val r k with ⟨z, _⟩ | ⟨e', v', z1, z2, z3⟩
    · rw [hy] at z; cases z
    · rw [hy] at z1; cases z1
      exact d_getItem (by omega) I (v := v') (by rw [← z2]; exact DGet.k e1) ru fun w' s' I' r' => h w' v' s' I' z3 r'
  · obtain ⟨xs, dh, r, hs, _, _⟩ := dicH I hS e ht
    have hn := rx.nested I ru hk
    cases rx
    cases ru
    rcases kv2_val hk r with ⟨z, _⟩ | ⟨e', v', p, z1, z2, z3, z4⟩
    · rw [hy] at z; cases z
    · rw [hy] at z1; cases z1
      exact wpAny_getItem_heap (unH hu) ⟨hn, hd⟩ dh z2 (h _ _ _ (I.tok _) z3 z4)
/-- d[k] = y -/
theorem vd_put {x y : D} {v w : V} {u r : Value} {Q : Unit → Shared → Prop} {E : Value → Shared → Prop} (hu : X.A.units + 64 < cLine) (I : Inv X pins σ H s) (hS : SRel (gOf X) S H) (e : S a = some (.dic kvs)) (ok : keyOk kvs x) (rx : Rep (gOf X) H x v) (ru : RelV v u)
    (ry : Rep (gOf X) H y w) (rr : RelV w r) (hl : kvs.length < sizeLine) (h : ∀ H' s', Inv X pins σ H' s' → Keep (gOf X) H H' → SRel (gOf X) (put S a (.dic (putD kvs x y))) H' → Q () s') :
    wpAny (model X.prog X.w) X.A (setItem (.ref a) u r) Q E s := by
  rcases ok with ⟨⟨k, rfl⟩, hlf⟩ | ⟨⟨xs, k, rfl, hk, hd⟩, ht⟩
  · obtain ⟨ks, e1, q⟩ := leaf_dK hS e hlf
    rw [rep_key rx] at ru
    have kp : Keep (gOf X) H (upd H a (.dK (putK ks k w))) := Keep.mut (by rw [e1]; trivial)
    exact d_setItem (by omega) I (DPut.k e1 (by rw [← q.length]; exact hl)) ru rr fun s' I' => h _ s' I' kp (hS.put kp (.inl ⟨_, upd_same, (kv1_put q k ry).keep kp⟩))
  · obtain ⟨xs, dh, q, hs, hz, mu⟩ := dicH I hS e ht
    have hn := rx.nested I ru hk
    have rx' := rx
    cases rx
    cases ru
    refine wpAny_setItem_heap (hsz := hz) (unH hu) ⟨hn, hd⟩ dh fun h' dh' sb => ?_
    obtain ⟨H', I', kp, s'⟩ := dicH_back (tk := s.toks + (nestedKind X.prog X.w).draws k) (kvs' := putD kvs (.tup _) y) I hS mu hs dh' (fun b o hb z => (sb.2 b hb).trans z)
      (by
        have := (kv2_put hk hd rx' ry rr q).length
        have := putD_length kvs (D.tup ‹List D›) y
        omega) (putD_ne _ _ _) (fun H' kp => (kv2_put hk hd rx' ry rr q).keep kp)
    exact h H' _ I' kp s'
end
end DW
namespace DW
open PySem PySem.Spec PyProof.Rows L2

/-! ## 7. in, subscripts, built-ins -/
def inSeq (S : Sto) (x : D) (ys : List D) : Bool := ys.any fun z => eqD S z x
def aIn (neg : Bool) : DOp := fun x y S Q => match y with
  | .tup ys => eqOk S x ∧ D.cls 59 ys = true ∧ Q (.bl (neg != inSeq S x ys)) S
  | .ref p => (∃ ys, S p = some (.lst ys) ∧ eqOk S x ∧ D.cls 59 ys = true ∧ Q (.bl (neg != inSeq S x ys)) S) ∨ (∃ kvs, S p = some (.dic kvs) ∧ keyOk kvs x ∧ Q (.bl (neg != (lookD kvs x).isSome)) S)
  | .str z => ∃ a, x = .str a ∧ Q (.bl (neg != !(Builtin.Str.occurrences z a 0 z.length 1).isEmpty)) S
  | _ => False
def aIx : DOp := fun x y S Q => match x, y with
  | .tup xs, .int i => ∃ d, atI xs i = some d ∧ Q d S
  | .str z, .int i => z.length ≤ sizeLine ∧ ∃ c, atI z.cps.toList i = some c ∧ Q (.str ⟨#[c]⟩) S
  | .ref p, y => (∃ xs i d, (S p = some (.lst xs) ∨ S p = some (.rls xs)) ∧ y = .int i ∧ atI xs i = some d ∧ Q d S) ∨ (∃ kvs d, S p = some (.dic kvs) ∧ keyOk kvs y ∧ lookD kvs y = some d ∧ Q d S)
  | _, _ => False
def cutD (xs : List D) (lo hi : Option Int) : List D := (xs.drop (HT.sIx xs.length 0 lo)).take (HT.sIx xs.length xs.length hi - HT.sIx xs.length 0 lo)
def aSl (x : D) (lo hi : Option Int) (S : Sto) (Q : DQ) : Prop := match x with
  | .tup xs => Q (.tup (cutD xs lo hi)) S
  | .str z => z.length ≤ sizeLine ∧ Q (.str (cutS z lo hi)) S
  | .ref p => ∃ xs, (S p = some (.lst xs) ∨ S p = some (.rls xs)) ∧ ∀ r, S r = none → Q (.ref r) (put S r (.lst (cutD xs lo hi)))
  | _ => False
section
variable {X : Cx}
theorem lst_rd {K : G} {S : Sto} {H : Hp} {p : Addr} {xs : List D} (hS : SRel K S H) (e : S p = some (.lst xs) ∨ S p = some (.rls xs)) : ∃ vs, SqL K.K H p vs ∧ Reps K H xs vs := by
  rcases e with e | e
  · obtain ⟨vs, f, r⟩ := hS _ _ e; exact ⟨vs, SqL.of f, r⟩
  · obtain ⟨vs, f, r⟩ := hS _ _ e; exact ⟨vs, .inl f, r⟩
theorem any_py (q : PyData) : ∀ (ys : List D) (ps : List PyData), D.pys ys = some ps → (ps.any fun z => PyData.eqv z q) = ys.any fun y => match y.py with | some p => PyData.eqv p q | none => false
  | [], _, e => by cases e; rfl
  | y :: ys, _, e => by
    simp only [D.pys] at e
    split at e
    · next a b h1 h2 =>
      cases e
      simp only [List.any_cons, h1, any_py q ys b h2]
    · cases e
theorem inSeq_py {S : Sto} {x : D} {q : PyData} {ys : List D} {ps : List PyData} (hx : toP S x = some q) (hc : D.cls 59 ys = true) (e : D.pys ys = some ps) : inSeq S x ys = ps.any fun z => PyData.eqv z q := by
  rw [any_py q ys ps e]
  unfold inSeq
  rw [D.cls_all] at hc
  have hc' := List.all_eq_true.mp hc
  clear e hc
  induction ys with
  | nil => rfl
  | cons y ys ih =>
    simp only [List.any_cons]
    rw [ih fun z hz => hc' z (List.mem_cons_of_mem _ hz)]
    congr 1
    unfold eqD
    rw [toP_cl (hc' y List.mem_cons_self), hx]
    obtain ⟨p, e, _⟩ := cl_py _ _ (hc' y List.mem_cons_self)
    rw [e]
theorem od_in_tup {neg : Bool} (hu : X.A.units + 64 < cLine) {pins : List (Addr × Obj)} {s : Shared} {σ : L2.St} {H : Hp} {v u : Value} {Q : VK} {S : Sto} {x : D} {xv : V} {ys : List D} {vs : List V} {a : Addr} (I : Inv X pins σ H s) (hS : SRel (gOf X) S H) (rx : Rep (gOf X) H x xv) (rv : RelV xv v)
    (ra : RelV (.ref a) u) (ha : SqL X.K H a vs ∨ SqT X.K H a vs) (ry : Reps (gOf X) H ys vs) (h1 : eqOk S x) (hc : D.cls 59 ys = true) (h : Q (.bl (neg != inSeq S x ys)) H) :
    wpAny (model X.prog X.w) X.A (compareOp (if neg then .NotIn else .In) v u) (EP X pins σ Q) X.xe s := by
  obtain ⟨q, e, hq⟩ := h1
  obtain ⟨ps, e2, c2, d2⟩ := cls_py _ _ hc
  obtain ⟨bs, r1⟩ := Dp.reads I q xv v (toP_dp hS rx e) rv
  rw [inSeq_py e hc e2] at h
  cases (show u = Value.ref a from ra)
  have sq := SeqAt.canLay_of_shaped hq
  have dq := SeqAt.depth_of_shaped hq
  obtain ⟨its, rv', hobj, as, h4⟩ : ∃ its : List Value, Vals vs its ∧ (PlainL s.heap a its.toArray ∨ IsTup s.heap a its.toArray) ∧ ∃ as, ReadsAll s.heap its ps as := by
    rcases ha with ha | ha
    · obtain ⟨its, rv', p, hz⟩ := I.list ha
      exact ⟨its, rv', .inl p, Dp.readsAll I ps _ its (ry.dp e2) rv'⟩
    · obtain ⟨its, rv', p, hz⟩ := I.tuple ha
      exact ⟨its, rv', .inr p, Dp.readsAll I ps _ its (ry.dp e2) rv'⟩
  have hroom : X.A.units + 1 + min (PyData.depthAll ps) q.depth < cLine := by
    have := Nat.min_le_left (PyData.depthAll ps) q.depth
    omega
  have hev : ∀ w ∈ its.toArray, SeqAt.EqAt X.A.in1 s w v (PyData.eqv (SeqAt.readOf s.heap w) q) :=
    SeqAt.items_eqAt (A := X.A) (vs := its.toArray) (show ReadsAll s.heap its.toArray.toList ps as from h4) r1 c2 sq hroom
  have hmap : its.map (SeqAt.readOf s.heap) = ps := SeqAt.readsAll_map ps its as c2 h4
  have hany : its.toArray.any (fun u => PyData.eqv (SeqAt.readOf s.heap u) q) = ps.any fun z => PyData.eqv z q := by
    rw [← hmap, List.any_map]
    simp [Function.comp_def]
  cases neg with
  | false =>
    rw [if_neg Bool.false_ne_true]
    have fin : EP X pins σ Q (.bool (its.toArray.any (fun u => PyData.eqv (SeqAt.readOf s.heap u) q))) s := ⟨.bl _, H, I, rfl, by rw [hany]; simpa using h⟩
    rcases hobj with p | p
    · exact SeqAt.in_listAt _ p.isList hev fin
    · exact SeqAt.in_tupleAt _ p hev fin
  | true =>
    rw [if_pos rfl]
    have fin : EP X pins σ Q (.bool (!its.toArray.any (fun u => PyData.eqv (SeqAt.readOf s.heap u) q))) s := ⟨.bl _, H, I, rfl, by rw [hany]; simpa using h⟩
    rcases hobj with p | p
    · exact SeqAt.notIn_listAt _ p.isList hev fin
    · exact SeqAt.notIn_tupleAt _ p hev fin
theorem od_inG (neg : Bool) (hu : X.A.units + 64 < cLine) : OpR X (compareOp (if neg then .NotIn else .In)) (upO (gOf X) (aIn neg)) := by
  intro pins s σ H x y v u Q I rx ry ⟨dx, dy, S, Q', hS, r1, r2, h, k⟩
  cases r2 with
  | tup ht rs =>
    obtain ⟨h1, h2, h⟩ := h
    exact od_in_tup hu I hS r1 rx ry (.inr (SqT.of ht)) rs h1 h2 (k _ _ H S Keep.refl hS (.bl _) h)
  | ref p =>
    rcases h with ⟨ys, e, h1, h2, h⟩ | ⟨kvs, e, ok, h⟩
    · obtain ⟨vs, f, rs⟩ := hS _ _ e
      exact od_in_tup hu I hS r1 rx ry (.inl (SqL.of f)) rs h1 h2 (k _ _ H S Keep.refl hS (.bl _) h)
    · cases (show u = Value.ref p from ry)
      cases neg with
      | false => exact vd_in hu I hS e ok r1 rx fun s' I' => ⟨.bl _, H, I', rfl, by simpa using k _ _ H S Keep.refl hS (.bl _) h⟩
      | true => exact vd_notIn hu I hS e ok r1 rx fun s' I' => ⟨.bl _, H, I', rfl, by simpa using k _ _ H S Keep.refl hS (.bl _) h⟩
  | str z =>
    obtain ⟨a, rfl, h⟩ := h
    cases r1
    cases neg with
    | false => exact op_in_str pins s σ H _ _ v u Q I rx ry ⟨_, _, rfl, rfl, by simpa using k _ _ H S Keep.refl hS (.bl _) h⟩
    | true => exact op_notIn_str pins s σ H _ _ v u Q I rx ry ⟨_, _, rfl, rfl, by simpa using k _ _ H S Keep.refl hS (.bl _) h⟩
  | non => exact h.elim
  | bl _ => exact h.elim
  | int _ => exact h.elim
  | ty _ => exact h.elim
theorem od_in (hu : X.A.units + 64 < cLine) : OpR X (compareOp .In) (upO (gOf X) (aIn false)) := od_inG false hu
theorem od_notIn (hu : X.A.units + 64 < cLine) : OpR X (compareOp .NotIn) (upO (gOf X) (aIn true)) := od_inG true hu

/-! subscripts -/
theorem subTail {value slice : Expr} {s : Shared} {E : Value → Shared → Prop} {o i : Value} {T id : String} {Q : Value → Shared → Prop} (ty : s.TypeIs o T) (look : typeLookup (.type T) "__getitem__" = pure (some (.builtin id)))
    (h : wpAny (model X.prog X.w) X.A (getItem o i) Q E s) (plain : subscripted slice false o i = operate [o, i] (getItem o i)) : wpAny (model X.prog X.w) X.A (subscriptTail value slice o i) Q E s := by
  have body : wpAny (model X.prog X.w) X.A (subscripted slice false o i) (fun r t => wpAny (model X.prog X.w) X.A (letTemporaryGo value o r >>= fun _ => pure r) Q E t) E s := by
    rw [plain]
    exact wpAny_operating (thn h fun r t q => wpAny_bind (wpAny_letTemporaryGo (wpAny_pure q)))
  unfold subscriptTail
  refine wpAny_bind ?_
  rw [getitemInPython_of_ne ty.not_modules]
  exact wpAny_bind (wpAny_specialOf ty look (by first | exact wpAny_bind body | exact wpAny_pure (wpAny_bind body) | exact wpAny_bind (wpAny_pure (wpAny_bind body))))
theorem reps_atI {K : G} {H : Hp} {ds : List D} {vs : List V} (r : Reps K H ds vs) {i : Int} {d : D} (e : atI ds i = some d) : ∃ v, atI vs i = some v ∧ Rep K H d v := by
  unfold atI at e ⊢
  rw [← r.length]
  simp only [Option.bind_eq_some_iff] at e
  obtain ⟨j, e1, e2⟩ := e
  obtain ⟨v, f, q⟩ := r.get e2
  exact ⟨v, by rw [e1]; exact f, q⟩
theorem ix_all (hu : X.A.units + 64 < cLine) : IxR X (upO (gOf X) aIx) := by
  intro value slice pins s σ H x y v u Q I rx ry ⟨dx, dy, S, Q', hS, r1, r2, h, k⟩ hs
  cases r1 with
  | tup ht rs =>
    cases r2 <;> first | exact h.elim | skip
    obtain ⟨d, e, h⟩ := h
    obtain ⟨w, f, q⟩ := reps_atI rs e
    exact ix_tup value slice pins s σ H _ _ v u Q I rx ry ⟨_, _, _, _, rfl, rfl, SqT.of ht, f, k _ _ H S Keep.refl hS q h⟩ hs
  | str z =>
    cases r2 <;> first | exact h.elim | skip
    obtain ⟨hz, c, e, h⟩ := h
    exact ix_str value slice pins s σ H _ _ v u Q I rx ry ⟨_, _, _, rfl, rfl, hz, e, k _ _ H S Keep.refl hS (.str _) h⟩ hs
  | ref p =>
    rcases h with ⟨xs, i, d, e, rfl, he, h⟩ | ⟨kvs, d, e, ok, he, h⟩
    · cases r2
      obtain ⟨vs, f, rs⟩ := lst_rd hS e
      obtain ⟨w, g, q⟩ := reps_atI rs he
      exact ix_list value slice pins s σ H _ _ v u Q I rx ry ⟨_, _, _, _, rfl, rfl, f, g, k _ _ H S Keep.refl hS q h⟩ hs
    · cases (show v = Value.ref p from rx)
      have ty : s.TypeIs (.ref p) "dict" := by
        rcases hS _ _ e with ⟨ks, e1, r⟩ | ⟨o, es, ep, xs, h1, h2, h3, _⟩
        · obtain ⟨_, _, vs, _, o, es, ep, g1, g2, _⟩ := dk_of I.hok e1
          exact ⟨o, g1, g2.1⟩
        · obtain ⟨g1, _, _⟩ := (show ObjOk X.prog X.w H s.heap p (.ext _) from I.hok p _ h1)
          exact ⟨o, g1, h2.1⟩
      exact subTail ty PySem.F.slot_dict_getitem.lookup (vd_get hu I hS e ok r2 ry he fun w' z s' I' r' q' => ⟨z, H, I', q', k _ _ H S Keep.refl hS r' h⟩) hs
  | non => exact h.elim
  | bl _ => exact h.elim
  | int _ => exact h.elim
  | ty _ => exact h.elim
end
end DW
namespace DW
open PySem PySem.Spec PyProof.Rows L2

/-! slices -/
abbrev DP := REnv → Sto → (Option Int → Sto → Prop) → Prop
def upP (K : G) (t : DP) : L2.TO := fun σ H Q => ∃ ρ S Q', ERel K H ρ σ ∧ SRel K S H ∧ t ρ S Q' ∧ ∀ o H' S', Keep K H H' → SRel K S' H' → Q' o S' → Q o H'
def dNoP : DP := fun _ S Q => Q none S
def dPart (t : DE) : DP := fun ρ S Q => t ρ S fun x S1 => ∃ i, x = .int i ∧ Q (some i) S1
def dSl (te : DE) (tl th : DP) : DE := fun ρ S Q => te ρ S fun x S1 => tl ρ S1 fun l S2 => th ρ S2 fun u S3 => aSl x l u S3 Q
section
variable {X : Cx} {e : Expr} {te : DE} {pos p2 : Pos}
theorem PO.imp {o : Option Expr} {t t' : L2.TO} (h : PO X o t) (i : ∀ σ H Q, t' σ H Q → t σ H Q) : PO X o t' := ⟨fun pins s σ H Q I q => h.run pins s σ H Q I (i _ _ _ q)⟩
theorem pd_none : PO X none (upP (gOf X) dNoP) := PO.imp po_none fun σ H Q ⟨ρ, S, Q', hE, hS, q, k⟩ => k _ H S Keep.refl hS q
theorem pd_some (h : ED X e te) : PO X (some e) (upP (gOf X) (dPart te)) := PO.imp (po_some h) fun σ H Q ⟨ρ, S, Q', hE, hS, q, k⟩ => ⟨ρ, S, _, hE, hS, q, fun v d H' S' k' s' r' ⟨i, e, q'⟩ => by
  subst e; cases r'; exact ⟨i, rfl, k _ H' S' k' s' q'⟩⟩
theorem sl_all : SlR X fun x lo hi H Q => ∃ dx S Q', SRel (gOf X) S H ∧ Rep (gOf X) H dx x ∧ aSl dx lo hi S Q' ∧ ∀ v d H' S', Keep (gOf X) H H' → SRel (gOf X) S' H' → Rep (gOf X) H' d v → Q' d S' → Q v H' := by
  intro pins s σ H x v vl vu lo hi sl Q I rx hs pl pu ⟨dx, S, Q', hS, r, h, k⟩
  have cut : ∀ {ds : List D} {vs : List V}, Reps (gOf X) H ds vs → Reps (gOf X) H (cutD ds lo hi) (cutV vs lo hi) := fun {ds vs} q => by
    unfold cutD cutV
    rw [q.length]
    exact (q.drop _).take _
  cases r with
  | @tup a' vs' ds' ht rs =>
    refine sl_tupA pins s σ H _ v vl vu lo hi sl Q I rx hs pl pu ⟨_, _, rfl, SqT.of ht, fun hw => ?_, fun _ p hp => ?_⟩
    · have : cutD ds' lo hi = ds' := by
        unfold cutD
        rw [rs.length, hw.1, hw.2, List.drop_zero, Nat.sub_zero, ← rs.length, List.take_length]
      exact k _ _ H S Keep.refl hS (.tup ht (by rw [this]; exact rs)) h
    · exact k _ _ _ S (Keep.new hp) (hS.new hp) (.tup upd_same ((cut rs).keep (Keep.new hp))) h
  | str z => exact sl_str pins s σ H _ v vl vu lo hi sl Q I rx hs pl pu ⟨_, rfl, h.1, k _ _ H S Keep.refl hS (.str _) h.2⟩
  | ref p =>
    obtain ⟨xs, e, h⟩ := h
    obtain ⟨vs, f, rs⟩ := lst_rd hS e
    refine sl_list pins s σ H _ v vl vu lo hi sl Q I rx hs pl pu ⟨_, _, rfl, f, fun p hp => ?_⟩
    exact k _ _ _ _ (Keep.new hp) (hS.putNew hp (.ofLst upd_same ((cut rs).keep (Keep.new hp)))) (.ref p) (h p (hS.free hp))
  | non => exact h.elim
  | bl _ => exact h.elim
  | int _ => exact h.elim
  | ty _ => exact h.elim
theorem ed_slice {lo hi : Option Expr} {tl th : DP} (he : ED X e te) (hl : PO X lo (upP (gOf X) tl)) (hu : PO X hi (upP (gOf X) th)) : ED X (.Subscript e (.Slice lo hi none p2) pos) (dSl te tl th) :=
  PE.imp (pe_slice sl_all he hl hu) fun σ H Q ⟨ρ, S, Q', hE, hS, q, k⟩ => ⟨ρ, S, _, hE, hS, q, fun v d H1 S1 k1 s1 r1 q1 => ⟨ρ, S1, _, hE.keep k1, s1, q1, fun o H2 S2 k2 s2 q2 => ⟨ρ, S2, _, hE.keep (k1.trans k2), s2, q2, fun o' H3 S3 k3 s3 q3 =>
    ⟨d, S3, Q', s3, (r1.keep k2).keep k3, q3, fun v d H' S' k' => k v d H' S' (((k1.trans k2).trans k3).trans k')⟩⟩⟩⟩
theorem ed_ix {a b : Expr} {ta tb : DE} (hu : X.A.units + 64 < cLine) (ha : ED X a ta) (hb : ED X b tb) (hs : PlainIx b) : ED X (.Subscript a b pos) (dOp aIx ta tb) :=
  PE.imp (pe_ix (ix_all hu) ha hb hs) fun σ H Q ⟨ρ, S, Q', hE, hS, h, k⟩ => upE.two hE hS h fun x y dx dy H2 S2 k2 s2 r1 r2 q2 => ⟨dx, dy, S2, Q', s2, r1, r2, q2, fun v d H' S' k' => k v d H' S' (k2.trans k')⟩
end

/-! ### built-ins by data -/
def tyD (S : Sto) : D → Option String
  | .non => some "NoneType"
  | .bl _ => some "bool"
  | .int _ => some "int"
  | .str _ => some "str"
  | .tup _ => some "tuple"
  | .ref a => match S a with
    | some (.lst _) => some "list"
    | some (.rls _) => some "list"
    | some (.dic _) => some "dict"
    | none => none
  | .ty _ => none
def isIt (t T : String) : Bool := t == T || (t == "bool" && T == "int")
def minI : List Int → Int
  | [] => 0
  | x :: xs => xs.foldl min x
def maxI : List Int → Int
  | [] => 0
  | x :: xs => xs.foldl max x
def aLen : DC := fun xs S Q => match xs with
  | [.tup ys] => Q (.int ys.length) S
  | [.str z] => z.length ≤ sizeLine ∧ Q (.int z.length) S
  | [.ref p] => match S p with
    | some (.lst ys) => Q (.int ys.length) S
    | some (.rls ys) => Q (.int ys.length) S
    | some (.dic kvs) => Q (.int kvs.length) S
    | none => False
  | _ => False
def aIsI : DC := fun xs S Q => match xs with
  | [x, .ty T] => (T = "int" ∨ T = "bool" ∨ T = "str" ∨ T = "tuple" ∨ T = "list" ∨ T = "dict") ∧ ∃ t, tyD S x = some t ∧ Q (.bl (isIt t T)) S
  | _ => False
/-- all(list): the list is thrown away (d) or stands -/
def aAll (d : Bool) : DC := fun xs S Q => ∃ (p : Addr) (bs : List Bool), xs = [.ref p] ∧ S p = some (.lst (bs.map .bl)) ∧ Q (.bl (bs.all id)) (if d then del S p else S)
def aAny (d : Bool) : DC := fun xs S Q => ∃ (p : Addr) (bs : List Bool), xs = [.ref p] ∧ S p = some (.lst (bs.map .bl)) ∧ Q (.bl (bs.any id)) (if d then del S p else S)
def aSum (d : Bool) : DC := fun xs S Q => ∃ (p : Addr) (ns : List Int), xs = [.ref p] ∧ S p = some (.lst (ns.map .int)) ∧ Q (.int ns.sum) (if d then del S p else S)
def aMin (d : Bool) : DC := fun xs S Q => (∃ (p : Addr) (ns : List Int), xs = [.ref p] ∧ S p = some (.lst (ns.map .int)) ∧ ns ≠ [] ∧ Q (.int (minI ns)) (if d then del S p else S)) ∨ ∃ i j, xs = [.int i, .int j] ∧ Q (.int (min i j)) S
def aMax (d : Bool) : DC := fun xs S Q => (∃ (p : Addr) (ns : List Int), xs = [.ref p] ∧ S p = some (.lst (ns.map .int)) ∧ ns ≠ [] ∧ Q (.int (maxI ns)) (if d then del S p else S)) ∨ ∃ i j, xs = [.int i, .int j] ∧ Q (.int (max i j)) S
def aAbs : DC := fun xs S Q => ∃ i, xs = [.int i] ∧ Q (.int (i.natAbs : Int)) S
def aInt : DC := fun xs S Q => ∃ i, xs = [.int i] ∧ Q (.int i) S
def aTupl (d : Bool) : DC := fun xs S Q => (∃ ys, xs = [.tup ys] ∧ Q (.tup ys) S) ∨ ∃ p ys, xs = [.ref p] ∧ (S p = some (.lst ys) ∨ S p = some (.rls ys)) ∧ Q (.tup ys) (if d then del S p else S)
def aList : DC := fun xs S Q => (∃ ys, xs = [.tup ys] ∧ ∀ l, S l = none → Q (.ref l) (put S l (.lst ys))) ∨
  (∃ p ys, xs = [.ref p] ∧ (S p = some (.lst ys) ∨ S p = some (.rls ys)) ∧ ∀ l, S l = none → Q (.ref l) (put S l (.lst ys))) ∨
  (∃ p kvs, xs = [.ref p] ∧ S p = some (.dic kvs) ∧ ∀ l, S l = none → Q (.ref l) (put S l (.lst (kvs.map (·.1)))))
section
variable {X : Cx}
theorem reps_one {K : G} {H : Hp} {d : D} {vs : List V} (r : Reps K H [d] vs) : ∃ v, vs = [v] ∧ Rep K H d v := by
  cases r with
  | cons a t => cases t; exact ⟨_, rfl, a⟩
theorem reps_two {K : G} {H : Hp} {d e : D} {vs : List V} (r : Reps K H [d, e] vs) : ∃ v w, vs = [v, w] ∧ Rep K H d v ∧ Rep K H e w := by
  cases r with
  | cons a t => obtain ⟨w, rfl, b⟩ := reps_one t; exact ⟨_, w, rfl, a, b⟩
theorem SRel.del {K : G} {S : Sto} {H : Hp} {p : Addr} (R : SRel K S H) : SRel K (DW.del S p) H := R.sub Sub.del
theorem SRel.delIf {K : G} {S : Sto} {H : Hp} {p : Addr} {d : Bool} (R : SRel K S H) : SRel K (if d then DW.del S p else S) H := by
  cases d
  · exact R
  · exact R.del
/-- one list of plain things handed to a built-in -/
theorem one_ref {K : G} {S : Sto} {H : Hp} {p : Addr} {vs : List V} {ys : List D} (hS : SRel K S H) (r : Reps K H [.ref p] vs) (e : S p = some (.lst ys)) : vs = [.ref p] ∧ ∃ ws, H p = some (.lst ws) ∧ Reps K H ys ws := by
  obtain ⟨v, rfl, a⟩ := reps_one r
  cases a
  obtain ⟨ws, f, rs⟩ := hS _ _ e
  exact ⟨rfl, ws, f, rs⟩
theorem cd_len : CallR X (.builtin "len") (upC (gOf X) aLen) := by
  intro pins s σ H xs us Q I r ⟨ds, S, Q', hS, rs, h, k⟩
  unfold aLen at h
  split at h
  · obtain ⟨v, rfl, a⟩ := reps_one rs
    cases a with
    | tup ht rs' => exact call_len pins s σ H _ us Q I r ⟨_, _, rfl, .inr ⟨_, SqT.of ht, rfl⟩, by rw [← rs'.length]; exact k _ _ H S Keep.refl hS (.int _) h⟩
  · obtain ⟨v, rfl, a⟩ := reps_one rs
    cases a
    exact call_len pins s σ H _ us Q I r ⟨_, _, rfl, ⟨h.1, rfl⟩, k _ _ H S Keep.refl hS (.int _) h.2⟩
  · obtain ⟨v, rfl, a⟩ := reps_one rs
    cases a
    split at h
    · next e =>
      obtain ⟨ws, f, q⟩ := lst_rd hS (.inl e)
      exact call_len pins s σ H _ us Q I r ⟨_, _, rfl, .inl ⟨_, f, rfl⟩, by rw [← q.length]; exact k _ _ H S Keep.refl hS (.int _) h⟩
    · next e =>
      obtain ⟨ws, f, q⟩ := lst_rd hS (.inr e)
      exact call_len pins s σ H _ us Q I r ⟨_, _, rfl, .inl ⟨_, f, rfl⟩, by rw [← q.length]; exact k _ _ H S Keep.refl hS (.int _) h⟩
    · next kvs e =>
      rcases hS _ _ e with ⟨ks, e1, q⟩ | ⟨o, es, ep, ys, h1, h2, h3, h4, h5, h6, h7, h9, h8⟩
      · exact call_lenD pins s σ H _ us Q I r ⟨_, _, rfl, e1, by rw [← q.length]; exact k _ _ H S Keep.refl hS (.int _) h⟩
      · obtain ⟨xs', dh, q', hs', hz, _⟩ := dicH I hS e h8.tup
        cases r with
        | cons r1 r2 =>
          cases r2
          cases r1
          refine call_len_dictH hs' dh (by rw [sizeLine_eq] at hz; omega) ?_
          rw [← q'.length]
          exact ⟨.int _, H, I.tok _, ⟨_, rfl⟩, k _ _ H S Keep.refl hS (.int _) h⟩
    · exact h.elim
  · exact h.elim
theorem cd_isI : CallR X (.builtin "isinstance") (upC (gOf X) aIsI) := by
  intro pins s σ H xs us Q I r ⟨ds, S, Q', hS, rs, h, k⟩
  unfold aIsI at h
  split at h
  · next x T =>
    obtain ⟨hT, t, e, h⟩ := h
    obtain ⟨v, c, rfl, a, b⟩ := reps_two rs
    cases b
    have kit : PySem.W.kitOne X.K (.type t) (.type T) = some (isIt t T) := by
      have ht : t = "NoneType" ∨ t = "bool" ∨ t = "int" ∨ t = "str" ∨ t = "tuple" ∨ t = "list" ∨ t = "dict" := by
        clear h
        cases x <;> simp only [tyD] at e
        all_goals try (split at e)
        all_goals cases e
        all_goals simp
      rcases ht with rfl | rfl | rfl | rfl | rfl | rfl | rfl <;> rcases hT with rfl | rfl | rfl | rfl | rfl | rfl <;> exact kit_ty (by decide +kernel)
    have go : ∀ ty : TyX X.K H v (.type t), wpAny (model X.prog X.w) X.A (call (.builtin "isinstance") us) (EP X pins σ Q) X.xe s := fun ty =>
      call_isi pins s σ H _ us Q I r ⟨_, _, _, _, _, rfl, .ty T, ty, kit, k _ _ H S Keep.refl hS (.bl _) h⟩
    cases a with
    | non => cases e; exact go (.base .non)
    | bl y => cases e; exact go (.base (.bl y))
    | int y => cases e; exact go (.base (.int y))
    | str y => cases e; exact go (.base (.str y))
    | tup ht _ => cases e; exact go (.base (.tup ht))
    | ty n => cases e
    | ref p =>
      simp only [tyD] at e
      split at e
      · next z => cases e; obtain ⟨vs, f, _⟩ := hS _ _ z; exact go (.base (.lst f))
      · next z =>
        cases e
        obtain ⟨vs, f | ⟨o, f⟩, _⟩ := hS _ _ z
        · exact go (.base (.lst f))
        · exact go (.base (.frz f))
      · next z =>
        cases e
        rcases hS _ _ z with ⟨ks, f, _⟩ | ⟨o, es, ep, xs, h1, h2, _⟩
        · exact go (.base (.dK f))
        · obtain ⟨g1, _, _⟩ := (show ObjOk X.prog X.w H s.heap p (.ext _) from I.hok p _ h1)
          obtain ⟨u1, u2, rfl, r1, r2⟩ := vals2 r
          cases r1
          cases r2
          exact PySem.W.kia_one PySem.W.kitx_dict I.kIn ⟨o, g1, h2.1⟩ kit (fun z => nomatch z) fun tk => ⟨.bl _, H, I.tok tk, rfl, k _ _ H S Keep.refl hS (.bl _) h⟩
      · cases e
  · exact h.elim
theorem cd_all (d : Bool) (hc : X.calm = true) : CallR X (.builtin "all") (upC (gOf X) (aAll d)) := by
  rintro pins s σ H xs us Q I r ⟨ds, S, Q', hS, rs, ⟨p, bs, rfl, e, h⟩, k⟩
  obtain ⟨rfl, ws, f, q⟩ := one_ref hS rs e
  rw [q.bls] at f
  exact cr_all hc pins s σ H _ us Q I r ⟨_, _, rfl, SqL.of f, k _ _ H _ Keep.refl hS.delIf (.bl _) h⟩
theorem cd_any (d : Bool) (hc : X.calm = true) : CallR X (.builtin "any") (upC (gOf X) (aAny d)) := by
  rintro pins s σ H xs us Q I r ⟨ds, S, Q', hS, rs, ⟨p, bs, rfl, e, h⟩, k⟩
  obtain ⟨rfl, ws, f, q⟩ := one_ref hS rs e
  rw [q.bls] at f
  exact cr_any hc pins s σ H _ us Q I r ⟨_, _, rfl, SqL.of f, k _ _ H _ Keep.refl hS.delIf (.bl _) h⟩
theorem cd_sum (d : Bool) (hc : X.calm = true) : CallR X (.builtin "sum") (upC (gOf X) (aSum d)) := by
  rintro pins s σ H xs us Q I r ⟨ds, S, Q', hS, rs, ⟨p, bs, rfl, e, h⟩, k⟩
  obtain ⟨rfl, ws, f, q⟩ := one_ref hS rs e
  rw [q.ints] at f
  exact cr_sum hc pins s σ H _ us Q I r ⟨_, _, rfl, SqL.of f, k _ _ H _ Keep.refl hS.delIf (.int _) h⟩
theorem foldl_min (xs : List Int) : ∀ a : Int, xs.foldl min a ≤ a ∧ (∀ y ∈ xs, xs.foldl min a ≤ y) ∧ (xs.foldl min a = a ∨ xs.foldl min a ∈ xs) := by
  induction xs with
  | nil => intro a; exact ⟨Int.le_refl _, (fun _ h => by cases h), .inl rfl⟩
  | cons x xs ih =>
    intro a
    obtain ⟨h1, h2, h3⟩ := ih (min a x)
    simp only [List.foldl_cons]
    refine ⟨by omega, fun y hy => ?_, ?_⟩
    · rcases List.mem_cons.mp hy with rfl | hy
      · omega
      · exact h2 y hy
    · rcases h3 with h3 | h3
      · by_cases z : a ≤ x
        · left; rw [h3]; omega
        · right; rw [h3, Int.min_eq_right (by omega)]; exact List.mem_cons_self
      · right; exact List.mem_cons_of_mem _ h3
theorem foldl_max (xs : List Int) : ∀ a : Int, a ≤ xs.foldl max a ∧ (∀ y ∈ xs, y ≤ xs.foldl max a) ∧ (xs.foldl max a = a ∨ xs.foldl max a ∈ xs) := by
  induction xs with
  | nil => intro a; exact ⟨Int.le_refl _, (fun _ h => by cases h), .inl rfl⟩
  | cons x xs ih =>
    intro a
    obtain ⟨h1, h2, h3⟩ := ih (max a x)
    simp only [List.foldl_cons]
    refine ⟨by omega, fun y hy => ?_, ?_⟩
    · rcases List.mem_cons.mp hy with rfl | hy
      · omega
      · exact h2 y hy
    · rcases h3 with h3 | h3
      · by_cases z : x ≤ a
        · left; rw [h3]; omega
        · right; rw [h3, Int.max_eq_right (by omega)]; exact List.mem_cons_self
      · right; exact List.mem_cons_of_mem _ h3
theorem minI_is {ns : List Int} {m : Int} (h : m ∈ ns) (h2 : ∀ y ∈ ns, m ≤ y) : m = minI ns := by
  cases ns with
  | nil => cases h
  | cons x xs =>
    obtain ⟨a, b, c⟩ := foldl_min xs x
    have h3 : minI (x :: xs) ≤ m := by
      rcases List.mem_cons.mp h with rfl | h
      · exact a
      · exact b m h
    have h4 : m ≤ minI (x :: xs) := h2 _ (by rcases c with c | c
                                             · show xs.foldl min x ∈ _; rw [c]; exact List.mem_cons_self
                                             · exact List.mem_cons_of_mem _ c)
    omega
theorem maxI_is {ns : List Int} {m : Int} (h : m ∈ ns) (h2 : ∀ y ∈ ns, y ≤ m) : m = maxI ns := by
  cases ns with
  | nil => cases h
  | cons x xs =>
    obtain ⟨a, b, c⟩ := foldl_max xs x
    have h3 : m ≤ maxI (x :: xs) := by
      rcases List.mem_cons.mp h with rfl | h
      · exact a
      · exact b m h
    have h4 : maxI (x :: xs) ≤ m := h2 _ (by rcases c with c | c
                                             · show xs.foldl max x ∈ _; rw [c]; exact List.mem_cons_self
                                             · exact List.mem_cons_of_mem _ c)
    omega
theorem cd_min (d : Bool) (hc : X.calm = true) : CallR X (.builtin "min") (upC (gOf X) (aMin d)) := by
  intro pins s σ H xs us Q I r ⟨ds, S, Q', hS, rs, h, k⟩
  rcases h with ⟨p, bs, rfl, e, hne, h⟩ | ⟨i, j, rfl, h⟩
  · obtain ⟨rfl, ws, f, q⟩ := one_ref hS rs e
    rw [q.ints] at f
    refine cr_min hc pins s σ H _ us Q I r ⟨_, _, rfl, SqL.of f, by cases bs with | nil => exact absurd rfl hne | cons _ _ => simp, fun m h1 h2 => ?_⟩
    rw [minI_is h1 h2]
    exact k _ _ H _ Keep.refl hS.delIf (.int _) h
  · obtain ⟨v, w, rfl, a, b⟩ := reps_two rs
    cases a; cases b
    refine call_min2 hc pins s σ H _ us Q I r ⟨_, _, rfl, ?_⟩
    have : (if j < i then j else i) = min i j := by split <;> omega
    rw [this]
    exact k _ _ H _ Keep.refl hS (.int _) h
theorem cd_max (d : Bool) (hc : X.calm = true) : CallR X (.builtin "max") (upC (gOf X) (aMax d)) := by
  intro pins s σ H xs us Q I r ⟨ds, S, Q', hS, rs, h, k⟩
  rcases h with ⟨p, bs, rfl, e, hne, h⟩ | ⟨i, j, rfl, h⟩
  · obtain ⟨rfl, ws, f, q⟩ := one_ref hS rs e
    rw [q.ints] at f
    refine cr_max hc pins s σ H _ us Q I r ⟨_, _, rfl, SqL.of f, by cases bs with | nil => exact absurd rfl hne | cons _ _ => simp, fun m h1 h2 => ?_⟩
    rw [maxI_is h1 h2]
    exact k _ _ H _ Keep.refl hS.delIf (.int _) h
  · obtain ⟨v, w, rfl, a, b⟩ := reps_two rs
    cases a; cases b
    refine call_max2 hc pins s σ H _ us Q I r ⟨_, _, rfl, ?_⟩
    have : (if j > i then j else i) = max i j := by split <;> omega
    rw [this]
    exact k _ _ H _ Keep.refl hS (.int _) h
theorem cd_abs : CallR X (.builtin "abs") (upC (gOf X) aAbs) := by
  rintro pins s σ H xs us Q I r ⟨ds, S, Q', hS, rs, ⟨i, rfl, h⟩, k⟩
  obtain ⟨v, rfl, a⟩ := reps_one rs
  cases a
  refine call_abs pins s σ H _ us Q I r ⟨_, rfl, ?_⟩
  have : (if i < 0 then -i else i) = (i.natAbs : Int) := by split <;> omega
  rw [this]
  exact k _ _ H _ Keep.refl hS (.int _) h
theorem cd_int : CallR X (.type "int") (upC (gOf X) aInt) := by
  rintro pins s σ H xs us Q I r ⟨ds, S, Q', hS, rs, ⟨i, rfl, h⟩, k⟩
  obtain ⟨v, rfl, a⟩ := reps_one rs
  cases a
  exact call_int1 pins s σ H _ us Q I r (.inl ⟨_, rfl, k _ _ H _ Keep.refl hS (.int _) h⟩)
theorem cd_tupl (d : Bool) : CallR X (.type "tuple") (upC (gOf X) (aTupl d)) := by
  intro pins s σ H xs us Q I r ⟨ds, S, Q', hS, rs, h, k⟩
  rcases h with ⟨ys, rfl, h⟩ | ⟨p, ys, rfl, e, h⟩
  · obtain ⟨v, rfl, a⟩ := reps_one rs
    cases a with
    | tup ht q => exact call_tuple_of pins s σ H _ us Q I r ⟨_, _, rfl, .inr ⟨SqT.of ht, k _ _ H _ Keep.refl hS (.tup ht q) h⟩⟩
  · obtain ⟨v, rfl, a⟩ := reps_one rs
    cases a
    obtain ⟨ws, f, q⟩ := lst_rd hS e
    exact call_tuple_of pins s σ H _ us Q I r ⟨_, _, rfl, .inl ⟨f, fun l hl => k _ _ _ _ (Keep.new hl) (hS.new hl).delIf (.tup upd_same (q.keep (Keep.new hl))) h⟩⟩
theorem kv1_keys {K : G} {H : Hp} : ∀ {kvs : List (D × D)} {ks : List (Key × V)}, KV1 K H kvs ks → Reps K H (kvs.map (·.1)) (ks.map fun kv => kV kv.1)
  | _, _, .nil => .nil
  | _, _, .cons (k := j) r t => .cons (by cases j <;> constructor) (kv1_keys t)
theorem kv2_keys {K : G} {H : Hp} : ∀ {kvs : List (D × D)} {xs : List (NestedKey × Addr × Value)}, KV2 K H kvs xs → Reps K H (kvs.map (·.1)) (xs.map fun x => V.ref x.2.1)
  | _, _, .nil => .nil
  | _, _, .cons _ _ c _ _ t => .cons c (kv2_keys t)
theorem cd_list (hc : X.calm = true) : CallR X (.type "list") (upC (gOf X) aList) := by
  intro pins s σ H xs us Q I r ⟨ds, S, Q', hS, rs, h, k⟩
  rcases h with ⟨ys, rfl, h⟩ | ⟨p, ys, rfl, e, h⟩ | ⟨p, kvs, rfl, e, h⟩
  · obtain ⟨v, rfl, a⟩ := reps_one rs
    cases a with
    | tup ht q => exact call_list_of pins s σ H _ us Q I r ⟨_, _, rfl, .inr (SqT.of ht), fun l hl => k _ _ _ _ (Keep.new hl) (hS.putNew hl (.ofLst upd_same (q.keep (Keep.new hl)))) (.ref l) (h l (hS.free hl))⟩
  · obtain ⟨v, rfl, a⟩ := reps_one rs
    cases a
    obtain ⟨ws, f, q⟩ := lst_rd hS e
    exact call_list_of pins s σ H _ us Q I r ⟨_, _, rfl, .inl f, fun l hl => k _ _ _ _ (Keep.new hl) (hS.putNew hl (.ofLst upd_same (q.keep (Keep.new hl)))) (.ref l) (h l (hS.free hl))⟩
  · obtain ⟨v, rfl, a⟩ := reps_one rs
    cases a
    rcases hS _ _ e with ⟨ks, f, q⟩ | ⟨o, es, ep, ys, h1, h2, h3, h4, h5, h6, h7, h9, h8⟩
    · exact call_list_dK hc pins s σ H _ us Q I r ⟨_, _, rfl, f, fun l hl => k _ _ _ _ (Keep.new hl) (hS.putNew hl (.ofLst upd_same ((kv1_keys q).keep (Keep.new hl)))) (.ref l) (h l (hS.free hl))⟩
    · obtain ⟨g1, _, _⟩ := (show ObjOk X.prog X.w H s.heap p (.ext _) from I.hok p _ h1)
      cases r with
      | cons r1 r2 =>
        cases r2
        cases r1
        have hes : es.size = ys.length := by rw [← Array.length_toList, h4, List.length_map]
        refine PySem.W.kdl_call (KdlSrc.rawDict (es := es) (ep := ep) h6) (I.ok.hd hc) ⟨o, g1, h2, h3⟩ (by rw [hes]; exact h7) fun h' tk acc' c' hkeep hS' hacc => ?_
        have hf := I.hok.fresh (Nat.le_refl s.heap.objs.size)
        refine ⟨.ref s.heap.objs.size, upd H s.heap.objs.size (.lst (ys.map fun x => V.ref x.2.1)), I.laid hkeep (Nat.le_refl _) (show ObjOk X.prog X.w _ _ _ (.lst _) from ⟨?_, acc'.toList, c', ?_, ?_⟩), rfl, ?_⟩
        · rw [List.length_map]; exact h7
        · have el : acc'.toList.length = acc'.size := by simp
          refine vals_of_at (by rw [List.length_map, el, hacc.1, hes]) fun j x w z1 z2 => ?_
          obtain ⟨hj, ew⟩ := hacc.2 j w (by rw [← Array.getElem?_toList]; exact z2)
          have e3 : es.toList[j]? = some es[j] := by rw [Array.getElem?_toList]; exact Array.getElem?_eq_getElem hj
          rw [h4, List.getElem?_map] at e3
          rw [List.getElem?_map] at z1
          cases q : ys[j]? with
          | none => rw [q] at z1; cases z1
          | some y =>
            rw [q] at z1 e3
            cases z1
            have e4 : entryOfKey (nestedKind X.prog X.w) y = es[j] := Option.some.inj e3
            rw [ew, ← e4]
            rfl
        · rw [Array.toArray_toList]; exact hS'
        · exact k _ _ _ _ (Keep.new hf) (hS.putNew hf (.ofLst upd_same ((kv2_keys h8).keep (Keep.new hf)))) (.ref _) (h _ (hS.free hf))
end
end DW
namespace DW
open PySem PySem.Spec PyProof.Rows L2

/-! ## 8. Methods of lists, dicts, texts -/
abbrev DM := D → List D → Sto → DQ → Prop
def upM (K : G) (r : DM) : V → List V → Hp → VK → Prop := fun x xs H Q => ∃ d ds S Q', SRel K S H ∧ Rep K H d x ∧ Reps K H ds xs ∧ r d ds S Q' ∧ ∀ v d H' S', Keep K H H' → SRel K S' H' → Rep K H' d v → Q' d S' → Q v H'
def dBM (T : String) (r : DM) (to : DE) (t : DA) : DE := fun ρ S Q => to ρ S fun x S1 => tyD S1 x = some T ∧ t ρ S1 fun xs S2 => r x xs S2 Q
def dBM0 (T : String) (r : DM) (to : DE) : DE := fun ρ S Q => to ρ S fun x S1 => tyD S1 x = some T ∧ r x [] S1 Q
section
variable {X : Cx}
theorem dict_obj {pins : List (Addr × Obj)} {σ : L2.St} {H : Hp} {s : Shared} {S : Sto} {p : Addr} {kvs : List (D × D)} (I : Inv X pins σ H s) (hS : SRel (gOf X) S H) (e : S p = some (.dic kvs)) : ∃ o, s.heap.get? p = some o ∧ o.ExactDict := by
  rcases hS _ _ e with ⟨ks, f, _⟩ | ⟨o, es, ep, xs, h1, h2, _⟩
  · obtain ⟨_, _, vs, _, o, es, ep, g1, g2, _⟩ := dk_of I.hok f
    exact ⟨o, g1, g2⟩
  · obtain ⟨g1, _, _⟩ := (show ObjOk X.prog X.w H s.heap p (.ext _) from I.hok p _ h1)
    exact ⟨o, g1, h2⟩
theorem ty_is {pins : List (Addr × Obj)} {σ : L2.St} {H : Hp} {s : Shared} {S : Sto} {d : D} {x : V} {v : Value} {T : String} (I : Inv X pins σ H s) (hS : SRel (gOf X) S H) (r : Rep (gOf X) H d x) (rv : RelV x v) (e : tyD S d = some T) (hT : T = "list" ∨ T = "dict" ∨ T = "str") :
    s.TypeIs v T ∧ ∀ a, v = .ref a → ∃ ob, s.heap.get? a = some ob ∧ ob.dict = none := by
  cases r with
  | str z =>
    obtain ⟨t, rfl⟩ := rv
    cases e
    exact ⟨typeIs_str s z t, fun _ z => nomatch z⟩
  | ref p =>
    cases rv
    simp only [tyD] at e
    split at e
    · next z =>
      cases e
      obtain ⟨vs, f, _⟩ := lst_rd hS (.inl z)
      obtain ⟨its, _, pl, _⟩ := I.list f
      refine ⟨pl.isList.typeIs, fun a q => ?_⟩
      cases q
      obtain ⟨o, n, g, _, hd, _⟩ := pl
      exact ⟨o, g, hd⟩
    · next z =>
      cases e
      obtain ⟨vs, f, _⟩ := lst_rd hS (.inr z)
      obtain ⟨its, _, pl, _⟩ := I.list f
      refine ⟨pl.isList.typeIs, fun a q => ?_⟩
      cases q
      obtain ⟨o, n, g, _, hd, _⟩ := pl
      exact ⟨o, g, hd⟩
    · next z =>
      cases e
      obtain ⟨o, g, ex⟩ := dict_obj I hS z
      refine ⟨⟨o, g, ex.1⟩, fun a q => ?_⟩
      cases q
      exact ⟨o, g, ex.2.1⟩
    · cases e
  | tup _ _ => cases e; simp at hT
  | non => cases e; simp at hT
  | bl _ => cases e; simp at hT
  | int _ => cases e; simp at hT
  | ty _ => cases e
variable {o e : Expr} {es : List Expr} {to : DE} {t : DA} {name : Str} {apos cpos : Pos} {T id : String} {r : DM}
theorem ed_bm (hT : T = "list" ∨ T = "dict" ∨ T = "str") (pa : PlainAttrs T) (slot : Slot T name id) (hty : typeOf (.builtin id) = pure (.type "method_descriptor")) (hm : MtR X id (upM (gOf X) r)) (ho : ED X o to) (ha : AD X (e :: es) t)
    (hbase : attributeBase o name X.env (eval o X.env) = eval o X.env := by rfl)
    (few : ((backTo cpos (starEach (e :: es) X.env)).all (fun x => !x.1) && (backToKw cpos (keywordEach [] X.env)).all (fun x => x.1.isSome) && decide ((e :: es).length + ([] : List Keyword).length + (if ([] : List Keyword).isEmpty then 0 else 1) < 30)) = true := by rfl)
    (hline : (apos.endLine == cpos.line) = true := by rfl) (hs : starEach (e :: es) X.env = (false, eval e X.env) :: starEach es X.env := by rfl) (hplain : (backTo cpos (starEach es X.env)).any (·.1) = false := by rfl) :
    ED X (.Call (.Attribute o name apos) (e :: es) [] cpos) (dBM T r to t) := by
  refine ⟨fun pins s σ H Q I ⟨ρ, S, Q', hE, hS, q, k⟩ => ?_⟩
  refine wpAny_Call_method_late hbase few hline rfl (thn (ho.run pins s σ H (fun x H1 => ∃ d S1, Keep (gOf X) H H1 ∧ SRel (gOf X) S1 H1 ∧ Rep (gOf X) H1 d x ∧ tyD S1 d = some T ∧ t ρ S1 fun xs S2 => r d xs S2 Q') I
    ⟨ρ, S, _, hE, hS, q, fun v d H1 S1 k1 s1 r1 q1 => ⟨d, S1, k1, s1, r1, q1.1, q1.2⟩⟩) fun v s1 ⟨x, H1, I1, rx, d, S1, k1, t1, r1, ty, q1⟩ => ?_)
  obtain ⟨z1, z2⟩ := ty_is I1 t1 r1 rx ty hT
  refine ⟨T, id, pa, slot, hty, z1, z2, ?_⟩
  have arg := ha.run cpos pins s1 σ H1 (fun xs H2 => ∃ ds S2, Keep (gOf X) H H2 ∧ SRel (gOf X) S2 H2 ∧ Rep (gOf X) H2 d x ∧ Reps (gOf X) H2 ds xs ∧ r d ds S2 Q') I1 ⟨ρ, S1, _, hE.keep k1, t1, q1, fun vs ds H2 S2 k2 s2 r2 q2 => ⟨ds, S2, k1.trans k2, s2, r1.keep k2, r2, q2⟩⟩
  rw [hs] at arg ⊢
  refine Calls.callWith_builtin (by show (false || (backTo cpos (starEach es X.env)).any (·.1)) = false; rw [hplain] <;> rfl) (Calls.evalArgs_plain ?_)
  exact thn arg fun us s2 ⟨vs, H2, I2, r2, ds, S2, k2, t2, q2, q3, q4⟩ => hm pins s2 σ H2 x vs v us Q I2 rx r2 ⟨d, ds, S2, Q', t2, q2, q3, q4, fun v d H' S' k' => k v d H' S' (k2.trans k')⟩
theorem ed_bm0 (hT : T = "list" ∨ T = "dict" ∨ T = "str") (pa : PlainAttrs T) (slot : Slot T name id) (hty : typeOf (.builtin id) = pure (.type "method_descriptor")) (hm : MtR X id (upM (gOf X) r)) (ho : ED X o to)
    (hbase : attributeBase o name X.env (eval o X.env) = eval o X.env := by rfl) (hline : (apos.endLine == cpos.line) = true := by rfl) : ED X (.Call (.Attribute o name apos) [] [] cpos) (dBM0 T r to) := by
  refine ⟨fun pins s σ H Q I ⟨ρ, S, Q', hE, hS, q, k⟩ => ?_⟩
  refine wpAny_Call_method0_late hbase hline (thn (ho.run pins s σ H (fun x H1 => ∃ d S1, Keep (gOf X) H H1 ∧ SRel (gOf X) S1 H1 ∧ Rep (gOf X) H1 d x ∧ tyD S1 d = some T ∧ r d [] S1 Q') I
    ⟨ρ, S, _, hE, hS, q, fun v d H1 S1 k1 s1 r1 q1 => ⟨d, S1, k1, s1, r1, q1.1, q1.2⟩⟩) fun v s1 ⟨x, H1, I1, rx, d, S1, k1, t1, r1, ty, q1⟩ => ?_)
  obtain ⟨z1, z2⟩ := ty_is I1 t1 r1 rx ty hT
  exact ⟨T, id, pa, slot, hty, z1, z2, Calls.callWith_builtin rfl (PySem.evalArgs_none (hm pins s1 σ H1 x [] v [] Q I1 rx .nil ⟨d, [], S1, Q', t1, r1, .nil, q1, fun v d H' S' k' => k v d H' S' (k1.trans k')⟩))⟩
end
def aAppend : DM := fun x xs S Q => ∃ p ys y, x = .ref p ∧ xs = [y] ∧ S p = some (.lst ys) ∧ ys.length < sizeLine ∧ Q .non (put S p (.lst (ys ++ [y])))
def aPop : DM := fun x xs S Q => ∃ p ys y, x = .ref p ∧ xs = [] ∧ S p = some (.lst ys) ∧ ys[ys.length - 1]? = some y ∧ Q y (put S p (.lst ys.dropLast))
def aPopAt : DM := fun x xs S Q => ∃ p ys y i k, x = .ref p ∧ xs = [.int i] ∧ S p = some (.lst ys) ∧ -(2 ^ 63) ≤ i ∧ i < 2 ^ 63 ∧ seqIndex? i ys.length = some k ∧ ys[k]? = some y ∧ Q y (put S p (.lst (ys.eraseIdx k)))
/-- d.update(d2), d2 another dict (thrown away) -/
def aUpd (d : Bool) : DM := fun x xs S Q => ∃ p q kvs more, x = .ref p ∧ xs = [.ref q] ∧ p ≠ q ∧ S p = some (.dic kvs) ∧ S q = some (.dic more) ∧ kvs.length + more.length ≤ sizeLine ∧
  (((∀ kv ∈ kvs, isLeaf kv.1) ∧ ∀ kv ∈ more, isLeaf kv.1) ∨ ((∀ kv ∈ kvs, isTup kv.1) ∧ (∀ kv ∈ more, isTup kv.1) ∧ (kvs ≠ [] ∨ more.length ≤ 1))) ∧
  Q .non (if d then del (put S p (.dic (mergeD kvs more))) q else put S p (.dic (mergeD kvs more)))
def aGet1 : DM := fun x xs S Q => ∃ p k kvs, x = .ref p ∧ xs = [k] ∧ S p = some (.dic kvs) ∧ keyOk kvs k ∧ Q ((lookD kvs k).getD .non) S
def aGet2 : DM := fun x xs S Q => ∃ p k z kvs, x = .ref p ∧ xs = [k, z] ∧ S p = some (.dic kvs) ∧ keyOk kvs k ∧ Q ((lookD kvs k).getD z) S
section
variable {X : Cx}
theorem md_append : MtR X "list.append" (upM (gOf X) aAppend) := by
  rintro pins s σ H x xs v us Q I rx r ⟨d, ds, S, Q', hS, r1, rs, ⟨p, ys, y, rfl, rfl, e, hl, h⟩, k⟩
  obtain ⟨w, rfl, q⟩ := reps_one rs
  cases r1
  obtain ⟨vs, f, q2⟩ := hS _ _ e
  have kp : Keep (gOf X) H (upd H p (.lst (vs ++ [w]))) := Keep.lst f
  exact mt_append pins s σ H _ _ v us Q I rx r ⟨_, _, _, rfl, rfl, f, by rw [← q2.length]; exact hl, k _ _ _ _ kp (hS.put kp (.ofLst upd_same ((q2.append (.cons q .nil)).keep kp))) .non h⟩
theorem md_pop : MtR X "list.pop" (upM (gOf X) aPop) := by
  rintro pins s σ H x xs v us Q I rx r ⟨d, ds, S, Q', hS, r1, rs, ⟨p, ys, y, rfl, rfl, e, hl, h⟩, k⟩
  cases rs
  cases r1
  obtain ⟨vs, f, q2⟩ := hS _ _ e
  obtain ⟨w, g, q⟩ := q2.get hl
  have kp : Keep (gOf X) H (upd H p (.lst vs.dropLast)) := Keep.lst f
  exact mt_pop pins s σ H _ _ v us Q I rx r ⟨_, _, _, rfl, rfl, f, by rw [← q2.length]; exact g, k _ _ _ _ kp (hS.put kp (.ofLst upd_same (q2.dropLast.keep kp))) (q.keep kp) h⟩
theorem md_popAt : MtR X "list.pop" (upM (gOf X) aPopAt) := by
  rintro pins s σ H x xs v us Q I rx r ⟨d, ds, S, Q', hS, r1, rs, ⟨p, ys, y, i, j, rfl, rfl, e, h1, h2, h3, hl, h⟩, k⟩
  obtain ⟨w', rfl, q'⟩ := reps_one rs
  cases q'
  cases r1
  obtain ⟨vs, f, q2⟩ := hS _ _ e
  obtain ⟨w, g, q⟩ := q2.get hl
  have kp : Keep (gOf X) H (upd H p (.lst (vs.eraseIdx j))) := Keep.lst f
  exact mt_popAt pins s σ H _ _ v us Q I rx r ⟨_, _, _, _, _, rfl, rfl, f, h1, h2, by rw [← q2.length]; exact h3, g, k _ _ _ _ kp (hS.put kp (.ofLst upd_same ((q2.eraseIdx j).keep kp))) (q.keep kp) h⟩
theorem md_get1 (hu : X.A.units + 64 < cLine) : MtR X "dict.get" (upM (gOf X) aGet1) := by
  rintro pins s σ H x xs v us Q I rx r ⟨d, ds, S, Q', hS, r1, rs, ⟨p, y, kvs, rfl, rfl, e, ok, h⟩, k⟩
  obtain ⟨w', rfl, q'⟩ := reps_one rs
  cases r1
  cases rx
  obtain ⟨u, rfl, ru⟩ := vals1 r
  rcases ok with ⟨⟨j, rfl⟩, hl⟩ | ⟨⟨xs, j, rfl, hk, hd⟩, ht⟩
  · obtain ⟨ks, e1, q2⟩ := leaf_dK hS e hl
    rw [rep_key q'] at ru
    refine d_get1 (by omega) I (DGet.k e1) ru fun w' s' I' r' => ?_
    rcases kv1_val q2 j with ⟨z1, z2⟩ | ⟨e', v', z1, z2, z3⟩
    · rw [z1] at h
      rw [z2] at r'
      exact ⟨.non, H, I', r', k _ _ H S Keep.refl hS .non h⟩
    · rw [z1] at h
      rw [z2] at r'
      exact ⟨v', H, I', r', k _ _ H S Keep.refl hS z3 h⟩
  · obtain ⟨xs, dh, q2, hs, _, _⟩ := dicH I hS e ht
    have hn := q'.nested I ru hk
    cases q'
    cases ru
    refine call_meetsIn PySem.F.slot_dict_get dh.typeIs PySem.F.entry_dict_get (PySem.F.args_dict_get_2 _ _) (meetsH_dict_get (nestedKind X.prog X.w) p _ hs) ⟨unH hu, j, xs, ⟨hn, hd⟩, dh, ?_⟩
    rcases kv2_val hk q2 with ⟨z1, z2⟩ | ⟨e', v', p', z1, z2, z3, z4⟩
    · rw [z1] at h
      rw [z2]
      exact ⟨.non, H, I.tok _, rfl, k _ _ H S Keep.refl hS .non h⟩
    · rw [z1] at h
      rw [z2]
      exact ⟨v', H, I.tok _, z4, k _ _ H S Keep.refl hS z3 h⟩
theorem md_get2 (hu : X.A.units + 64 < cLine) : MtR X "dict.get" (upM (gOf X) aGet2) := by
  rintro pins s σ H x xs v us Q I rx r ⟨d, ds, S, Q', hS, r1, rs, ⟨p, y, z, kvs, rfl, rfl, e, ok, h⟩, k⟩
  obtain ⟨w', z', rfl, q', qz⟩ := reps_two rs
  cases r1
  cases rx
  obtain ⟨u, uz, rfl, ru, rz⟩ := vals2 r
  rcases ok with ⟨⟨j, rfl⟩, hl⟩ | ⟨⟨xs, j, rfl, hk, hd⟩, ht⟩
  · obtain ⟨ks, e1, q2⟩ := leaf_dK hS e hl
    rw [rep_key q'] at ru
    refine d_get2 (by omega) I (DGet.k e1) ru rz fun w' s' I' r' => ?_
    rcases kv1_val q2 j with ⟨z1, z2⟩ | ⟨e', v', z1, z2, z3⟩
    · rw [z1] at h
      rw [z2] at r'
      exact ⟨z', H, I', r', k _ _ H S Keep.refl hS qz h⟩
    · rw [z1] at h
      rw [z2] at r'
      exact ⟨v', H, I', r', k _ _ H S Keep.refl hS z3 h⟩
  · obtain ⟨xs, dh, q2, hs, _, _⟩ := dicH I hS e ht
    have hn := q'.nested I ru hk
    cases q'
    cases ru
    refine call_meetsIn PySem.F.slot_dict_get dh.typeIs PySem.F.entry_dict_get (PySem.F.args_dict_get_3 _ _ _) (meetsH_dict_get_default (nestedKind X.prog X.w) p _ hs uz) ⟨unH hu, j, xs, ⟨hn, hd⟩, dh, ?_⟩
    rcases kv2_val hk q2 with ⟨z1, z2⟩ | ⟨e', v', p', z1, z2, z3, z4⟩
    · rw [z1] at h
      rw [z2]
      exact ⟨z', H, I.tok _, rz, k _ _ H S Keep.refl hS qz h⟩
    · rw [z1] at h
      rw [z2]
      exact ⟨v', H, I.tok _, z4, k _ _ H S Keep.refl hS z3 h⟩
theorem mergeD_length (more : List (D × D)) : ∀ kvs : List (D × D), (mergeD kvs more).length ≤ kvs.length + more.length := by
  induction more with
  | nil => intro kvs; exact Nat.le_refl _
  | cons m more ih =>
    intro kvs
    have h1 := ih (putD kvs m.1 m.2)
    have h2 := putD_length kvs m.1 m.2
    show (mergeD (putD kvs m.1 m.2) more).length ≤ _
    simp only [List.length_cons]
    omega
theorem mergeD_ne {kvs more : List (D × D)} (h : kvs ≠ [] ∨ more ≠ []) : mergeD kvs more ≠ [] := by
  induction more generalizing kvs with
  | nil => rcases h with h | h; exact h; exact absurd rfl h
  | cons m more ih => exact ih (.inl (putD_ne _ _ _))
theorem md_upd (d : Bool) (hu : X.A.units + 64 < cLine) : MtR X "dict.update" (upM (gOf X) (aUpd d)) := by
  rintro pins s σ H x xs v us Q I rx r ⟨dx, ds, S, Q', hS, r1, rs, ⟨p, q, kvs, more, rfl, rfl, hpq, e, e2, hl, hk, h⟩, k⟩
  obtain ⟨w', rfl, q'⟩ := reps_one rs
  cases r1
  cases q'
  cases rx
  obtain ⟨u, rfl, ru⟩ := vals1 r
  cases ru
  have fin : ∀ {H' : Hp} {s' : Shared}, Inv X pins σ H' s' → Keep (gOf X) H H' → SRel (gOf X) (put S p (.dic (mergeD kvs more))) H' → EP X pins σ Q .none s' := fun {H' s'} I' kp S' => ⟨.non, H', I', rfl, k _ _ H' _ kp S'.delIf .non h⟩
  have leafy : (∀ kv ∈ kvs, isLeaf kv.1) → (∀ kv ∈ more, isLeaf kv.1) → wpAny (model X.prog X.w) X.A (call (.builtin "dict.update") [.ref p, .ref q]) (EP X pins σ Q) X.xe s := fun a b => by
    obtain ⟨ks, f1, t1⟩ := leaf_dK hS e a
    obtain ⟨ms, f2, t2⟩ := leaf_dK hS e2 b
    obtain ⟨z1, hd1, vs1, rel1, dd1⟩ := dk_of I.hok f1
    obtain ⟨z2, hd2, vs2, rel2, dd2⟩ := dk_of I.hok f2
    have l1 : kvs.length = vs1.length := t1.length.trans (Paired.length rel1)
    have l2 : more.length = vs2.length := t2.length.trans (Paired.length rel2)
    refine call_meetsIn PySem.F.slot_dict_update dd1.typeIs PySem.F.entry_dict_update (PySem.F.args_dict_update_2 _ _) (meets_dict_update (mixKind X.prog X.w) p q hpq hd2) ⟨vs1, vs2, dd1, dd2, by omega, fun h' dm _ sb => ?_⟩
    have kp : Keep (gOf X) H (upd H p (.dK (mergeK ks ms))) := Keep.mut (by rw [f1]; trivial)
    have I' : Inv X pins σ (upd H p (.dK (mergeK ks ms))) { s with heap := h', toks := s.toks } := I.write (x := p) (e := p) (by rw [f1]; trivial) (.inl rfl) (fun b o hb z => (sb.2 b hb).trans z) (by obtain ⟨o, _, _, g, _⟩ := dm; exact ⟨o, g⟩)
      ⟨by have := length_mergeK ms ks; rw [← t1.length, ← t2.length] at this; omega, hd1, _, rel2.merge rel1, dm⟩
    exact fin I' kp (hS.put kp (.inl ⟨_, upd_same, (kv1_merge t2 t1).keep kp⟩))
  rcases hk with ⟨a, b⟩ | ⟨a, b, c⟩
  · exact leafy a b
  · by_cases ne : kvs = [] ∧ more = []
    · obtain ⟨rfl, rfl⟩ := ne
      exact leafy (fun _ z => by cases z) (fun _ z => by cases z)
    · obtain ⟨xs1, dh1, t1, hs1, z1, mu1⟩ := dicH I hS e a
      obtain ⟨xs2, dh2, t2, hs2, z2, mu2⟩ := dicH I hS e2 b
      have l1 := t1.length
      have l2 := t2.length
      refine call_update_dictH (unH hu) hpq hs2 dh1 dh2 ?_ (by omega) fun h' dm _ sb => ?_
      · rcases c with c | c
        · left
          rintro rfl
          cases t1
          exact c rfl
        · right
          refine ⟨fun x hx => ?_, ?_⟩
          · obtain ⟨_, _, _, _, _, _, _, his, _⟩ := dh2
            exact nestedKind_stays.tuple (his x hx)
          · match xs2, l2 with
            | [], _ => exact .nil
            | [x], _ => simp
            | _ :: _ :: _, l2 => simp at l2; omega
      · obtain ⟨H', I', kp, S'⟩ := dicH_back (tk := s.toks) (kvs' := mergeD kvs more) I hS mu1 hs1 dm (fun b o hb z => (sb.2 b hb).trans z) (by have := (kv2_merge t2 t1).length; have := mergeD_length more kvs; omega)
          (mergeD_ne (by by_cases z : kvs = []; exact .inr fun y => ne ⟨z, y⟩; exact .inl z)) (fun H' kp => (kv2_merge t2 t1).keep kp)
        exact fin I' kp S'
end
end DW
namespace DW
open PySem PySem.Spec PyProof.Rows L2

/-! ## 9. Displays of dicts, dict(pairs) -/
def dDict0 : DE := fun _ S Q => ∀ p, S p = none → Q (.ref p) (put S p (.dic []))
def dDict1 (tk tv : DE) (ok : D → Prop) : DE := fun ρ S Q => ∀ p, S p = none → tk ρ (put S p (.dic [])) fun k S1 => tv ρ S1 fun v S2 => S2 p = some (.dic []) ∧ ok k ∧ Q (.ref p) (put S2 p (.dic [(k, v)]))
section
variable {X : Cx} {pos : Pos}
theorem rel_new_dic {K : G} {S : Sto} {H : Hp} {p : Addr} (hS : SRel K S H) (hp : H p = none) : SRel K (put S p (.dic [])) (upd H p (.dK [])) := hS.putNew hp (.inl ⟨[], upd_same, .nil⟩)
theorem ed_dict0 : ED X (.Dict [] [] pos) dDict0 := PE.imp pe_dnewK fun σ H Q ⟨ρ, S, Q', hE, hS, q, k⟩ p hp => k _ _ _ _ (Keep.new hp) (rel_new_dic hS hp) (.ref p) (q p (hS.free hp))
/-- {k: v}, k an int or a text -/
theorem ed_dict1K {ek ev : Expr} {tk tv : DE} (hk : ED X ek tk) (hv : ED X ev tv) : ED X (.Dict [some ek] [ev] pos) (dDict1 tk tv isLeaf) :=
  PE.imp (pe_disp (pps_cons hk hv pps_nil) (by rfl) (by rfl) (fun z => by cases z) (by show 1 ≤ 15; decide)) fun σ H Q ⟨ρ, S, Q', hE, hS, q, k⟩ p hp => by
    have kp := Keep.new (K := gOf X) (o := .dK []) hp
    refine ⟨ρ, put S p (.dic []), _, hE.keep kp, rel_new_dic hS hp, q p (hS.free hp), fun v d H1 S1 k1 s1 r1 q1 => ⟨ρ, S1, _, (hE.keep kp).keep k1, s1, q1, fun v2 d2 H2 S2 k2 s2 r2 ⟨e2, ⟨j, ej⟩, q2⟩ => ?_⟩⟩
    subst ej
    obtain ⟨ks, f, t⟩ := leaf_dK s2 e2 (fun _ z => by cases z)
    cases t
    have kp2 : Keep (gOf X) H2 (upd H2 p (.dK (mergeK [] [(j, v2)]))) := Keep.mut (by rw [f]; trivial)
    exact ⟨f, [(j, v2)], by rw [rep_key r1]; rfl, by show 1 ≤ 15; decide, k _ _ _ _ (((kp.trans k1).trans k2).trans kp2) (s2.put kp2 (show ORel _ _ _ (.dic _) from Or.inl ⟨_, upd_same, .cons (r2.keep kp2) .nil⟩)) (.ref p) q2⟩
end

/-! ## 10. What is walked -/
/-- the iterator J walks the items (data) while the guard holds, from the abstract heap H0 on -/
structure Src (K : G) (H0 : Hp) (J : It) (items : List D) (guard : Sto → Prop) : Prop where
  go : ∀ i S H, Keep K H0 H → SRel K S H → guard S → i < items.length → J.go i H
  yld : ∀ i S H x H' d, Keep K H0 H → SRel K S H → guard S → items[i]? = some d → J.yld i H x H' → Keep K H H' ∧ SRel K S H' ∧ Rep K H' d x
  stop : ∀ S H, Keep K H0 H → SRel K S H → guard S → J.stop items.length H
abbrev DI := REnv → Sto → (List D → (Sto → Prop) → Sto → Prop) → Prop
def upI (K : G) (wi : DI) : TI := fun σ H R => ∃ ρ S R', ERel K H ρ σ ∧ SRel K S H ∧ wi ρ S R' ∧ ∀ J items guard H' S', Keep K H H' → SRel K S' H' → Src K H' J items guard → R' items guard S' → R J H'
def dSeq (te : DE) : DI := fun ρ S R => te ρ S fun d S1 => match d with
  | .tup xs => R xs (fun _ => True) S1
  | .ref p => ∃ xs, (S1 p = some (.lst xs) ∨ S1 p = some (.rls xs)) ∧ R xs (fun S => S p = some (.lst xs) ∨ S p = some (.rls xs)) S1
  | _ => False
def intsFrom (lo c : Int) (n : Nat) : List D := (List.range n).map fun i => .int (lo + (i : Nat) * c)
def dRng1 (t : DA) : DI := fun ρ S R => t ρ S fun xs S1 => ∃ j : Int, xs = [.int j] ∧ -(2 ^ 62) ≤ j ∧ j < 2 ^ 62 ∧ R (intsFrom 0 1 j.toNat) (fun _ => True) S1
def dRng2 (t : DA) : DI := fun ρ S R => t ρ S fun xs S1 => ∃ i j : Int, xs = [.int i, .int j] ∧ (-(2 ^ 62) ≤ i ∧ i < 2 ^ 62 ∧ -(2 ^ 62) ≤ j ∧ j < 2 ^ 62) ∧ R (intsFrom i 1 (j - i).toNat) (fun _ => True) S1
/-- range(a, b, -1) -/
def dRngB (t : DA) : DI := fun ρ S R => t ρ S fun xs S1 => ∃ i j : Int, xs = [.int i, .int j, .int (-1)] ∧ (-(2 ^ 61) ≤ i ∧ i < 2 ^ 61 ∧ -(2 ^ 61) ≤ j ∧ j < 2 ^ 61) ∧ R (intsFrom i (-1) (i - j).toNat) (fun _ => True) S1
def zipD (xs ys : List D) : List D := List.zipWith (fun a b => .tup [a, b]) xs ys
def enumFrom : Nat → List D → List D
  | _, [] => []
  | n, x :: xs => .tup [.int n, x] :: enumFrom (n + 1) xs
def dZip (t : DA) : DI := fun ρ S R => t ρ S fun xs S1 => (∃ a b, xs = [.tup a, .tup b] ∧ R (zipD a b) (fun _ => True) S1) ∨
  (∃ p q a b, xs = [.ref p, .ref q] ∧ S1 p = some (.lst a) ∧ S1 q = some (.lst b) ∧ R (zipD a b) (fun S => S p = some (.lst a) ∧ S q = some (.lst b)) S1)
section
variable {X : Cx} {tg : Expr} {pos p : Pos}
theorem PI.imp {l : Expr} {t t' : TI} (h : PI X tg l t) (i : ∀ σ H R, t' σ H R → t σ H R) : PI X tg l t' := ⟨fun pins s σ H R I q => h.run pins s σ H R I (i _ _ _ q)⟩
theorem PI.or {l : Expr} {te : TE} (h : PE X l te) : PI X tg l fun σ H R => te σ H fun x H1 => ∃ a, x = .ref a ∧ (((∃ xs, SqL X.K H1 a xs) ∧ R (Itl X.K a) H1) ∨ ((∃ xs, SqT X.K H1 a xs) ∧ R (Itt X.K a) H1)) := by
  refine ⟨fun pins s σ H R I q => ?_⟩
  refine thn (h.run pins s σ H _ I q) fun v s1 ⟨x, H1, I1, r1, a, e, z⟩ => ?_
  subst e
  cases r1
  rcases z with ⟨⟨xs, hq⟩, z⟩ | ⟨⟨xs, hq⟩, z⟩
  · obtain ⟨its, rv, pl, hz⟩ := I1.list hq
    refine wpAny_pyIter_list pl.isList ?_
    have I2 : Inv X pins σ H1 { s1 with heap := s1.heap.push { cls := .type "list_iterator", data := .fields #[.ref a, .int 0 0] } } := I1.kept (t' := s1.toks) fun b ob q => Heap.get?_push_of_some _ q
    refine ⟨s1.heap.objs.size, [s1.heap.objs.size], _, _, H1, rfl, I2, turn_list a _, ⟨_, Heap.get?_push_size _ rfl, rfl, rfl⟩, fun b hb => ?_, z⟩
    obtain rfl : b = s1.heap.objs.size := by simpa using hb
    exact I1.fpOk (Nat.le_refl _) (I1.hok.fresh (Nat.le_refl _))
  · obtain ⟨its, rv, pl, hz⟩ := I1.tuple hq
    refine wpAny_pyIter_tuple (show s1.heap.IsTuple a its.toArray from pl) ?_
    refine ⟨s1.heap.objs.size, [s1.heap.objs.size], _, _, H1, rfl, I1.kept (t' := s1.toks) fun b ob q => Heap.get?_push_of_some _ q, turn_tuple a _, ⟨_, Heap.get?_push_size _ rfl, rfl, rfl⟩, fun b hb => ?_, z⟩
    obtain rfl : b = s1.heap.objs.size := by simpa using hb
    exact I1.fpOk (Nat.le_refl _) (I1.hok.fresh (Nat.le_refl _))
theorem SqL.only {K : PySem.W.Frag} {H : Hp} {a : Addr} {vs ws : List V} (h : H a = some (.lst vs)) (q : SqL K H a ws) (hk : K.lookup a = none) : ws = vs := by
  rcases q with (q | ⟨o, q⟩) | ⟨o, its, n, q, _⟩
  · rw [h] at q; cases q; rfl
  · rw [h] at q; cases q
  · rw [hk] at q; cases q
theorem src_list {K : G} {H0 : Hp} {p : Addr} {xs : List D} : Src K H0 (Itl K.K p) xs fun S => S p = some (.lst xs) ∨ S p = some (.rls xs) where
  go := fun i S H kp hS g hi => by
    obtain ⟨vs, f, r⟩ := lst_rd hS g
    obtain ⟨v, e, _⟩ := r.get (List.getElem?_eq_getElem hi)
    exact ⟨vs, v, f, e⟩
  yld := fun i S H x H' d kp hS g e y => by
    obtain ⟨rfl, y⟩ := y
    obtain ⟨vs, f, r⟩ := lst_rd hS g
    obtain ⟨v, e', q⟩ := r.get e
    have := y vs f
    rw [e'] at this
    cases this
    exact ⟨Keep.refl, hS, q⟩
  stop := fun S H kp hS g => by
    obtain ⟨vs, f, r⟩ := lst_rd hS g
    exact ⟨vs, f, by rw [r.length]; exact Nat.le_refl _⟩
theorem src_tup {K : G} {H0 : Hp} {a : Addr} {xs : List D} {vs : List V} (h : H0 a = some (.tup vs)) (r : Reps K H0 xs vs) : Src K H0 (Itt K.K a) xs fun _ => True where
  go := fun i S H kp hS g hi => by
    obtain ⟨v, e, _⟩ := r.get (List.getElem?_eq_getElem hi)
    exact ⟨vs, v, SqT.of (kp _ _ h), e⟩
  yld := fun i S H x H' d kp hS g e y => by
    obtain ⟨rfl, y⟩ := y
    obtain ⟨v, e', q⟩ := r.get e
    have := y vs (SqT.of (kp _ _ h))
    rw [e'] at this
    cases this
    exact ⟨Keep.refl, hS, q.keep kp⟩
  stop := fun S H kp hS g => ⟨vs, SqT.of (kp _ _ h), by rw [r.length]; exact Nat.le_refl _⟩
theorem intsFrom_get {lo c : Int} {n i : Nat} {d : D} (e : (intsFrom lo c n)[i]? = some d) : d = .int (lo + (i : Nat) * c) := by
  unfold intsFrom at e
  rw [List.getElem?_map] at e
  cases q : (List.range n)[i]? with
  | none => rw [q] at e; cases e
  | some j =>
    rw [q] at e
    obtain ⟨hi, hj⟩ := List.getElem?_eq_some_iff.mp q
    simp only [List.getElem_range] at hj
    subst hj
    cases e
    rfl
theorem src_rng {K : G} {H0 : Hp} {lo : Int} {n : Nat} : Src K H0 (Itr lo n) (intsFrom lo 1 n) fun _ => True where
  go := fun i S H kp hS g hi => by show i < n; simpa [intsFrom] using hi
  yld := fun i S H x H' d kp hS g e y => by
    obtain ⟨rfl, rfl⟩ := y
    rw [intsFrom_get e, Int.mul_one]
    exact ⟨Keep.refl, hS, .int _⟩
  stop := fun S H kp hS g => by show n ≤ (intsFrom lo 1 n).length; simp [intsFrom]
theorem src_rngC {K : G} {H0 : Hp} {lo c : Int} {n : Nat} : Src K H0 (Itc lo c n) (intsFrom lo c n) fun _ => True where
  go := fun i S H kp hS g hi => by show i < n; simpa [intsFrom] using hi
  yld := fun i S H x H' d kp hS g e y => by
    obtain ⟨rfl, rfl⟩ := y
    rw [intsFrom_get e]
    exact ⟨Keep.refl, hS, .int _⟩
  stop := fun S H kp hS g => by show n ≤ (intsFrom lo c n).length; simp [intsFrom]
/-- a list or a tuple -/
theorem id_seq {l : Expr} {te : DE} (h : ED X l te) : PI X tg l (upI (gOf X) (dSeq te)) :=
  PI.imp (PI.or h) fun σ H R ⟨ρ, S, R', hE, hS, q, k⟩ => ⟨ρ, S, _, hE, hS, q, fun v d H1 S1 k1 s1 r1 q1 => by
    cases r1 with
    | tup ht rs => exact ⟨_, rfl, .inr ⟨⟨_, SqT.of ht⟩, k _ _ _ _ _ k1 s1 (src_tup ht rs) q1⟩⟩
    | ref p =>
      obtain ⟨xs, g, q1⟩ := q1
      obtain ⟨vs, f, r⟩ := lst_rd s1 g
      exact ⟨_, rfl, .inl ⟨⟨_, f⟩, k _ _ _ _ _ k1 s1 src_list q1⟩⟩
    | non => exact q1.elim
    | bl _ => exact q1.elim
    | int _ => exact q1.elim
    | str _ => exact q1.elim
    | ty _ => exact q1.elim⟩
theorem id_rng1 {a : Expr} {t : DA} (hg : Gl X "range") (hm : X.mg "range" = none) (ha : AD X [a] t) (hs : starEach [a] X.env = [(false, eval a X.env)] := by rfl) : PI X tg (.Call (.Name "range" p) [a] [] pos) (upI (gOf X) (dRng1 t)) :=
  PI.imp (pi_range1 hg hm ha hs) fun σ H R ⟨ρ, S, R', hE, hS, q, k⟩ => ⟨ρ, S, _, hE, hS, q, fun vs ds H1 S1 k1 s1 r1 ⟨j, e, h1, h2, q1⟩ => by
    subst e
    obtain ⟨v, rfl, a⟩ := reps_one r1
    cases a
    exact ⟨j, rfl, h1, h2, k _ _ _ _ _ k1 s1 src_rng q1⟩⟩
theorem id_rng2 {a b : Expr} {t : DA} (hg : Gl X "range") (hm : X.mg "range" = none) (ha : AD X [a, b] t) (hs : starEach [a, b] X.env = [(false, eval a X.env), (false, eval b X.env)] := by rfl) (hs2 : starEach [b] X.env = [(false, eval b X.env)] := by rfl) :
    PI X tg (.Call (.Name "range" p) [a, b] [] pos) (upI (gOf X) (dRng2 t)) :=
  PI.imp (pi_range2 hg hm ha hs hs2) fun σ H R ⟨ρ, S, R', hE, hS, q, k⟩ => ⟨ρ, S, _, hE, hS, q, fun vs ds H1 S1 k1 s1 r1 ⟨i, j, e, h1, q1⟩ => by
    subst e
    obtain ⟨v, w, rfl, a, b⟩ := reps_two r1
    cases a; cases b
    exact ⟨i, j, rfl, h1, k _ _ _ _ _ k1 s1 src_rng q1⟩⟩
theorem zip_get {xs ys : List D} {i : Nat} {d : D} (e : (zipD xs ys)[i]? = some d) : ∃ a b, xs[i]? = some a ∧ ys[i]? = some b ∧ d = .tup [a, b] := by
  unfold zipD at e
  rw [List.getElem?_zipWith] at e
  cases h1 : xs[i]? with
  | none => rw [h1] at e; cases e
  | some a =>
    cases h2 : ys[i]? with
    | none => rw [h1, h2] at e; cases e
    | some b => rw [h1, h2] at e; cases e; exact ⟨a, b, rfl, rfl, rfl⟩
theorem src_zipT {K : G} {H0 : Hp} {a b : Addr} {xs ys : List D} {vs ws : List V} (h : H0 a = some (.tup vs)) (r : Reps K H0 xs vs) (h2 : H0 b = some (.tup ws)) (r2 : Reps K H0 ys ws) : Src K H0 (RZ.ItzT K.K a b) (zipD xs ys) fun _ => True where
  go := fun i S H kp hS g hi => by
    obtain ⟨x, y, e1, e2, _⟩ := zip_get (List.getElem?_eq_getElem hi)
    obtain ⟨v, f1, _⟩ := r.get e1
    obtain ⟨w, f2, _⟩ := r2.get e2
    exact ⟨vs, ws, v, w, SqT.of (kp _ _ h), SqT.of (kp _ _ h2), f1, f2⟩
  yld := fun i S H x H' d kp hS g e y => by
    obtain ⟨T, v, w, rfl, hT, rfl, y1, y2⟩ := y
    obtain ⟨a', b', e1, e2, rfl⟩ := zip_get e
    obtain ⟨v', f1, q1⟩ := r.get e1
    obtain ⟨w', f2, q2⟩ := r2.get e2
    have z1 := y1 vs (SqT.of (kp _ _ h))
    have z2 := y2 ws (SqT.of (kp _ _ h2))
    rw [f1] at z1; cases z1
    rw [f2] at z2; cases z2
    have k2 := Keep.new (K := K) (o := .tup [v, w]) hT
    exact ⟨k2, hS.new hT, .tup upd_same (.cons (q1.keep (kp.trans k2)) (.cons (q2.keep (kp.trans k2)) .nil))⟩
  stop := fun S H kp hS g => ⟨vs, ws, SqT.of (kp _ _ h), SqT.of (kp _ _ h2), by
    have := r.length; have := r2.length
    simp only [zipD, List.length_zipWith]; omega⟩
theorem src_zipL {K : G} {H0 : Hp} {p q : Addr} {xs ys : List D} : Src K H0 (Itz K.K p q) (zipD xs ys) fun S => S p = some (.lst xs) ∧ S q = some (.lst ys) where
  go := fun i S H kp hS g hi => by
    obtain ⟨vs, h, r⟩ := lst_rd hS (.inl g.1)
    obtain ⟨ws, h2, r2⟩ := lst_rd hS (.inl g.2)
    obtain ⟨x, y, e1, e2, _⟩ := zip_get (List.getElem?_eq_getElem hi)
    obtain ⟨v, f1, _⟩ := r.get e1
    obtain ⟨w, f2, _⟩ := r2.get e2
    exact ⟨vs, ws, v, w, h, h2, f1, f2⟩
  yld := fun i S H x H' d kp hS g e y => by
    obtain ⟨vs, h, r⟩ := lst_rd hS (.inl g.1)
    obtain ⟨ws, h2, r2⟩ := lst_rd hS (.inl g.2)
    obtain ⟨T, v, w, rfl, hT, rfl, y1, y2⟩ := y
    obtain ⟨a', b', e1, e2, rfl⟩ := zip_get e
    obtain ⟨v', f1, q1⟩ := r.get e1
    obtain ⟨w', f2, q2⟩ := r2.get e2
    have z1 := y1 vs h
    have z2 := y2 ws h2
    rw [f1] at z1; cases z1
    rw [f2] at z2; cases z2
    have k2 := Keep.new (K := K) (o := .tup [v, w]) hT
    exact ⟨k2, hS.new hT, .tup upd_same (.cons (q1.keep k2) (.cons (q2.keep k2) .nil))⟩
  stop := fun S H kp hS g => by
    obtain ⟨vs, h, r⟩ := lst_rd hS (.inl g.1)
    obtain ⟨ws, h2, r2⟩ := lst_rd hS (.inl g.2)
    refine ⟨vs, ws, h, h2, ?_⟩
    have := r.length; have := r2.length
    simp only [zipD, List.length_zipWith]; omega
theorem id_zip {e e2 : Expr} {t : DA} {elts : List Expr} {kk : Nat} {tpos : Pos} (hg : Gl X "zip") (hm : X.mg "zip" = none) (ha : AD X [e, e2] t) (hs : starEach [e, e2] X.env = (false, eval e X.env) :: starEach [e2] X.env := by rfl)
    (hpl : (backTo pos (starEach [e2] X.env)).any (·.1) = false := by rfl) : PI X (.Tuple elts kk tpos) (.Call (.Name "zip" p) [e, e2] [] pos) (upI (gOf X) (dZip t)) :=
  PI.imp (RZ.pi_zipA hg hm ha hs hpl) fun σ H R ⟨ρ, S, R', hE, hS, q, k⟩ => ⟨ρ, S, _, hE, hS, q, fun vs ds H1 S1 k1 s1 r1 q1 => by
    rcases q1 with ⟨a, b, rfl, q1⟩ | ⟨i, j, a, b, rfl, h1, h2, q1⟩
    · obtain ⟨v, w, rfl, x, y⟩ := reps_two r1
      cases x with
      | tup ht rs =>
        cases y with
        | tup ht2 rs2 => exact ⟨_, _, _, _, rfl, .inr ⟨SqT.of ht, SqT.of ht2, k _ _ _ _ _ k1 s1 (src_zipT ht rs ht2 rs2) q1⟩⟩
    · obtain ⟨v, w, rfl, x, y⟩ := reps_two r1
      cases x
      cases y
      obtain ⟨vs, g1, _⟩ := lst_rd s1 (.inl h1)
      obtain ⟨ws, g2, _⟩ := lst_rd s1 (.inl h2)
      exact ⟨_, _, _, _, rfl, .inl ⟨g1, g2, k _ _ _ _ _ k1 s1 src_zipL q1⟩⟩⟩
theorem id_rngB {a b c : Expr} {t : DA} (hg : Gl X "range") (hm : X.mg "range" = none) (ha : AD X [a, b, c] t) (hs : starEach [a, b, c] X.env = (false, eval a X.env) :: starEach [b, c] X.env := by rfl) (hpl : (backTo pos (starEach [b, c] X.env)).any (·.1) = false := by rfl) :
    PI X tg (.Call (.Name "range" p) [a, b, c] [] pos) (upI (gOf X) (dRngB t)) :=
  PI.imp (pi_range3 hg hm ha hs hpl) fun σ H R ⟨ρ, S, R', hE, hS, q, k⟩ => ⟨ρ, S, _, hE, hS, q, fun vs ds H1 S1 k1 s1 r1 ⟨i, j, e, ⟨h1, h2, h3, h4⟩, q1⟩ => by
    subst e
    cases r1 with
    | cons r1 r2 =>
      obtain ⟨v, w, rfl, x, y⟩ := reps_two r2
      cases r1; cases x; cases y
      exact ⟨i, j, -1, _, rfl, RgC.neg (by omega) (by omega) (by omega) (by omega), k _ _ _ _ _ k1 s1 src_rngC q1⟩⟩
end
end DW
namespace DW
open PySem PySem.Spec PyProof.Rows L2

/-! enumerate(a tuple) -/
set_option maxHeartbeats 1000000 in
theorem enum_new1 {v : Value} {ob : Obj} {G : Heap → Prop} (B : Begins v ob G) :
    Meets (Builtin.«enumerate.__new__» ⟨[.type "enumerate", v], []⟩) (fun _ R s => G s.heap ∧
      R (.ok (.ret (.ref (s.heap.push ob).objs.size))) { s with heap := (s.heap.push ob).push { cls := .type "enumerate", data := .fields #[.none, .bool false, .ref s.heap.objs.size, rawInt 0, .none, .none] } }) :=
  .of_wp fun prog w A R s h => by
    obtain ⟨hp, gs, dr, tk, os⟩ := s
    obtain ⟨hG, hR⟩ := h
    have sub := sub_enumerate
    have it : ∀ {A' : Around} {E : Value → Shared → Prop} {Q : Value → Shared → Prop}, Q (.ref hp.objs.size) ⟨hp.push ob, gs, dr, tk, os⟩ → wpAny (model prog w) A' (pyIter v) Q E ⟨hp, gs, dr, tk, os⟩ :=
      fun q => B.iter prog w _ _ ⟨hp, gs, dr, tk, os⟩ _ hG q
    wp_walk using it
    refine wpAny_stack_any fun stk => wpAny_pure ?_
    split
    · rename_i cc _ _ _ _ _
      cases (cc == Value.type "enumerate") <;> (wp_walk using it; exact ⟨_, rfl, hR⟩)
    · wp_walk using it
      exact ⟨_, rfl, hR⟩
def IteT (K : PySem.W.Frag) (a : Addr) : It :=
  ⟨fun i H => ∃ (xs : List V) (x : V), SqT K H a xs ∧ xs[i]? = some x, fun i H v H' => ∃ T x, v = .ref T ∧ H T = none ∧ H' = upd H T (.tup [.int (i : Nat), x]) ∧ ∀ xs, SqT K H a xs → xs[i]? = some x, fun i H => ∃ xs : List V, SqT K H a xs ∧ xs.length = i⟩
theorem turn_enumT {P : Program} {w : World} {K : PySem.W.Frag} {elts : List Expr} {kk : Nat} {tpos : Pos} (a e it : Addr) :
    Turn P w K (.Tuple elts kk tpos) (IteT K a) [e, it] e (fun i h => (∃ old, IsEnum h e it ((i : Nat) : Int) old) ∧ h.IsTupleIter it a i ∧ e ≠ it ∧ a ≠ e ∧ a ≠ it) where
  mem := by simp
  obj := fun i h st b hb => by
    obtain ⟨⟨old, he⟩, ⟨o, ho, hc, hd⟩, _⟩ := st
    rcases (by simpa using hb : b = e ∨ b = it) with rfl | rfl
    · exact ⟨_, he, fun v q => nomatch q⟩
    · exact ⟨o, ho, fun v q => by rw [hd] at q; cases q⟩
  keep := fun i h h' st k => let ⟨⟨old, he⟩, hi, hne⟩ := st; ⟨⟨old, k e (by simp) _ he⟩, hi.at fun o q => k it (by simp) o q, hne⟩
  item := by
    intro X hP hw hK hc i pins s σ H E I hf st hg
    subst hP hw hK
    obtain ⟨⟨old, he⟩, hit, hne, hae, hai⟩ := st
    obtain ⟨xs, x, hq, hx⟩ := hg
    obtain ⟨its, rv, p, hz⟩ := I.tuple hq
    obtain ⟨u, hu, ru⟩ := rv.get hx
    have hel : e < s.heap.objs.size := Heap.lt_size he
    have hil : it < s.heap.objs.size := by obtain ⟨_, q, _⟩ := hit; exact Heap.lt_size q
    have pt : s.heap.IsTuple a its.toArray := p
    refine wpAny_pyNext_enum_itemC (Draws.tuple (A := X.A.in1) (show X.A.in1.handled = none from I.ok.hd hc) it a hai its.toArray) he ⟨hit, pt⟩ (by have := (List.getElem?_eq_some_iff.mp hu).1; simpa using this) hne (by simp [hne, Ne.symm hae]) fun y h' tk hy ho hst' hT hsz hk => ?_
    have hy' : its[i]? = some y := by simpa using hy
    rw [hu] at hy'
    cases hy'
    refine ⟨_, rfl, wpAny_letOwnedTupleGo_enum (s := { s with heap := h', toks := tk + 1 }) ho fun h'' he' sb => ?_⟩
    have hT2 : h''.get? s.heap.objs.size = some { cls := .type "tuple", data := .seq #[.int (i : Nat) tk, u] } := (sb.2 _ (Nat.ne_of_gt hel)).trans hT
    have new : ObjOk X.prog X.w (upd H s.heap.objs.size (.tup [.int (i : Nat), x])) h'' s.heap.objs.size (.tup [.int (i : Nat), x]) :=
      ⟨by show 2 ≤ sizeLine; decide, [.int (i : Nat) tk, u], .cons ⟨_, rfl⟩ (.cons ru .nil), ⟨_, hT2, rfl, _, rfl⟩⟩
    have I1 : Inv X pins σ (upd H s.heap.objs.size (.tup [.int (i : Nat), x])) { s with heap := h'', toks := tk + 1 } :=
      I.turnedNew (ch := [e, it]) (fun b ob hb q => (sb.2 b (fun z => hb (by simp [z]))).trans (hk b ob (fun z => hb (by simp [z])) (fun z => hb (by simp [z])) q)) hf (Nat.le_refl _) new
    refine ⟨.ref s.heap.objs.size, _, I1, rfl, ⟨_, x, rfl, I.hok.fresh (Nat.le_refl _), rfl, fun ys hy => by rw [I.tuple_inj hy hq]; exact hx⟩, ⟨⟨u, ?_⟩, hst'.1.at fun o q => (sb.2 it (Ne.symm hne)).trans q, hne, hae, hai⟩, fun b hb => ?_⟩
    · rw [show ((i + 1 : Nat) : Int) = (i : Int) + 1 by omega]; exact he'
    · have hb' : b < s.heap.objs.size := by
        rcases (by simpa using hb : b = e ∨ b = it) with rfl | rfl
        · exact hel
        · exact hil
      rw [upd_ne (Nat.ne_of_lt hb')]
      exact (hf b hb).1
  done := by
    intro X hP hw hK hc i pins s σ H E I hf st hg
    subst hP hw hK
    obtain ⟨⟨old, he⟩, hit, hne, hae, hai⟩ := st
    obtain ⟨xs, hq, hx⟩ := hg
    obtain ⟨its, rv, p, hz⟩ := I.tuple hq
    obtain ⟨f0, f1, f2, f3, f4, f5⟩ := hf it (by simp)
    have hl := rv.length
    have pt : s.heap.IsTuple a its.toArray := p
    have hn : i = its.toArray.size := by rw [List.size_toArray]; omega
    subst hn
    exact wpAny_pyNext_enum_endD (Draws.tuple (A := X.A.in1) (show X.A.in1.handled = none from I.ok.hd hc) it a hai its.toArray) he ⟨hit, pt⟩ fun h' eb => ⟨rfl, I.turned (t' := s.toks) (fun b o hb q => eb b o hb q) f0 f1 f3 f4 f5⟩
  self := fun A i s Q E st h => let ⟨⟨_, he⟩, _⟩ := st; wpAny_pyIter_enum he h
theorem pi_enumT {X : Cx} {e : Expr} {ta : TA} {p pos tpos : Pos} {elts : List Expr} {kk : Nat} (hg : Gl X "enumerate") (hm : X.mg "enumerate" = none) (ha : PA X [e] ta) (hs : starEach [e] X.env = [(false, eval e X.env)] := by rfl) :
    PI X (.Tuple elts kk tpos) (.Call (.Name "enumerate" p) [e] [] pos) fun σ H R => ta σ H fun vs H1 => ∃ a xs, vs = [.ref a] ∧ ((SqL X.K H1 a xs ∧ R (Ite X.K a) H1) ∨ (SqT X.K H1 a xs ∧ R (IteT X.K a) H1)) := by
  refine ⟨fun pins s σ H R I h => ?_⟩
  refine Call_ (ld_blt I hg hm boot_enumerate (PyProof.Rows.callWith_type1 (thn (ha.run pos pins s σ H _ I h) fun us s1 ⟨vs, H1, I1, r1, q1⟩ => ?_) hs rfl))
  obtain ⟨a, xs, rfl, q⟩ := q1
  obtain ⟨u, rfl, ru⟩ := vals1 r1
  cases ru
  rcases q with ⟨hq, q⟩ | ⟨hq, q⟩
  · obtain ⟨its, rv, pl, hz⟩ := I1.list hq
    refine call_enumerate_list pl.isList fun h' he hit hsz hk => wpAny_pyIter_enum he ?_
    have I2 : Inv X pins σ H1 { s1 with heap := h' } := I1.kept (t' := s1.toks) hk
    refine ⟨s1.heap.objs.size + 1, [s1.heap.objs.size + 1, s1.heap.objs.size], _, _, H1, rfl, I2, turn_enum a (s1.heap.objs.size + 1) s1.heap.objs.size, ⟨⟨.none, he⟩, hit, Nat.succ_ne_self _⟩, fun b hb => ?_, q⟩
    have hle : s1.heap.objs.size ≤ b := by
      rcases (by simpa using hb : b = s1.heap.objs.size + 1 ∨ b = s1.heap.objs.size) with rfl | rfl <;> omega
    exact I1.fpOk hle (I1.hok.fresh hle)
  · obtain ⟨its, rv, pl, hz⟩ := I1.tuple hq
    have pt : s1.heap.IsTuple a its.toArray := pl
    have hal : a < s1.heap.objs.size := pl.lt
    refine callType_new PySem.F.called_enumerate (by decide) (PySem.F.typeCall_enumerate_1 _) (PySem.F.newCall_enumerate_1 _) (fun obj => PySem.F.args_object_init_2 obj _) PySem.F.entry_enumerate_new (enum_new1 (begins_tuple a its.toArray)) ⟨pt, ?_⟩
    have hz1 : (s1.heap.push { cls := .type "tuple_iterator", data := .fields #[.ref a, .int 0 0] }).objs.size = s1.heap.objs.size + 1 := Heap.size_push ..
    show _ ∧ _
    rw [hz1]
    generalize hh : (s1.heap.push { cls := .type "tuple_iterator", data := .fields #[.ref a, .int 0 0] }).push { cls := .type "enumerate", data := .fields #[.none, .bool false, .ref s1.heap.objs.size, rawInt 0, .none, .none] } = h'
    have he : IsEnum h' (s1.heap.objs.size + 1) s1.heap.objs.size 0 .none := by
      rw [← hh, ← hz1]
      exact Heap.get?_push_size _ rfl
    have hk : ∀ b o, s1.heap.get? b = some o → h'.get? b = some o := fun b o x => by rw [← hh]; exact Heap.get?_push_of_some _ (Heap.get?_push_of_some _ x)
    have hit : h'.IsTupleIter s1.heap.objs.size a 0 := ⟨_, by rw [← hh]; exact Heap.get?_push_of_some _ (Heap.get?_push_size _ rfl), rfl, rfl⟩
    refine ⟨⟨_, he, rfl⟩, wpAny_pyIter_enum (s := { s1 with heap := h' }) he ?_⟩
    have I2 : Inv X pins σ H1 { s1 with heap := h' } := I1.kept (t' := s1.toks) hk
    refine ⟨s1.heap.objs.size + 1, [s1.heap.objs.size + 1, s1.heap.objs.size], _, _, H1, rfl, I2, turn_enumT a (s1.heap.objs.size + 1) s1.heap.objs.size, ⟨⟨.none, he⟩, hit, Nat.succ_ne_self _, Nat.ne_of_lt (Nat.lt_succ_of_lt hal), Nat.ne_of_lt hal⟩, fun b hb => ?_, q⟩
    have hle : s1.heap.objs.size ≤ b := by
      rcases (by simpa using hb : b = s1.heap.objs.size + 1 ∨ b = s1.heap.objs.size) with rfl | rfl <;> omega
    exact I1.fpOk hle (I1.hok.fresh hle)
theorem enum_get : ∀ (xs : List D) (n i : Nat) (d : D), (enumFrom n xs)[i]? = some d → ∃ a, xs[i]? = some a ∧ d = .tup [.int ((n + i : Nat) : Int), a]
  | [], _, _, _, e => by simp [enumFrom] at e
  | x :: xs, n, 0, d, e => by simp [enumFrom] at e; exact ⟨x, rfl, e.symm⟩
  | x :: xs, n, i + 1, d, e => by
    obtain ⟨a, h1, h2⟩ := enum_get xs (n + 1) i d (by simpa [enumFrom] using e)
    exact ⟨a, by simpa using h1, by rw [h2]; congr 4; omega⟩
theorem enum_length : ∀ (xs : List D) (n : Nat), (enumFrom n xs).length = xs.length
  | [], _ => rfl
  | x :: xs, n => by simp [enumFrom, enum_length xs]
theorem src_enumT {K : G} {H0 : Hp} {a : Addr} {xs : List D} {vs : List V} (h : H0 a = some (.tup vs)) (r : Reps K H0 xs vs) : Src K H0 (IteT K.K a) (enumFrom 0 xs) fun _ => True where
  go := fun i S H kp hS g hi => by
    obtain ⟨x, e1, _⟩ := enum_get _ _ _ _ (List.getElem?_eq_getElem hi)
    obtain ⟨v, f1, _⟩ := r.get e1
    exact ⟨vs, v, SqT.of (kp _ _ h), f1⟩
  yld := fun i S H x H' d kp hS g e y => by
    obtain ⟨T, v, rfl, hT, rfl, y1⟩ := y
    obtain ⟨a', e1, rfl⟩ := enum_get _ _ _ _ e
    obtain ⟨v', f1, q1⟩ := r.get e1
    have z1 := y1 vs (SqT.of (kp _ _ h))
    rw [f1] at z1; cases z1
    have k2 := Keep.new (K := K) (o := .tup [.int (i : Nat), v]) hT
    rw [Nat.zero_add]
    exact ⟨k2, hS.new hT, .tup upd_same (.cons (.int _) (.cons (q1.keep (kp.trans k2)) .nil))⟩
  stop := fun S H kp hS g => ⟨vs, SqT.of (kp _ _ h), by rw [enum_length]; exact r.length.symm⟩
theorem src_enumL {K : G} {H0 : Hp} {p : Addr} {xs : List D} : Src K H0 (Ite K.K p) (enumFrom 0 xs) fun S => S p = some (.lst xs) where
  go := fun i S H kp hS g hi => by
    obtain ⟨vs, h, r⟩ := lst_rd hS (.inl g)
    obtain ⟨x, e1, _⟩ := enum_get _ _ _ _ (List.getElem?_eq_getElem hi)
    obtain ⟨v, f1, _⟩ := r.get e1
    exact ⟨vs, v, h, f1⟩
  yld := fun i S H x H' d kp hS g e y => by
    obtain ⟨vs, h, r⟩ := lst_rd hS (.inl g)
    obtain ⟨T, v, rfl, hT, rfl, y1⟩ := y
    obtain ⟨a', e1, rfl⟩ := enum_get _ _ _ _ e
    obtain ⟨v', f1, q1⟩ := r.get e1
    have z1 := y1 vs h
    rw [f1] at z1; cases z1
    have k2 := Keep.new (K := K) (o := .tup [.int (i : Nat), v]) hT
    rw [Nat.zero_add]
    exact ⟨k2, hS.new hT, .tup upd_same (.cons (.int _) (.cons (q1.keep k2) .nil))⟩
  stop := fun S H kp hS g => by
    obtain ⟨vs, h, r⟩ := lst_rd hS (.inl g)
    exact ⟨vs, h, by rw [enum_length, r.length]; exact Nat.le_refl _⟩
def dEnum (t : DA) : DI := fun ρ S R => t ρ S fun xs S1 => (∃ a, xs = [.tup a] ∧ R (enumFrom 0 a) (fun _ => True) S1) ∨ (∃ p a, xs = [.ref p] ∧ S1 p = some (.lst a) ∧ R (enumFrom 0 a) (fun S => S p = some (.lst a)) S1)
theorem id_enum {X : Cx} {e : Expr} {t : DA} {p pos tpos : Pos} {elts : List Expr} {kk : Nat} (hg : Gl X "enumerate") (hm : X.mg "enumerate" = none) (ha : AD X [e] t) (hs : starEach [e] X.env = [(false, eval e X.env)] := by rfl) :
    PI X (.Tuple elts kk tpos) (.Call (.Name "enumerate" p) [e] [] pos) (upI (gOf X) (dEnum t)) :=
  PI.imp (pi_enumT hg hm ha hs) fun σ H R ⟨ρ, S, R', hE, hS, q, k⟩ => ⟨ρ, S, _, hE, hS, q, fun vs ds H1 S1 k1 s1 r1 q1 => by
    rcases q1 with ⟨a, rfl, q1⟩ | ⟨i, a, rfl, h1, q1⟩
    · obtain ⟨v, rfl, x⟩ := reps_one r1
      cases x with
      | tup ht rs => exact ⟨_, _, rfl, .inr ⟨SqT.of ht, k _ _ _ _ _ k1 s1 (src_enumT ht rs) q1⟩⟩
    · obtain ⟨v, rfl, x⟩ := reps_one r1
      cases x
      obtain ⟨vs, g1, _⟩ := lst_rd s1 (.inl h1)
      exact ⟨_, _, rfl, .inl ⟨g1, k _ _ _ _ _ k1 s1 src_enumL q1⟩⟩⟩
end DW
namespace DW
open PySem PySem.Spec PyProof.Rows L2

/-! ## 11. Targets -/
inductive Tg where
  | nm (i : Nat) | tp (is : List Nat)
def gNms : List Nat → L2.TGs
  | [] => gNil
  | i :: is => gCons (gName i) (gNms is)
def Tg.v (K : PySem.W.Frag) : Tg → L2.TG
  | .nm i => gName i
  | .tp is => gTup K is.length (gNms is)
def Tg.slots : Tg → List Nat
  | .nm i => [i]
  | .tp is => is
def setAll : REnv → List Nat → List D → REnv
  | ρ, i :: is, d :: ds => setAll (ρ.set i (some d)) is ds
  | ρ, _, _ => ρ
def Tg.d : Tg → D → REnv → Option REnv
  | .nm i, d, ρ => some (ρ.set i (some d))
  | .tp is, .tup ds, ρ => if ds.length = is.length then some (setAll ρ is ds) else none
  | _, _, _ => none
def wipeD (ρ : REnv) : List Nat → REnv
  | [] => ρ
  | v :: vs => (wipeD ρ vs).set v none
theorem wipe_e {K : G} {H : Hp} {ρ : REnv} {σ : L2.St} (h : ERel K H ρ σ) : ∀ vs : List Nat, ERel K H (wipeD ρ vs) (wipe σ vs)
  | [] => h
  | v :: vs => (wipe_e h vs).forget
theorem set_set_comm {α : Type} (l : List α) {i j : Nat} (a b : α) (h : i ≠ j) : (l.set i a).set j b = (l.set j b).set i a := List.set_comm a b h
theorem wipe_length (σ : L2.St) : ∀ vs : List Nat, (wipe σ vs).length = σ.length
  | [] => rfl
  | v :: vs => by simp [wipe, wipe_length σ vs]
theorem wipe_set (σ : L2.St) (i : Nat) (x : Option V) : ∀ vs : List Nat, i ∈ vs → wipe (σ.set i x) vs = wipe σ vs
  | [], h => by cases h
  | v :: vs, h => by
    by_cases hv : i ∈ vs
    · simp only [wipe, wipe_set σ i x vs hv]
    · rcases List.mem_cons.mp h with e | h
      · subst e
        simp only [wipe]
        have : ∀ ws : List Nat, i ∉ ws → wipe (σ.set i x) ws = (wipe σ ws).set i x := by
          intro ws
          induction ws with
          | nil => intro _; rfl
          | cons w ws ih =>
            intro hw
            simp only [List.mem_cons, not_or] at hw
            simp only [wipe, ih hw.2]
            exact set_set_comm _ _ _ hw.1
        rw [this vs hv, List.set_set]
      · exact absurd h hv
theorem wipe_wipe (σ : L2.St) (vs : List Nat) : wipe (wipe σ vs) vs = wipe σ vs := by
  have : ∀ ws : List Nat, (∀ i ∈ ws, i ∈ vs) → wipe (wipe σ ws) vs = wipe σ vs := by
    intro ws
    induction ws with
    | nil => intro _; rfl
    | cons w ws ih =>
      intro h
      simp only [wipe]
      rw [wipe_set _ _ _ _ (h w List.mem_cons_self)]
      exact ih fun i hi => h i (List.mem_cons_of_mem _ hi)
  exact this vs fun _ h => h
theorem gNms_run {K : G} {H : Hp} : ∀ (is : List Nat) (ds : List D) (vs : List V) (ρ : REnv) (σ : L2.St), ERel K H ρ σ → Reps K H ds vs → ds.length = is.length →
    ∃ σ', ERel K H (setAll ρ is ds) σ' ∧ (∀ Q : L2.St → Hp → Prop, Q σ' H → gNms is vs σ H Q) ∧ ∀ ws, (∀ i ∈ is, i ∈ ws) → wipe σ' ws = wipe σ ws
  | [], [], _, ρ, σ, hE, .nil, _ => ⟨σ, hE, fun Q h => ⟨rfl, h⟩, fun _ _ => rfl⟩
  | [], _ :: _, _, _, _, _, _, e => by simp at e
  | _ :: _, [], _, _, _, _, _, e => by simp at e
  | i :: is, d :: ds, _, ρ, σ, hE, .cons r t, e => by
    obtain ⟨σ', h1, h2, h3⟩ := gNms_run is ds _ (ρ.set i (some d)) (σ.set i (some _)) (hE.set r) t (by simpa using e)
    refine ⟨σ', h1, fun Q h => ⟨_, _, rfl, h2 Q h⟩, fun ws hw => ?_⟩
    rw [h3 ws fun j hj => hw j (List.mem_cons_of_mem _ hj)]
    exact wipe_set _ _ _ _ (hw i List.mem_cons_self)
theorem Tg.run {K : G} {H : Hp} (T : Tg) {d : D} {v : V} {ρ ρ' : REnv} {σ : L2.St} (hE : ERel K H ρ σ) (r : Rep K H d v) (e : T.d d ρ = some ρ') :
    ∃ σ', ERel K H ρ' σ' ∧ (∀ Q : L2.St → Hp → Prop, Q σ' H → T.v K.K v σ H Q) ∧ ∀ ws, (∀ i ∈ T.slots, i ∈ ws) → wipe σ' ws = wipe σ ws := by
  cases T with
  | nm i =>
    cases e
    exact ⟨_, hE.set r, fun Q h => h, fun ws hw => wipe_set _ _ _ _ (hw i (by simp [Tg.slots]))⟩
  | tp is =>
    cases r <;> try (cases e)
    rename_i a vs ds h t
    simp only [Tg.d] at e
    split at e
    · next hl =>
      cases e
      obtain ⟨σ', h1, h2, h3⟩ := gNms_run is ds vs ρ σ hE t hl
      exact ⟨σ', h1, fun Q q => ⟨a, vs, rfl, SqT.of h, by rw [← t.length]; exact hl, h2 Q q⟩, h3⟩
    · cases e

/-! ## 12. Comprehensions -/
def dYes : DT := fun _ S Q => Q true S
def dLc (wi : DI) (T : Tg) (tt : DT) (te : DE) (vs : List Nat) : DE := fun ρ S Q => wi ρ S fun items guard S1 => ∀ p, S1 p = none → ∃ P : Nat → List D → Sto → Prop, P 0 [] (put S1 p (.lst [])) ∧
  (∀ i d acc S2, items[i]? = some d → P i acc S2 → guard S2 ∧ ∃ ρ2, T.d d (wipeD ρ vs) = some ρ2 ∧ tt ρ2 S2 fun b S3 => if b = true then te ρ2 S3 fun y S4 => S4 p = some (.lst acc) ∧ acc.length < sizeLine ∧ ∃ S5, Sub S5 (put S4 p (.lst (acc ++ [y]))) ∧ P (i + 1) (acc ++ [y]) S5
    else ∃ S5, Sub S5 S3 ∧ P (i + 1) acc S5) ∧ ∀ acc S2, P items.length acc S2 → guard S2 ∧ Q (.ref p) S2
/-- the element and the test change nothing and draw nothing -/
def dLcP (wi : DI) (T : Tg) (tt : DT) (te : DE) (vs : List Nat) : DE := fun ρ S Q => wi ρ S fun items guard S1 => ∃ (α : Type) (xs : List α) (g : α → D) (kp : α → Bool) (f : α → D), items = xs.map g ∧ (∀ S2, Sub S1 S2 → guard S2) ∧
  (∀ x ∈ xs, ∀ S2, Sub S1 S2 → ∃ ρ2, T.d (g x) (wipeD ρ vs) = some ρ2 ∧ tt ρ2 S2 fun b S3 => Sub S2 S3 ∧ b = kp x ∧ (b = true → te ρ2 S3 fun y S4 => Sub S2 S4 ∧ y = f x)) ∧
  xs.length ≤ sizeLine ∧ ∀ p, S1 p = none → Q (.ref p) (put S1 p (.lst ((xs.filter kp).map f)))
section
variable {X : Cx} {elt tg iter : Expr} {ifs : List Expr} {scope : Scope} {own : List (Str × Nat)} {pos : Pos} {wi : DI} {T : Tg} {tt : DT} {te : DE}
theorem PTs.imp {ifs : List Expr} {t t' : TT} (h : PTs X ifs t) (i : ∀ σ H Q, t' σ H Q → t σ H Q) : PTs X ifs t' := ⟨fun pins s σ H Q I q => h.run pins s σ H Q I (i _ _ _ q)⟩
theorem td_nil : PTs X [] (upT (gOf X) dYes) := PTs.imp pts_nil fun σ H Q ⟨ρ, S, Q', hE, hS, q, k⟩ => k _ H S Keep.refl hS q
theorem td_one {c : Expr} {t : DT} (h : TD X c t) : PTs X [c] (upT (gOf X) t) := pts_one h
theorem lc_up {σ : L2.St} {H : Hp} {Q : VK} (hv : ∀ i ∈ T.slots, i ∈ own.map (·.2)) (h : upE (gOf X) (dLc wi T tt te (own.map (·.2))) σ H Q) :
    tLc (upI (gOf X) wi) (T.v X.K) (upT (gOf X) tt) (upE (gOf X) te) (own.map (·.2)) σ H Q := by
  obtain ⟨ρ, S, Q', hE, hS, q, k⟩ := h
  refine ⟨ρ, S, _, hE, hS, q, fun J items guard H1 S1 k1 s1 src q1 p hp => ?_⟩
  obtain ⟨P, h0, hs, hd⟩ := q1 p (s1.free hp)
  have kp := Keep.new (K := gOf X) (o := .lst []) hp
  refine ⟨fun i m H2 => m = items.length - i ∧ i ≤ items.length ∧ ∃ acc S2, Keep (gOf X) H1 H2 ∧ SRel (gOf X) S2 H2 ∧ P i acc S2, ⟨items.length, by simp, Nat.zero_le _, [], _, kp, s1.putNew hp (.ofLst upd_same .nil), h0⟩, ?_⟩
  rintro i m H2 ⟨rfl, hi, acc, S2, k2, s2, hP⟩
  by_cases hlt : i < items.length
  · obtain ⟨g2, ρ2, e2, q2⟩ := hs i _ acc S2 (List.getElem?_eq_getElem hlt) hP
    refine .inr ⟨src.go i S2 H2 k2 s2 g2 hlt, fun H3 => ∃ acc S3, Keep (gOf X) H1 H3 ∧ SRel (gOf X) S3 H3 ∧ P (i + 1) acc S3, fun H3 ⟨a3, S3, k3, s3, p3⟩ => ⟨items.length - (i + 1), by omega, rfl, hlt, a3, S3, k3, s3, p3⟩, fun x H3 y => ?_⟩
    obtain ⟨k3, s3, r3⟩ := src.yld i S2 H2 x H3 _ k2 s2 g2 (List.getElem?_eq_getElem hlt) y
    have k13 := (k1.trans k2).trans k3
    obtain ⟨σ', f1, f2, f3⟩ := Tg.run T ((wipe_e hE (own.map (·.2))).keep k13) r3 e2
    refine f2 _ ⟨(f3 _ hv).trans (wipe_wipe _ _), ?_⟩
    refine ⟨ρ2, S2, _, f1, s3, q2, fun b H4 S4 k4 s4 q4 => ?_⟩
    cases b with
    | false =>
      rw [if_neg Bool.false_ne_true] at q4 ⊢
      obtain ⟨S5, u5, p5⟩ := q4
      exact ⟨acc, S5, (k2.trans k3).trans k4, s4.sub u5, p5⟩
    | true =>
      rw [if_pos rfl] at q4 ⊢
      refine ⟨ρ2, S4, _, f1.keep k4, s4, q4, fun v d H5 S5 k5 s5 r5 ⟨e5, l5, S6, u6, p6⟩ => ?_⟩
      obtain ⟨vs, g5, rs⟩ := s5 _ _ e5
      have k6 : Keep (gOf X) H5 (upd H5 p (.lst (vs ++ [v]))) := Keep.lst g5
      exact ⟨vs, g5, by rw [← rs.length]; exact l5, acc ++ [d], S6, (((k2.trans k3).trans k4).trans k5).trans k6, (s5.put k6 (.ofLst upd_same ((rs.append (.cons r5 .nil)).keep k6))).sub u6, p6⟩
  · obtain rfl : i = items.length := by omega
    obtain ⟨g2, q2⟩ := hd acc S2 hP
    exact .inl ⟨src.stop S2 H2 k2 s2 g2, k _ _ H2 S2 (k1.trans k2) s2 (.ref p) q2⟩
theorem lcP_up {σ : L2.St} {H : Hp} {Q : VK} (hv : ∀ i ∈ T.slots, i ∈ own.map (·.2)) (h : upE (gOf X) (dLcP wi T tt te (own.map (·.2))) σ H Q) :
    tLc (upI (gOf X) wi) (T.v X.K) (upT (gOf X) tt) (upE (gOf X) te) (own.map (·.2)) σ H Q := by
  obtain ⟨ρ, S, Q', hE, hS, q, k⟩ := h
  refine ⟨ρ, S, _, hE, hS, q, fun J items guard H1 S1 k1 s1 src q1 p hp => ?_⟩
  obtain ⟨α, xs, g, kp, f, rfl, hG, hs, hz, hd⟩ := q1
  have kn := Keep.new (K := gOf X) (o := .lst []) hp
  have hf := s1.free hp
  have len : (xs.map g).length = xs.length := List.length_map ..
  have sb : ∀ ds, Sub S1 (put S1 p (.lst ds)) := fun ds => Sub.new hf
  refine ⟨fun i m H2 => m = xs.length - i ∧ i ≤ xs.length ∧ Keep (gOf X) H1 H2 ∧ SRel (gOf X) (put S1 p (.lst (((xs.take i).filter kp).map f))) H2, ⟨xs.length, by simp, Nat.zero_le _, kn, by simpa using s1.putNew hp (.ofLst upd_same .nil)⟩, ?_⟩
  rintro i m H2 ⟨rfl, hi, k2, s2⟩
  by_cases hlt : i < xs.length
  · obtain ⟨ρ2, e2, q2⟩ := hs xs[i] (List.getElem_mem hlt) _ (sb _)
    have g2 := hG _ (sb (((xs.take i).filter kp).map f))
    have hg : (xs.map g)[i]? = some (g xs[i]) := by rw [List.getElem?_map, List.getElem?_eq_getElem hlt]; rfl
    have tk : xs.take (i + 1) = xs.take i ++ [xs[i]] := by rw [List.take_succ, List.getElem?_eq_getElem hlt]; rfl
    refine .inr ⟨src.go i _ H2 k2 s2 g2 (by rw [len]; exact hlt), fun H3 => Keep (gOf X) H1 H3 ∧ SRel (gOf X) (put S1 p (.lst (((xs.take (i + 1)).filter kp).map f))) H3, fun H3 ⟨k3, s3⟩ => ⟨xs.length - (i + 1), by omega, rfl, hlt, k3, s3⟩, fun x H3 y => ?_⟩
    obtain ⟨k3, s3, r3⟩ := src.yld i _ H2 x H3 _ k2 s2 g2 hg y
    have k13 := (k1.trans k2).trans k3
    obtain ⟨σ', f1, f2, f3⟩ := Tg.run T ((wipe_e hE (own.map (·.2))).keep k13) r3 e2
    refine f2 _ ⟨(f3 _ hv).trans (wipe_wipe _ _), ?_⟩
    refine ⟨ρ2, _, _, f1, s3, q2, fun b H4 S4 k4 s4 ⟨u4, eb, q4⟩ => ?_⟩
    cases b with
    | false =>
      rw [if_neg Bool.false_ne_true]
      refine ⟨(k2.trans k3).trans k4, ?_⟩
      rw [tk, List.filter_append, List.filter_cons_of_neg (by rw [← eb]; exact Bool.false_ne_true), List.filter_nil, List.append_nil]
      exact s4.sub u4
    | true =>
      rw [if_pos rfl]
      refine ⟨ρ2, S4, _, f1.keep k4, s4, q4 rfl, fun v d H5 S5 k5 s5 r5 ⟨u5, ed⟩ => ?_⟩
      have e5 : S5 p = some (.lst (((xs.take i).filter kp).map f)) := u5 _ _ put_same
      obtain ⟨vs, g5, rs⟩ := s5 _ _ e5
      have k6 : Keep (gOf X) H5 (upd H5 p (.lst (vs ++ [v]))) := Keep.lst g5
      have l5 : vs.length < sizeLine := by
        rw [← rs.length, List.length_map]
        have h1 := List.length_filter_le kp (xs.take i)
        have h2 := List.length_take_le i xs
        omega
      refine ⟨vs, g5, l5, (((k2.trans k3).trans k4).trans k5).trans k6, ?_⟩
      rw [tk, List.filter_append, List.filter_cons_of_pos (by rw [← eb]), List.filter_nil, List.map_append, List.map_singleton, ← ed]
      have base : SRel (gOf X) S1 H5 := s5.sub ((sb _).trans u5)
      exact base.put k6 (.ofLst upd_same ((rs.append (.cons r5 .nil)).keep k6))
  · obtain rfl : i = xs.length := by omega
    have g2 := hG _ (sb (((xs.take xs.length).filter kp).map f))
    have st := src.stop _ H2 k2 s2 g2
    rw [len] at st
    refine .inl ⟨st, k _ _ H2 _ (k1.trans k2) s2 (.ref p) ?_⟩
    rw [List.take_length]
    exact hd p hf
end
end DW
namespace DW
open PySem PySem.Spec PyProof.Rows L2

/-! ## 13. Statements -/
structure DEnds where
  nx : REnv → Sto → Prop
  rt : DQ
  bk : REnv → Sto → Prop := fun _ _ => False
  ct : REnv → Sto → Prop := fun _ _ => False
abbrev DS := DEnds → REnv → Sto → Prop
structure EnR (K : G) (H : Hp) (E : DEnds) (D : L2.Ends) : Prop where
  nx : ∀ σ' H' ρ' S', Keep K H H' → ERel K H' ρ' σ' → SRel K S' H' → E.nx ρ' S' → D.nx σ' H'
  rt : ∀ v d H' S', Keep K H H' → SRel K S' H' → Rep K H' d v → E.rt d S' → D.rt v H'
  bk : ∀ σ' H' ρ' S', Keep K H H' → ERel K H' ρ' σ' → SRel K S' H' → E.bk ρ' S' → D.bk σ' H'
  ct : ∀ σ' H' ρ' S', Keep K H H' → ERel K H' ρ' σ' → SRel K S' H' → E.ct ρ' S' → D.ct σ' H'
theorem EnR.keep {K : G} {H H1 : Hp} {E : DEnds} {D : L2.Ends} (h : EnR K H E D) (k : Keep K H H1) : EnR K H1 E D :=
  ⟨fun a b c d k1 => h.nx a b c d (k.trans k1), fun a b c d k1 => h.rt a b c d (k.trans k1), fun a b c d k1 => h.bk a b c d (k.trans k1), fun a b c d k1 => h.ct a b c d (k.trans k1)⟩
def upS (K : G) (t : DS) : TS := fun D σ H => ∃ ρ S E, ERel K H ρ σ ∧ SRel K S H ∧ t E ρ S ∧ EnR K H E D
abbrev SD (X : Cx) (st : Stmt) (t : DS) : Prop := PS X st (upS (gOf X) t)
abbrev BD (X : Cx) (sts : List Stmt) (t : DS) : Prop := PSs X sts (upS (gOf X) t)
/-- fewer slots known -/
def RSub (ρ0 ρ : REnv) : Prop := ρ0.length = ρ.length ∧ ∀ (i : Nat) d, ρ0[i]? = some (some d) → ρ[i]? = some (some d)
theorem RSub.refl {ρ : REnv} : RSub ρ ρ := ⟨rfl, fun _ _ h => h⟩
theorem ERel.sub {K : G} {H : Hp} {ρ ρ0 : REnv} {σ : L2.St} (h : ERel K H ρ σ) (r : RSub ρ0 ρ) : ERel K H ρ0 σ := ⟨r.1.trans h.1, fun i d e => h.2 i d (r.2 i d e)⟩

def dNext : DS := fun E ρ S => E.nx ρ S
def dSeqS (t u : DS) : DS := fun E ρ S => t { E with nx := u E } ρ S
def dBreak : DS := fun E ρ S => E.bk ρ S
def dCont : DS := fun E ρ S => E.ct ρ S
def dDrop (te : DE) : DS := fun E ρ S => te ρ S fun _ S1 => E.nx ρ S1
def dRet (te : DE) : DS := fun E ρ S => te ρ S E.rt
def dRetN : DS := fun E _ S => E.rt .non S
def dIfS (c : DT) (t u : DS) : DS := fun E ρ S => c ρ S fun b S1 => if b = true then t E ρ S1 else u E ρ S1
def dNever : DS := fun _ _ _ => False
def dAsg (te : DE) (T : Tg) : DS := fun E ρ S => te ρ S fun d S1 => ∃ ρ', T.d d ρ = some ρ' ∧ E.nx ρ' S1
def dPar (i j : Nat) (ta : DA) : DS := fun E ρ S => ta ρ S fun ds S1 => ∃ a b, ds = [a, b] ∧ E.nx ((ρ.set i (some a)).set j (some b)) S1
def dPar3 (i j l : Nat) (ta : DA) : DS := fun E ρ S => ta ρ S fun ds S1 => ∃ a b c, ds = [a, b, c] ∧ E.nx (((ρ.set i (some a)).set j (some b)).set l (some c)) S1
/-- o[k] = v -/
def aSet (o k v : D) (S : Sto) (Q : Sto → Prop) : Prop := match o with
  | .ref p => (∃ xs i j, S p = some (.lst xs) ∧ k = .int i ∧ ixN xs.length i = some j ∧ Q (put S p (.lst (xs.set j v)))) ∨
    ∃ kvs, S p = some (.dic kvs) ∧ keyOk kvs k ∧ kvs.length < sizeLine ∧ Q (put S p (.dic (putD kvs k v)))
  | _ => False
def dPut (to ti tv : DE) : DS := fun E ρ S => tv ρ S fun v S1 => to ρ S1 fun o S2 => ti ρ S2 fun k S3 => aSet o k v S3 (E.nx ρ)
def dAug (i : Nat) (r : DOp) (te : DE) : DS := fun E ρ S => ∃ x, ρ[i]? = some (some x) ∧ te ρ S fun y S1 => r x y S1 fun z S2 => E.nx (ρ.set i (some z)) S2
def dFor (wi : DI) (T : Tg) (tb : DS) : DS := fun E ρ S => wi ρ S fun items guard S1 => ∃ P : Nat → REnv → Sto → Prop, P 0 ρ S1 ∧
  (∀ i d ρ1 S2, items[i]? = some d → P i ρ1 S2 → guard S2 ∧ ∃ ρ2, T.d d ρ1 = some ρ2 ∧
    tb { E with nx := fun ρ' S' => ∃ ρ0 S0, RSub ρ0 ρ' ∧ Sub S0 S' ∧ P (i + 1) ρ0 S0, ct := fun ρ' S' => ∃ ρ0 S0, RSub ρ0 ρ' ∧ Sub S0 S' ∧ P (i + 1) ρ0 S0, bk := E.nx } ρ2 S2) ∧
  ∀ ρ1 S2, P items.length ρ1 S2 → guard S2 ∧ E.nx ρ1 S2
def dWhile (tc : DT) (tb : DS) : DS := fun E ρ S => ∃ P : Nat → REnv → Sto → Prop, (∃ m, P m ρ S) ∧ ∀ m ρ1 S1, P m ρ1 S1 → tc ρ1 S1 fun b S2 => if b = true then
    tb { E with nx := fun ρ' S' => ∃ m' ρ0 S0, m' < m ∧ RSub ρ0 ρ' ∧ Sub S0 S' ∧ P m' ρ0 S0, ct := fun ρ' S' => ∃ m' ρ0 S0, m' < m ∧ RSub ρ0 ρ' ∧ Sub S0 S' ∧ P m' ρ0 S0, bk := E.nx } ρ1 S2
  else E.nx ρ1 S2
section
variable {X : Cx} {st : Stmt} {rest sts : List Stmt} {t u : DS} {e : Expr} {te : DE} {pos : Pos}
theorem bd_nil : BD X [] dNext := PSs.imp pss_nil fun σ H D ⟨ρ, S, E, hE, hS, q, k⟩ => k.nx _ _ _ _ Keep.refl hE hS q
theorem bd_cons (h1 : SD X st t) (h2 : BD X rest u) : BD X (st :: rest) (dSeqS t u) := PSs.imp (pss_cons h1 h2) fun σ H D ⟨ρ, S, E, hE, hS, q, k⟩ =>
  ⟨ρ, S, { E with nx := u E }, hE, hS, q, ⟨fun σ' H' ρ' S' k1 e1 s1 q1 => ⟨ρ', S', E, e1, s1, q1, k.keep k1⟩, k.rt, k.bk, k.ct⟩⟩
theorem bd_one (h1 : SD X st t) : BD X [st] t := pss_one h1
theorem sd_pass : SD X (.Pass pos) dNext := PS.imp ps_pass fun σ H D ⟨ρ, S, E, hE, hS, q, k⟩ => k.nx _ _ _ _ Keep.refl hE hS q
theorem sd_break : SD X (.Break pos) dBreak := PS.imp ps_break fun σ H D ⟨ρ, S, E, hE, hS, q, k⟩ => k.bk _ _ _ _ Keep.refl hE hS q
theorem sd_cont : SD X (.Continue pos) dCont := PS.imp ps_continue fun σ H D ⟨ρ, S, E, hE, hS, q, k⟩ => k.ct _ _ _ _ Keep.refl hE hS q
theorem sd_expr (he : ED X e te) (hs : swapsWith e none pos.line X.env = pure false := by rfl) : SD X (.Expr e pos) (dDrop te) := PS.imp (ps_expr he hs) fun σ H D ⟨ρ, S, E, hE, hS, q, k⟩ =>
  ⟨ρ, S, _, hE, hS, q, fun v d H' S' k1 s1 r1 q1 => k.nx _ _ _ _ k1 (hE.keep k1) s1 q1⟩
theorem sd_ret (he : ED X e te) : SD X (.Return (some e) pos) (dRet te) := PS.imp (ps_ret he) fun σ H D ⟨ρ, S, E, hE, hS, q, k⟩ => ⟨ρ, S, _, hE, hS, q, k.rt⟩
theorem sd_retN : SD X (.Return none pos) dRetN := PS.imp ps_retN fun σ H D ⟨ρ, S, E, hE, hS, q, k⟩ => k.rt _ _ _ _ Keep.refl hS .non q
theorem sd_if {c : Expr} {a b : List Stmt} {tc : DT} (hc : TD X c tc) (ha : BD X a t) (hb : BD X b u) : SD X (.If c a b pos) (dIfS tc t u) := PS.imp (ps_if hc ha hb) fun σ H D ⟨ρ, S, E, hE, hS, q, k⟩ =>
  ⟨ρ, S, _, hE, hS, q, fun b H' S' k1 s1 q1 => by
    cases b with
    | true => rw [if_pos rfl] at q1 ⊢; exact ⟨ρ, S', E, hE.keep k1, s1, q1, k.keep k1⟩
    | false => rw [if_neg Bool.false_ne_true] at q1 ⊢; exact ⟨ρ, S', E, hE.keep k1, s1, q1, k.keep k1⟩⟩
theorem sd_never : SD X st dNever := PS.imp ps_never fun σ H D ⟨ρ, S, E, hE, hS, q, k⟩ => q.elim
theorem bd_never : BD X sts dNever := PSs.imp pss_never fun σ H D ⟨ρ, S, E, hE, hS, q, k⟩ => q.elim
theorem sd_asg {tg : Expr} {T : Tg} (he : ED X e te) (hg : PG X tg (T.v X.K)) (hs : swapsWithSole [tg] e pos.line X.env = pure false := by rfl) (hw : swappedStores [tg] e X.env = pure none := by rfl)
    (h1 : (assignEach [tg] X.env).map (·.2) = [assign tg X.env] := by rfl) : SD X (.Assign [tg] e pos) (dAsg te T) := PS.imp (ps_asg he hg hs hw h1) fun σ H D ⟨ρ, S, E, hE, hS, q, k⟩ =>
  ⟨ρ, S, _, hE, hS, q, fun v d H' S' k1 s1 r1 ⟨ρ', e1, q1⟩ => by
    obtain ⟨σ', f1, f2, _⟩ := Tg.run (K := gOf X) T (hE.keep k1) r1 e1
    exact f2 _ (k.nx _ _ _ _ k1 f1 s1 q1)⟩
theorem sd_set (i : Nat) {x : Str} {pos' : Pos} (he : ED X e te) (hN : X.N.Nodup) (hi : X.N[i]? = some x := by rfl) (hx : Loc X.env.scope x := by exact .inl rfl) (hs : swapsWith e (some (.Name x pos')) pos.line X.env = pure false := by rfl) (hf : X.fn x = true ∨ X.env.scope.names.lookup x = some .local := by exact .inr rfl) :
    SD X (.Assign [.Name x pos'] e pos) (dAsg te (.nm i)) := PS.imp (ps_set (i := i) hN hi hx he hs hf) fun σ H D ⟨ρ, S, E, hE, hS, q, k⟩ =>
  ⟨ρ, S, _, hE, hS, q, fun v d H' S' k1 s1 r1 ⟨ρ', e1, q1⟩ => by
    cases e1
    exact k.nx _ _ _ _ k1 ((hE.keep k1).set r1) s1 q1⟩
theorem sd_par {i j : Nat} {x y : Str} {a b : Expr} {ta : DA} {px py pt : Pos} {kt k2 pt2} (hc : X.calm = true) (hN : X.N.Nodup) (hi : X.N[i]? = some x) (hj : X.N[j]? = some y) (hij : i ≠ j)
    (hx : X.env.scope.names.lookup x = some .local) (hy : X.env.scope.names.lookup y = some .local) (ha : AD X [a, b] ta)
    (hw : swappedStores [.Tuple [.Name x px, .Name y py] kt pt] (.Tuple [a, b] k2 pt2) X.env = pure (some [x, y]))
    (hs : swapsWithSole [.Tuple [.Name x px, .Name y py] kt pt] (.Tuple [a, b] k2 pt2) pos.line X.env = pure false := by rfl) :
    SD X (.Assign [.Tuple [.Name x px, .Name y py] kt pt] (.Tuple [a, b] k2 pt2) pos) (dPar i j ta) := PS.imp (ps_par hc hN hi hj hij hx hy ha hw hs) fun σ H D ⟨ρ, S, E, hE, hS, q, k⟩ =>
  ⟨ρ, S, _, hE, hS, q, fun vs ds H' S' k1 s1 r1 ⟨a, b, e1, q1⟩ => by
    subst e1
    obtain ⟨v, w, rfl, r2, r3⟩ := reps_two r1
    exact ⟨v, w, rfl, k.nx _ _ _ _ k1 (((hE.keep k1).set r2).set r3) s1 q1⟩⟩
theorem sd_par3 {i j l : Nat} {x y z : Str} {a b c : Expr} {ta : DA} {px py pz pt : Pos} {kt k2 pt2} (hc : X.calm = true) (hN : X.N.Nodup) (hi : X.N[i]? = some x) (hj : X.N[j]? = some y) (hl : X.N[l]? = some z) (hij : i ≠ j) (hil : i ≠ l) (hjl : j ≠ l)
    (hx : X.env.scope.names.lookup x = some .local) (hy : X.env.scope.names.lookup y = some .local) (hz : X.env.scope.names.lookup z = some .local) (ha : AD X [a, b, c] ta)
    (hw : swappedStores [.Tuple [.Name x px, .Name y py, .Name z pz] kt pt] (.Tuple [a, b, c] k2 pt2) X.env = pure (some [x, y, z]))
    (hs : swapsWithSole [.Tuple [.Name x px, .Name y py, .Name z pz] kt pt] (.Tuple [a, b, c] k2 pt2) pos.line X.env = pure false := by rfl) :
    SD X (.Assign [.Tuple [.Name x px, .Name y py, .Name z pz] kt pt] (.Tuple [a, b, c] k2 pt2) pos) (dPar3 i j l ta) := PS.imp (ps_par3 hc hN hi hj hl hij hil hjl hx hy hz ha hw hs) fun σ H D ⟨ρ, S, E, hE, hS, q, k⟩ =>
  ⟨ρ, S, _, hE, hS, q, fun vs ds H' S' k1 s1 r1 ⟨a, b, c, e1, q1⟩ => by
    subst e1
    cases r1 with
    | cons r2 r1 =>
      cases r1 with
      | cons r3 r1 =>
        cases r1 with
        | cons r4 r1 =>
          cases r1
          exact ⟨_, _, _, rfl, k.nx _ _ _ _ k1 ((((hE.keep k1).set r2).set r3).set r4) s1 q1⟩⟩
/-- o[k] = v, by values -/
def upSet (K : G) (f : D → D → D → Sto → (Sto → Prop) → Prop) : TSet := fun o i v H Q => ∃ od kd vd S Q', SRel K S H ∧ Rep K H od o ∧ Rep K H kd i ∧ Rep K H vd v ∧ f od kd vd S Q' ∧ ∀ H' S', Keep K H H' → SRel K S' H' → Q' S' → Q H'
theorem set_all (hu : X.A.units + 64 < cLine) : PSet X (upSet (gOf X) aSet) := by
  rintro pins s σ H o i v ov iv u Q I ro ri rv ⟨od, kd, vd, S, Q', hS, r1, r2, r3, h, k⟩
  cases r1 <;> first | exact h.elim | skip
  rename_i p
  rcases h with ⟨xs, n, j, e, rfl, hj, h⟩ | ⟨kvs, e, ok, hl, h⟩
  · cases r2
    obtain ⟨vs, f, rs⟩ := hS _ _ e
    have kp : Keep (gOf X) H (upd H p (.lst (vs.set j v))) := Keep.lst f
    refine set_list pins s σ H _ _ v ov iv u Q I ro ri rv ⟨p, vs, n, j, rfl, rfl, f, by rw [← rs.length]; exact hj, k _ _ kp (hS.put kp (.ofLst upd_same ?_)) h⟩
    exact (Reps.set r3 j rs).keep kp
  · cases (show ov = Value.ref p from ro)
    exact vd_put hu I hS e ok r2 ri r3 rv hl fun H' s' I' kp s1 => ⟨H', I', k _ _ kp s1 h⟩
theorem sd_put {o i : Expr} {to ti : DE} {pos' : Pos} (hu : X.A.units + 64 < cLine) (ho : ED X o to) (hi : ED X i ti) (he : ED X e te) (hs : swapsWithSole [.Subscript o i pos'] e pos.line X.env = pure false := by rfl)
    (hw : swappedStores [.Subscript o i pos'] e X.env = pure none := by rfl)
    (ha : ∀ v, assign (.Subscript o i pos') X.env v = (do
      let ov ← holding [v] (eval o X.env)
      let iv ← holding [v, ov] (eval i X.env)
      standAt pos'
      holding [v, ov, iv] (setItem ov iv v)
      release [v, ov, iv] []) := by intro _; rfl)
    (h1 : (assignEach [.Subscript o i pos'] X.env).map (·.2) = [assign (.Subscript o i pos') X.env] := by rfl) : SD X (.Assign [.Subscript o i pos'] e pos) (dPut to ti te) :=
  PS.imp (ps_asg he (pg_sub ho hi (set_all hu) ha) hs hw h1) fun σ H D ⟨ρ, S, E, hE, hS, q, k⟩ =>
    ⟨ρ, S, _, hE, hS, q, fun v d H1 S1 k1 s1 r1 q1 => ⟨ρ, S1, _, hE.keep k1, s1, q1, fun x dx H2 S2 k2 s2 r2 q2 => ⟨ρ, S2, _, (hE.keep k1).keep k2, s2, q2, fun y dy H3 S3 k3 s3 r3 q3 =>
      ⟨_, _, _, _, _, s3, r2.keep k3, r3, (r1.keep k2).keep k3, q3, fun H4 S4 k4 s4 q4 => k.nx _ _ _ _ (((k1.trans k2).trans k3).trans k4) (hE.keep (((k1.trans k2).trans k3).trans k4)) s4 q4⟩⟩⟩⟩
theorem sd_for {tg iter : Expr} {body : List Stmt} {wi : DI} {T : Tg} {tb : DS} (hp : PassesOwn (model X.prog X.w) X.A X.env X.xe) (hc : X.calm = true) (hi : PI X tg iter (upI (gOf X) wi)) (hg : PG X tg (T.v X.K)) (hb : BD X body tb)
    (hs : ∀ x, foldedSetIterable iter X.env x = pure x := by intro _; rfl) : SD X (.For tg iter body [] pos) (dFor wi T tb) := PS.imp (ps_for hp hc hi hg hb hs) fun σ H D ⟨ρ, S, E, hE, hS, q, k⟩ =>
  ⟨ρ, S, _, hE, hS, q, fun J items guard H1 S1 k1 s1 src ⟨P, p0, ps, pe⟩ => by
    refine ⟨fun i m σ' H2 => m = items.length - i ∧ i ≤ items.length ∧ ∃ ρ1 S2, Keep (gOf X) H1 H2 ∧ ERel (gOf X) H2 ρ1 σ' ∧ SRel (gOf X) S2 H2 ∧ P i ρ1 S2, ⟨items.length, by simp, Nat.zero_le _, ρ, S1, Keep.refl, hE.keep k1, s1, p0⟩, ?_⟩
    rintro i m σ' H2 ⟨rfl, hi, ρ1, S2, k2, e2, s2, hP⟩
    by_cases hlt : i < items.length
    · obtain ⟨g2, ρ2, f2, q2⟩ := ps i _ ρ1 S2 (List.getElem?_eq_getElem hlt) hP
      refine .inr ⟨src.go i S2 H2 k2 s2 g2 hlt, fun σ3 H3 => ∃ ρ3 S3, Keep (gOf X) H1 H3 ∧ ERel (gOf X) H3 ρ3 σ3 ∧ SRel (gOf X) S3 H3 ∧ P (i + 1) ρ3 S3, fun σ3 H3 ⟨ρ3, S3, k3, e3, s3, p3⟩ => ⟨items.length - (i + 1), by omega, rfl, hlt, ρ3, S3, k3, e3, s3, p3⟩, fun x H3 y => ?_⟩
      obtain ⟨k3, s3, r3⟩ := src.yld i S2 H2 x H3 _ k2 s2 g2 (List.getElem?_eq_getElem hlt) y
      obtain ⟨σ4, f1, f3, _⟩ := Tg.run (K := gOf X) T (e2.keep k3) r3 f2
      have k23 := k2.trans k3
      have nxt : ∀ σ' H' ρ' S', Keep (gOf X) H3 H' → ERel (gOf X) H' ρ' σ' → SRel (gOf X) S' H' → (∃ ρ0 S0, RSub ρ0 ρ' ∧ Sub S0 S' ∧ P (i + 1) ρ0 S0) → ∃ ρ3 S3, Keep (gOf X) H1 H' ∧ ERel (gOf X) H' ρ3 σ' ∧ SRel (gOf X) S3 H' ∧ P (i + 1) ρ3 S3 :=
        fun σ' H' ρ' S' k4 e4 s4 ⟨ρ0, S0, a, b, c⟩ => ⟨ρ0, S0, k23.trans k4, e4.sub a, s4.sub b, c⟩
      refine f3 _ ⟨ρ2, S2, _, f1, s3, q2, ⟨nxt, fun v d H' S' k4 => k.rt v d H' S' (k1.trans (k23.trans k4)), fun σ' H' ρ' S' k4 => k.nx σ' H' ρ' S' (k1.trans (k23.trans k4)), nxt⟩⟩
    · obtain rfl : i = items.length := by omega
      obtain ⟨g2, q2⟩ := pe ρ1 S2 hP
      exact .inl ⟨src.stop S2 H2 k2 s2 g2, k.nx _ _ _ _ (k1.trans k2) e2 s2 q2⟩⟩
theorem sd_while {c : Expr} {body : List Stmt} {tc : DT} {tb : DS} (hp : PassesOwn (model X.prog X.w) X.A X.env X.xe) (hc : TD X c tc) (hb : BD X body tb) : SD X (.While c body [] pos) (dWhile tc tb) := PS.imp (ps_while hp hc hb) fun σ H D ⟨ρ, S, E, hE, hS, ⟨P, ⟨m0, p0⟩, ps⟩, k⟩ => by
  refine ⟨fun m σ' H2 => ∃ ρ1 S2, Keep (gOf X) H H2 ∧ ERel (gOf X) H2 ρ1 σ' ∧ SRel (gOf X) S2 H2 ∧ P m ρ1 S2, ⟨m0, ρ, S, Keep.refl, hE, hS, p0⟩, ?_⟩
  rintro m σ' H2 ⟨ρ1, S2, k2, e2, s2, hP⟩
  refine ⟨ρ1, S2, _, e2, s2, ps m ρ1 S2 hP, fun b H3 S3 k3 s3 q3 => ?_⟩
  cases b with
  | false =>
    rw [if_neg Bool.false_ne_true] at q3 ⊢
    exact k.nx _ _ _ _ (k2.trans k3) (e2.keep k3) s3 q3
  | true =>
    rw [if_pos rfl] at q3 ⊢
    have nxt : ∀ σ' H' ρ' S', Keep (gOf X) H3 H' → ERel (gOf X) H' ρ' σ' → SRel (gOf X) S' H' → (∃ m' ρ0 S0, m' < m ∧ RSub ρ0 ρ' ∧ Sub S0 S' ∧ P m' ρ0 S0) → ∃ m', m' < m ∧ ∃ ρ3 S3, Keep (gOf X) H H' ∧ ERel (gOf X) H' ρ3 σ' ∧ SRel (gOf X) S3 H' ∧ P m' ρ3 S3 :=
      fun σ' H' ρ' S' k4 e4 s4 ⟨m', ρ0, S0, l, a, b, c⟩ => ⟨m', l, ρ0, S0, (k2.trans k3).trans k4, e4.sub a, s4.sub b, c⟩
    exact ⟨fun σ' H' => ∃ m', m' < m ∧ ∃ ρ3 S3, Keep (gOf X) H H' ∧ ERel (gOf X) H' ρ3 σ' ∧ SRel (gOf X) S3 H' ∧ P m' ρ3 S3, fun _ _ z => z,
      ρ1, S3, _, e2.keep k3, s3, q3, ⟨nxt, fun v d H' S' k4 => k.rt v d H' S' ((k2.trans k3).trans k4), fun σ' H' ρ' S' k4 => k.nx σ' H' ρ' S' ((k2.trans k3).trans k4), nxt⟩⟩
/-! is True, is False -/
theorem od_isB : OpR X (compareOp .Is) (upO (gOf X) aIsB) := by
  rintro pins s σ H x y v u Q I rx ry ⟨dx, dy, S, Q', hS, r1, r2, h, k⟩
  cases r1 <;> cases r2 <;> first | exact h.elim | skip
  exact op_is_bl pins s σ H _ _ v u Q I rx ry ⟨_, _, rfl, rfl, k _ _ H S Keep.refl hS (.bl _) h⟩
theorem od_notB : OpR X (compareOp .IsNot) (upO (gOf X) aNotB) := by
  rintro pins s σ H x y v u Q I rx ry ⟨dx, dy, S, Q', hS, r1, r2, h, k⟩
  cases r1 <;> cases r2 <;> first | exact h.elim | skip
  exact op_isnot_bl pins s σ H _ _ v u Q I rx ry ⟨_, _, rfl, rfl, k _ _ H S Keep.refl hS (.bl _) h⟩
end

/-! ## 14. A def, a call -/
/-- a def's promise over data -/
def upSp (K : G) (sp : DC) : Sp := fun vs H Q _ => ∃ ds S Q', SRel K S H ∧ Reps K H ds vs ∧ sp ds S Q' ∧ ∀ v d H' S', Keep K H H' → SRel K S' H' → Rep K H' d v → Q' d S' → Q v H'
def startD (n : Nat) (ds : List D) : REnv := ds.map some ++ List.replicate (n - ds.length) none
/-- how a def's body must end -/
def endsD (Q : DQ) : DEnds := { nx := fun _ S' => ∃ S0, Sub S0 S' ∧ Q .non S0, rt := fun d S' => ∃ S0, Sub S0 S' ∧ Q d S0 }
theorem start_e {K : G} {H : Hp} {N : List Str} {ds : List D} {vs : List V} (r : Reps K H ds vs) : ERel K H (startD N.length ds) (L2.start N vs) := by
  have hl := r.length
  refine ⟨by simp [startD, L2.start, hl], fun i d e => ?_⟩
  unfold startD at e
  unfold L2.start
  by_cases h : i < ds.length
  · rw [List.getElem?_append_left (by simpa using h), List.getElem?_map] at e
    cases q : ds[i]? with
    | none => rw [q] at e; cases e
    | some d' =>
      rw [q] at e; cases e
      obtain ⟨v, f, rv⟩ := r.get q
      exact ⟨v, by rw [List.getElem?_append_left (by rw [List.length_map, ← hl]; exact h), List.getElem?_map, f]; rfl, rv⟩
  · rw [List.getElem?_append_right (by simpa using Nat.le_of_not_lt h)] at e
    rw [List.getElem?_replicate] at e
    split at e <;> cases e
section
variable {P : Program} {w : World} {K : PySem.W.Frag} {mg : Str → Option Value} {base : Heap}
theorem d_ok {x qual : Str} {st : Stmt} {f : Addr} {fd : FuncData} {N ps : List Str} {k : Nat} {sp : DC} {t : DS} (F : Fun K x qual st f fd) (S : FnScope N ps (defScope st)) (len : ∀ ds S Q, sp ds S Q → ds.length = ps.length)
    (hb : ∀ (cdv : Value) (A : Around) (outer : List Env) (s : Shared) (H : Hp) (E : XK), Room k (A.deeper (envOfC qual (defScope st) s.heap.objs.size f cdv)) → BD (cxOf CX0 P w K mg base N qual (defScope st) f cdv A outer s H E).nox (defBody st) t)
    (hq : ∀ ds S Q, sp ds S Q → t (endsD Q) (startD N.length ds) S) : FnOk P w K mg base CX0 (k + 1) f fd ps (upSp ⟨P, w, K⟩ sp) :=
  F.ok S (fun vs H Q E ⟨ds, S', Q', hS, r, h, _⟩ => r.length.symm.trans (len _ _ _ h)) fun cdv A outer s H vs Q E hr ⟨ds, S', Q', hS, r, h, kq⟩ =>
    ⟨_, hb cdv A outer s H E hr, startD N.length ds, S', endsD Q', start_e r, hS, hq _ _ _ h,
      ⟨fun σ' H' ρ' S1 k1 e1 s1 ⟨S0, a, b⟩ => kq _ _ _ _ k1 (s1.sub a) .non b, fun v d H' S1 k1 s1 r1 ⟨S0, a, b⟩ => kq _ _ _ _ k1 (s1.sub a) r1 b, fun _ _ _ _ _ _ _ z => z.elim, fun _ _ _ _ _ _ _ z => z.elim⟩⟩
end
section
variable {X : Cx}
theorem ed_call {k : Nat} {f : Addr} {fd : FuncData} {ps : List Str} {sp : DC} {x : Str} {p pos : Pos} {e : Expr} {es : List Expr} {t : DA} (F : FnOk X.prog X.w X.K X.mg X.base CX0 k f fd ps (upSp (gOf X) sp)) (hr : Room k X.A) (hg : Gl X x) (hm : X.mg x = some (.ref f))
    (hk : PySem.W.keepIn X.K (.ref f) = true) (hb : Binds X.K fd ps []) (ha : AD X (e :: es) t) (hdb : (x == ("__debug__" : Str)) = false := by decide) (he : starEach (e :: es) X.env = (false, eval e X.env) :: starEach es X.env := by rfl)
    (hpl : (backTo pos (starEach es X.env)).any (·.1) = false := by rfl) : ED X (.Call (.Name x p) (e :: es) [] pos) (dCall sp t) :=
  PE.imp (pe_call F hr hg hm hk hb .nil pass0 ha hdb he hpl) fun σ H Q ⟨ρ, S, Q', hE, hS, q, k⟩ => ⟨ρ, S, _, hE, hS, q, fun vs ds H' S' k1 s1 r1 q1 =>
    ⟨ds, S', Q', s1, by rw [List.append_nil]; exact r1, q1, fun v d H2 S2 k2 => k v d H2 S2 (k1.trans k2)⟩⟩
end
end DW
namespace DW
open PySem PySem.Spec PyProof.Rows L2

/-! ## 15. Comprehensions as rules -/
section
variable {X : Cx} {elt tg iter : Expr} {ifs : List Expr} {scope : Scope} {own : List (Str × Nat)} {pos spos : Pos} {wi : DI} {T : Tg} {tt : DT} {te : DE}
theorem ed_lc (hc : X.calm = true) (hN : X.N.Nodup) (hi : PI X tg iter (upI (gOf X) wi)) (ok : BlkOk X.N X.env.scope scope own)
    (hg : ∀ (s : Shared) (H : Hp) (C : Addr) (cl : List (Str × Addr)) (fp : List Addr), PG (X.blk s H scope (compEnvC scope cl C X.env) fp) tg (T.v X.K))
    (ht : ∀ (s : Shared) (H : Hp) (C : Addr) (cl : List (Str × Addr)) (fp : List Addr), PTs (X.blk s H scope (compEnvC scope cl C X.env) fp) ifs (upT (gOf X) tt))
    (he : ∀ (s : Shared) (H : Hp) (C : Addr) (cl : List (Str × Addr)) (fp : List Addr), PE (X.blk s H scope (compEnvC scope cl C X.env) fp) elt (upE (gOf X) te))
    (hv : ∀ i ∈ T.slots, i ∈ own.map (·.2)) (hs : ∀ x, foldedSetIterable iter X.env x = pure x := by intro _; rfl) :
    ED X (.ListComp elt [⟨tg, iter, ifs, 0⟩] scope pos) (dLc wi T tt te (own.map (·.2))) := PE.imp (pe_lc hc hN hi ok hg ht he hs) fun σ H Q h => lc_up hv h
theorem ed_lcP (hc : X.calm = true) (hN : X.N.Nodup) (hi : PI X tg iter (upI (gOf X) wi)) (ok : BlkOk X.N X.env.scope scope own)
    (hg : ∀ (s : Shared) (H : Hp) (C : Addr) (cl : List (Str × Addr)) (fp : List Addr), PG (X.blk s H scope (compEnvC scope cl C X.env) fp) tg (T.v X.K))
    (ht : ∀ (s : Shared) (H : Hp) (C : Addr) (cl : List (Str × Addr)) (fp : List Addr), PTs (X.blk s H scope (compEnvC scope cl C X.env) fp) ifs (upT (gOf X) tt))
    (he : ∀ (s : Shared) (H : Hp) (C : Addr) (cl : List (Str × Addr)) (fp : List Addr), PE (X.blk s H scope (compEnvC scope cl C X.env) fp) elt (upE (gOf X) te))
    (hv : ∀ i ∈ T.slots, i ∈ own.map (·.2)) (hs : ∀ x, foldedSetIterable iter X.env x = pure x := by intro _; rfl) :
    ED X (.ListComp elt [⟨tg, iter, ifs, 0⟩] scope pos) (dLcP wi T tt te (own.map (·.2))) := PE.imp (pe_lc hc hN hi ok hg ht he hs) fun σ H Q h => lcP_up hv h
theorem asg_up {wx : TI} {G : TG} {tt' : TT} {te' : TE} {vs : List Nat} {t : DE} {i : Nat} (up : ∀ σ H Q, upE (gOf X) t σ H Q → tLc wx G tt' te' vs σ H Q) (σ : L2.St) (H : Hp) (D : L2.Ends)
    (h : upS (gOf X) (dAsg t (.nm i)) D σ H) : tAsg (tLc wx G tt' te' vs) (gName i) D σ H := by
  obtain ⟨ρ, S, E, hE, hS, q, k⟩ := h
  refine up σ H _ ⟨ρ, S, _, hE, hS, q, fun v d H' S' k1 s1 r1 ⟨ρ', e1, q1⟩ => ?_⟩
  cases e1
  exact k.nx _ _ _ _ k1 ((hE.keep k1).set r1) s1 q1
/-- y = [..] on one line -/
theorem sd_lc (i : Nat) {y : Str} {py : Pos} (hc : X.calm = true) (hN : X.N.Nodup) (hi : PI X tg iter (upI (gOf X) wi)) (ok : BlkOk X.N X.env.scope scope own)
    (hg : ∀ (s : Shared) (H : Hp) (C : Addr) (cl : List (Str × Addr)) (fp : List Addr), PG (X.blk s H scope (compEnvC scope cl C X.env) fp) tg (T.v X.K))
    (ht : ∀ (s : Shared) (H : Hp) (C : Addr) (cl : List (Str × Addr)) (fp : List Addr), PTs (X.blk s H scope (compEnvC scope cl C X.env) fp) ifs (upT (gOf X) tt))
    (he : ∀ (s : Shared) (H : Hp) (C : Addr) (cl : List (Str × Addr)) (fp : List Addr), PE (X.blk s H scope (compEnvC scope cl C X.env) fp) elt (upE (gOf X) te))
    (hv : ∀ i ∈ T.slots, i ∈ own.map (·.2)) (hy : X.N[i]? = some y := by rfl) (hyl : X.env.scope.names.lookup y = some .local := by rfl)
    (hsw : swapsWith (.ListComp elt [⟨tg, iter, ifs, 0⟩] scope pos) (some (.Name y py)) spos.line X.env = pure true := by exact sw_true rfl rfl rfl rfl) (hs : ∀ x, foldedSetIterable iter X.env x = pure x := by intro _; rfl) :
    SD X (.Assign [.Name y py] (.ListComp elt [⟨tg, iter, ifs, 0⟩] scope pos) spos) (dAsg (dLc wi T tt te (own.map (·.2))) (.nm i)) :=
  PS.imp (ps_setLc (i := i) hc hN hy hyl hsw hi ok hg ht he hs) fun σ H D h => asg_up (fun _ _ _ => lc_up hv) σ H D h
theorem sd_lcP (i : Nat) {y : Str} {py : Pos} (hc : X.calm = true) (hN : X.N.Nodup) (hi : PI X tg iter (upI (gOf X) wi)) (ok : BlkOk X.N X.env.scope scope own)
    (hg : ∀ (s : Shared) (H : Hp) (C : Addr) (cl : List (Str × Addr)) (fp : List Addr), PG (X.blk s H scope (compEnvC scope cl C X.env) fp) tg (T.v X.K))
    (ht : ∀ (s : Shared) (H : Hp) (C : Addr) (cl : List (Str × Addr)) (fp : List Addr), PTs (X.blk s H scope (compEnvC scope cl C X.env) fp) ifs (upT (gOf X) tt))
    (he : ∀ (s : Shared) (H : Hp) (C : Addr) (cl : List (Str × Addr)) (fp : List Addr), PE (X.blk s H scope (compEnvC scope cl C X.env) fp) elt (upE (gOf X) te))
    (hv : ∀ i ∈ T.slots, i ∈ own.map (·.2)) (hy : X.N[i]? = some y := by rfl) (hyl : X.env.scope.names.lookup y = some .local := by rfl)
    (hsw : swapsWith (.ListComp elt [⟨tg, iter, ifs, 0⟩] scope pos) (some (.Name y py)) spos.line X.env = pure true := by exact sw_true rfl rfl rfl rfl) (hs : ∀ x, foldedSetIterable iter X.env x = pure x := by intro _; rfl) :
    SD X (.Assign [.Name y py] (.ListComp elt [⟨tg, iter, ifs, 0⟩] scope pos) spos) (dAsg (dLcP wi T tt te (own.map (·.2))) (.nm i)) :=
  PS.imp (ps_setLc (i := i) hc hN hy hyl hsw hi ok hg ht he hs) fun σ H D h => asg_up (fun _ _ _ => lcP_up hv) σ H D h
/-- targets -/
theorem gt_nm (i : Nat) {x : Str} {p : Pos} (hN : X.N.Nodup) (hi : X.N[i]? = some x := by rfl) (hx : Loc X.env.scope x := by first | exact .inl rfl | exact .inr rfl) (hf : X.fn x = true ∨ X.env.scope.names.lookup x = some .local := by first | exact .inr rfl | exact .inl rfl) : PG X (.Name x p) ((Tg.nm i).v X.K) :=
  pg_name hN hi hx hf
end
end DW
namespace DW
open PySem PySem.Spec PyProof.Rows L2

/-! ## 16. Defs by name -/
/-- the def stands in the module under its name -/
def Def (K : PySem.W.Frag) (mg : Str → Option Value) (x : Str) (st : Stmt) (ps : List Str) : Prop := ∃ f fd, Fun K x x st f fd ∧ mg x = some (.ref f) ∧ Binds K fd ps []
/-- the def x keeps the promise sp -/
def Here (P : Program) (w : World) (K : PySem.W.Frag) (mg : Str → Option Value) (base : Heap) (k : Nat) (x : Str) (ps : List Str) (sp : DC) : Prop :=
  ∃ f fd, FnOk P w K mg base CX0 k f fd ps (upSp ⟨P, w, K⟩ sp) ∧ mg x = some (.ref f) ∧ PySem.W.keepIn K (.ref f) = true ∧ Binds K fd ps [] ∧ ∃ oc od sl, K.lookup f = some ⟨oc, od, .func fd, sl⟩
section
variable {P : Program} {w : World} {K : PySem.W.Frag} {mg : Str → Option Value} {base : Heap}
theorem Here.mono {j k : Nat} {x : Str} {ps : List Str} {sp : DC} (h : Here P w K mg base j x ps sp) (l : j ≤ k) : Here P w K mg base k x ps sp := by
  obtain ⟨f, fd, F, r⟩ := h
  exact ⟨f, fd, F.mono l, r⟩
theorem d_here {x : Str} {st : Stmt} {N ps : List Str} {k : Nat} {sp : DC} {t : DS} (D : Def K mg x st ps) (S : FnScope N ps (defScope st)) (len : ∀ ds S Q, sp ds S Q → ds.length = ps.length)
    (hb : ∀ (f : Addr) (cdv : Value) (A : Around) (outer : List Env) (s : Shared) (H : Hp) (E : XK), Room k (A.deeper (envOfC x (defScope st) s.heap.objs.size f cdv)) → BD (cxOf CX0 P w K mg base N x (defScope st) f cdv A outer s H E).nox (defBody st) t)
    (hq : ∀ ds S Q, sp ds S Q → t (endsD Q) (startD N.length ds) S) : Here P w K mg base (k + 1) x ps sp := by
  obtain ⟨f, fd, F, hm, b⟩ := D
  have ⟨oc, od, kV, doc, pm, an, cdv, ct, osl, e, lk, _⟩ := F.ex
  exact ⟨f, fd, d_ok F S len (hb f) hq, hm, F.kp, b, oc, od, osl, lk⟩
/-- the promise at the function that stands there -/
theorem Here.at {k : Nat} {x : Str} {ps : List Str} {sp : DC} {fa : Addr} {fd : FuncData} {oc : Value} {od : Option Addr} {sl : Array (Option Value)} (h : Here P w K mg base k x ps sp) (hm : mg x = some (.ref fa)) (lk : K.lookup fa = some ⟨oc, od, .func fd, sl⟩) : FnOk P w K mg base CX0 k fa fd ps (upSp ⟨P, w, K⟩ sp) := by
  obtain ⟨f, fd', F, hm', _, _, oc', od', sl', lk'⟩ := h
  rw [hm] at hm'
  cases hm'
  rw [lk] at lk'
  cases lk'
  exact F
/-- a def of the top -/
theorem def_mk {h : Heap} {x : Str} {st : Stmt} {ps : List Str} {f : Addr} {oc : Value} {od an : Option Addr} {osl : Array (Option Value)} {kV doc pm cdv ct : Value} (X : K.In h) (G : h.Ns mainGlobals mg) (a : PySem.W.nsIn K mainGlobals x = some (some (.ref f)))
    (l : K.lookup f = some ⟨oc, od, .func (PySem.W.fnOf x x (defArgs st) (defBody st) (defScope st) .none kV doc pm an cdv ct), osl⟩) (c : PySem.W.codeIn K cdv x = true) (k : PySem.W.keepIn K (.ref f) = true)
    (hb : ∀ (kV doc pm : Value) (an : Option Addr) (cdv ct : Value) (us : List Value), us.length = ps.length → bindArgs (PySem.W.fnOf x x (defArgs st) (defBody st) (defScope st) .none kV doc pm an cdv ct) ⟨us, []⟩ = pure (ps.zip us)) : Def K mg x st ps :=
  ⟨f, _, fun_mk l c k, PySem.W.mg_of X G a, (fun_mk l c k).binds hb⟩
/-- no list stands in the written part -/
def noListB (K : PySem.W.Frag) : Bool := K.all fun p => match p.2.cls with
  | .type t => t != "list"
  | _ => true
theorem noList {a : Addr} {o : Obj} (h : noListB K = true) (e : K.lookup a = some o) : o.cls ≠ .type "list" := by
  have mem : ∀ (l : List (Addr × Obj)), l.lookup a = some o → (a, o) ∈ l := by
    intro l
    induction l with
    | nil => intro z; cases z
    | cons p r ih =>
      intro z
      simp only [List.lookup] at z
      split at z
      · next q =>
        cases z
        rw [beq_iff_eq.mp q]
        exact List.mem_cons_self
      · exact List.mem_cons_of_mem _ (ih z)
  have := List.all_eq_true.mp h _ (mem K e)
  intro z
  rw [z] at this
  simp at this
/-- the script, as data -/
theorem script_sp {sp : DC} {H : Hp} {a : Addr} {ns : List Int} {E : XK} (hn : noListB K = true) (hS : SqL K H a (ns.map V.int)) (h : sp [.ref a] (put (fun _ => none) a (.rls (ns.map .int))) fun d _ => d = .bl true) : upSp ⟨P, w, K⟩ sp [.ref a] H (fun v _ => v = .bl true) E := by
  have rs : ∀ l : List Int, Reps ⟨P, w, K⟩ H (l.map D.int) (l.map V.int) := fun l => by
    induction l with
    | nil => exact .nil
    | cons x l ih => exact .cons (.int x) ih
  refine ⟨_, put (fun _ => none) a (.rls (ns.map .int)), _, fun b o e => ?_, .cons (.ref a) .nil, h, fun v d H' S' _ _ r e => ?_⟩
  · by_cases q : b = a
    · subst q
      rw [put_same] at e
      cases e
      rcases hS with hS | ⟨o, its, n, lk, hc, _⟩
      · exact ⟨_, hS, rs ns⟩
      · exact absurd hc (noList hn lk)
    · rw [put_ne q] at e
      cases e
  · subst e
    cases r
    rfl
end
section
variable {X : Cx}
theorem ed_callH {k j : Nat} {ps : List Str} {sp : DC} {x : Str} {p pos : Pos} {e : Expr} {es : List Expr} {t : DA} (h : Here X.prog X.w X.K X.mg X.base k x ps sp) (hr : Room j X.A) (ha : AD X (e :: es) t) (l : k ≤ j := by decide) (hg : Gl X x := by rfl)
    (hdb : (x == ("__debug__" : Str)) = false := by decide) (he : starEach (e :: es) X.env = (false, eval e X.env) :: starEach es X.env := by rfl) (hpl : (backTo pos (starEach es X.env)).any (·.1) = false := by rfl) :
    ED X (.Call (.Name x p) (e :: es) [] pos) (dCall sp t) := by
  obtain ⟨f, fd, F, hm, hk, hb, _⟩ := h
  exact ed_call F (hr.mono l) hg hm hk hb ha hdb he hpl
theorem hu64 {k : Nat} (hr : Room k X.A) : X.A.units + 64 < cLine := Nat.lt_of_le_of_lt (by omega) hr.units
end
end DW
namespace DW
open PySem PySem.Spec PyProof.Rows L2

/-! ## 17. The odd operators -/
section
variable {X : Cx} {e : Expr} {te : DE} {pos p1 p2 p3 : Pos}
theorem ed_negI {i : Int} {j} : ED X (.UnaryOp .USub (.Constant (.int i) j p1) pos) (dC (.int (-i))) :=
  ed_const (v := .int (-i)) (PE.imp (pe_un un_neg pe_int) fun σ H Q h => ⟨i, rfl, h⟩) fun _ => .int _
def dNeg (te : DE) : DE := fun ρ S Q => te ρ S fun x S1 => ∃ i, x = .int i ∧ Q (.int (-i)) S1
theorem ed_neg (he : ED X e te) : ED X (.UnaryOp .USub e pos) (dNeg te) := PE.imp (pe_un un_neg he) fun σ H Q ⟨ρ, S, Q', hE, hS, q, k⟩ =>
  ⟨ρ, S, _, hE, hS, q, fun v d H' S' k1 s1 r1 ⟨i, e, q1⟩ => by
    subst e; cases r1
    exact ⟨i, rfl, k _ _ H' S' k1 s1 (.int _) q1⟩⟩
/-- a list from the back -/
def dRevL (te : DE) : DE := fun ρ S Q => te ρ S fun x S1 => ∃ p xs, x = .ref p ∧ (S1 p = some (.lst xs) ∨ S1 p = some (.rls xs)) ∧ ∀ q, S1 q = none → Q (.ref q) (put S1 q (.lst xs.reverse))
theorem Reps.rev {K : G} {H : Hp} : ∀ {ds : List D} {vs : List V}, Reps K H ds vs → Reps K H ds.reverse vs.reverse
  | _, _, .nil => .nil
  | _, _, .cons r t => by
    rw [List.reverse_cons, List.reverse_cons]
    exact (Reps.rev t).append (.cons r .nil)
theorem ed_revL {k : Nat} (he : ED X e te) : ED X (.Subscript e (.Slice none none (some (.UnaryOp .USub (.Constant (.int 1) k p1) p2)) p3) pos) (dRevL te) := PE.imp (pe_revL he) fun σ H Q ⟨ρ, S, Q', hE, hS, q, k⟩ =>
  ⟨ρ, S, _, hE, hS, q, fun v d H' S' k1 s1 r1 ⟨p, xs, e, z, q1⟩ => by
    subst e; cases r1
    obtain ⟨vs, f, rs⟩ := lst_rd s1 z
    exact ⟨p, vs, rfl, f, fun l hl => k _ _ _ _ (k1.trans (Keep.new hl)) (s1.putNew hl (.ofLst upd_same ((Reps.rev rs).keep (Keep.new hl)))) (.ref l) (q1 l (s1.free hl))⟩⟩

/-! a tuple times an int, in the cases that hand back the tuple itself or the empty one -/
theorem mul_one {l : Addr} {items : Array Value} {n : Nat} {dd : Option Addr} {sl : Array (Option Value)} {x : Int} {u : Tok} (c0 : (decide (x < -(2 ^ 63)) || decide (x ≥ 2 ^ 63)) = false) (c1 : (items.isEmpty || x == 1) = true) :
    Meets (Builtin.«tuple.__mul__» ⟨[.ref l, .int x u], []⟩) (fun _ R s => s.heap.get? l = some { cls := .type "tuple", dict := dd, data := .seq items n, slots := sl } ∧ R (.ok (.ret (Value.ref l))) s) :=
  .of_wp fun prog w A R s h => by
    obtain ⟨hp, g, d, tk, os⟩ := s
    obtain ⟨at_l, h⟩ := h
    have f1 := AutoSeq1.idx_int
    wp_walk using wpAny_loadPart' at_l
    repeat (first
      | (refine wpAny_ite_false (decide_eq_false (by rw [c0]; exact Bool.false_ne_true)) ?_
         wp_walk using wpAny_loadPart' at_l)
      | (refine wpAny_ite_true (decide_eq_true c1) ?_
         wp_walk using wpAny_loadPart' at_l))
    exact ⟨_, rfl, h⟩
/-- a * b with small tuples allowed -/
def aMul2 : DOp := fun x y S Q => match x, y with
  | .tup a, .int k => 1 ≤ k ∧ k ≤ 1000 ∧ a.length ≤ 1000 ∧ Q (.tup (List.replicate k.toNat a).flatten) S
  | _, _ => aMul x y S Q
theorem od_mul2 : OpR X (binaryOp .Mult) (upO (gOf X) aMul2) := by
  rintro pins s σ H x y v u Q I rx ry ⟨dx, dy, S, Q', hS, r1, r2, h, k⟩
  have other : aMul dx dy S Q' → wpAny (model X.prog X.w) X.A (binaryOp .Mult v u) (EP X pins σ Q) X.xe s := fun g => od_mul pins s σ H x y v u Q I rx ry ⟨dx, dy, S, Q', hS, r1, r2, g, k⟩
  cases r1 with
  | tup ht rs =>
    cases r2 with
    | int n =>
      obtain ⟨h1, h2, h3, h⟩ := h
      rename_i a vs ds
      by_cases c : ds ≠ [] ∧ 2 ≤ n
      · exact other ⟨c.1, c.2, h2, h3, h⟩
      · have same : (List.replicate n.toNat ds).flatten = ds := by
          by_cases e : ds = []
          · subst e
            rw [List.flatten_replicate_nil]
          · have : n = 1 := by
              have : ¬ 2 ≤ n := fun z => c ⟨e, z⟩
              omega
            subst this
            simp
        rw [same] at h
        cases rx
        obtain ⟨t, rfl⟩ := ry
        obtain ⟨its, r, ⟨⟨cls, dd, data, sl⟩, ho, hc, m, hd⟩, hs⟩ := I.tuple (SqT.of ht)
        simp only at hc hd
        subst hc hd
        have l1 : its.length = ds.length := by rw [← r.length, rs.length]
        have c1 : (its.toArray.isEmpty || n == 1) = true := by
          by_cases e : ds = []
          · rw [e] at l1
            rw [List.eq_nil_of_length_eq_zero l1]
            rfl
          · have : n = 1 := by
              have : ¬ 2 ≤ n := fun z => c ⟨e, z⟩
              omega
            subst this
            simp
        have c0 : (decide (n < -(2 ^ 63)) || decide (n ≥ 2 ^ 63)) = false := by
          rw [decide_eq_false (by omega), decide_eq_false (by omega)] <;> rfl
        refine wpAny_binaryOp_repeat_ref (T := "tuple") (U := "int") (by decide) ⟨_, ho, rfl⟩ (fun s' => typeIs_int s' n t) noFill_tuple_mul F.fills_int_mul F.slot_int_rmul repeat_tuple F.slot_int_index.lookup ?_
        refine call_meets F.slot_int_rmul (typeIs_int s n t) F.entry_int_rmul (F.args_int_rmul_2 _ _) (int_rmul_tuple n t _ its.toArray m dd sl) ⟨ho, rfl, ⟨_, ho, rfl⟩, ?_⟩
        refine call_meets F.slot_tuple_mul ⟨_, ho, rfl⟩ F.entry_tuple_mul (F.args_tuple_mul_2 _ _) (mul_one c0 c1) ⟨ho, ?_⟩
        exact ⟨.ref _, H, I, rfl, k _ _ H S Keep.refl hS (.tup ht rs) h⟩
    | non => exact other h
    | bl _ => exact other h
    | str _ => exact other h
    | tup _ _ => exact other h
    | ref _ => exact other h
    | ty _ => exact other h
  | non => exact other h
  | bl _ => exact other h
  | int _ => exact other h
  | str _ => exact other h
  | ref _ => exact other h
  | ty _ => exact other h
end
end DW
namespace DW
open PySem PySem.Spec PyProof.Rows L2

/-! ## 18. {tuple: value} -/
section
variable {X : Cx} {pos : Pos}
theorem ed_dict1T {ek ev : Expr} {tk tv : DE} (hu : X.A.units + 64 < cLine) (hk : ED X ek tk) (hv : ED X ev tv) : ED X (.Dict [some ek] [ev] pos) (dDict1 tk tv isTK) := by
  refine ⟨fun pins s σ H Q I ⟨ρ, S, Q', hE, hS, q, k⟩ => ?_⟩
  have hn := I.hok.fresh (Nat.le_refl s.heap.objs.size)
  have I1 := I.laid (a := s.heap.objs.size) (o := .dK []) (h' := s.heap.push { cls := .type "dict", data := .dict #[] }) (t' := s.toks) (fun _ _ q => Heap.get?_push_of_some _ q) (Nat.le_refl _) (dk_empty s.heap I.big)
  have kp := Keep.new (K := gOf X) (o := .dK []) hn
  have room : (nestedKind X.prog X.w).room X.A := by
    show X.A.units + 8 < cLine
    omega
  have shape : (evalEachOpt [some ek] X.env).zip ((evalEach [ev] X.env).map fun v => do let x ← v; standAt pos; pure x) = [(eval ek X.env, do let x ← eval ev X.env; standAt pos; pure x)].map fun p => (some p.1, p.2) := by rfl
  rw [arm_eval_Dict, shape, dictDisplay_pairs _ (by simp) (by show 1 < 17; omega)]
  refine wpAny_bind (wpAny_standAt (wpAny_bind ?_))
  refine wpAny_subDictH (knd := nestedKind X.prog X.w) (Q := fun d s' => wpAny (model X.prog X.w) X.A (pure (Value.ref d)) (EP X pins σ Q) X.xe s') room (by show 1 ≤ 15; omega) ?_
  have q1 := q s.heap.objs.size (hS.free hn)
  show wpAny _ _ (eval ek X.env >>= _) _ _ _
  refine wpAny_bind (thn (hk.run pins _ σ _ (fun x H1 => ∃ d S1, Keep (gOf X) H H1 ∧ SRel (gOf X) S1 H1 ∧ Rep (gOf X) H1 d x ∧ tv ρ S1 fun v S2 => S2 s.heap.objs.size = some (.dic []) ∧ isTK d ∧ Q' (.ref s.heap.objs.size) (put S2 s.heap.objs.size (.dic [(d, v)]))) I1
    ⟨ρ, _, _, hE.keep kp, rel_new_dic hS hn, q1, fun v d H' S' k1 s1 r1 q2 => ⟨d, S', kp.trans k1, s1, r1, q2⟩⟩) fun u1 s1 ⟨x1, H1, I2, r1, d1, S1, k1, t1, p1, q2⟩ => ?_)
  refine wpAny_bind (wpAny_holding ?_)
  refine wpAny_bind (thn (hv.run pins s1 σ H1 (fun x H2 => ∃ d S2, Keep (gOf X) H1 H2 ∧ SRel (gOf X) S2 H2 ∧ Rep (gOf X) H2 d x ∧ S2 s.heap.objs.size = some (.dic []) ∧ isTK d1 ∧ Q' (.ref s.heap.objs.size) (put S2 s.heap.objs.size (.dic [(d1, d)]))) I2
    ⟨ρ, S1, _, hE.keep k1, t1, q2, fun v d H' S' k2 s2 r2 q3 => ⟨d, S', k2, s2, r2, q3⟩⟩) fun u2 s2 ⟨x2, H2, I3, r2, d2, S2, k2, t2, p2, e2, ok, q3⟩ => ?_)
  refine wpAny_bind (wpAny_standAt (wpAny_pure ?_))
  refine wpAny_bind (wpAny_holding (wpAny_pure (wpAny_pure ?_)))
  obtain ⟨ys, nk, rfl, hnk, hdp⟩ := ok
  have p1' := p1.keep k2
  have nst := p1'.nested I3 r1 hnk
  obtain ⟨xs, dh, kv, hs, hz, mu⟩ := dicH I3 t2 e2 (fun _ z => by cases z)
  cases kv
  obtain ⟨a1, rfl⟩ : ∃ a1, x1 = .ref a1 := by
    cases p1'
    exact ⟨_, rfl⟩
  cases r1
  refine ⟨[(nk, a1, u2)], ⟨rfl, rfl, ⟨nst, hdp⟩, trivial⟩, dh, fun h' tk dh' sb => wpAny_pure ?_⟩
  obtain ⟨H', I', kp', s'⟩ := dicH_back (tk := tk) (kvs' := [(D.tup ys, d2)]) I3 t2 mu hs dh' (fun b o hb z => (sb.2 b hb).trans z) (by show 1 ≤ sizeLine; rw [sizeLine_eq]; decide) (by simp)
    (fun H' kp => .cons hnk hdp (p1.keep (k2.trans kp)) (p2.keep kp) r2 .nil)
  exact ⟨.ref _, H', I', rfl, k _ _ H' _ ((k1.trans k2).trans kp') s' (.ref _) q3⟩
end
end DW
namespace DW
open PySem PySem.Spec PyProof.Rows L2

/-! ## 19. set(a tuple of tuples of ints) -/
abbrev noSet (w : World) : Obj := { cls := .type "set", dict := none, data := .set #[] 0 (.fresh 0 0 (!w.params.followText "set-order")) }
section
variable {P : Program} {w : World} {A : Around} {E : Value → Shared → Prop} {s : Shared}
theorem set_of_tuple {l : Addr} {its : Array Value} (ks : List (Addr × List Int)) {Q : Value → Shared → Prop} (hh : A.handled = none) (tup : s.heap.IsTuple l its) (hit : its.toList = ks.map fun p => Value.ref p.1)
    (hk : ∀ p ∈ ks, IsT P w s.heap p.2 p.1) (few : ks.length < 64) (hu : A.units + 3 < cLine)
    (fin : ∀ (h' : Heap) (tk : Nat) L es ep t, SetTR P w h' s.heap.objs.size L es ep t → Got ks ks.length L → (∀ b o, s.heap.get? b = some o → h'.get? b = some o) → Q (.ref s.heap.objs.size) { s with heap := h', toks := tk }) :
    wpAny (model P w) A (call (.type "set") [.ref l]) Q E s := by
  have size_eq : its.size = ks.length := by
    have := congrArg List.length hit
    simpa using this
  obtain ⟨c, tl, hmro⟩ := F.called_set.mro
  have fm := F.called_set.made
  have fs := F.called_set.sub
  refine wpAny_call (codeAny_of_tree ?_)
  show wpAny _ _ (callAny (.type "set") _) _ _ _
  refine wpAny_pure ⟨Code.quiet_builtin _ (by decide +kernel), ?_⟩
  refine codeAny_builtin F.entry_type_call ?_
  rw [Around.under_plain (weight_type_call_type "set" [.ref l] []) rfl]
  have fn := F.called_set.notType
  have fc := F.called_set.canCreate
  have ft := F.typeCall_set_1 (.ref l)
  repeat (any_goals (first | wp_step | assumption))
  refine codeAny_mono (code_set_led1 (.ref l) (E := E) (Q₁ := fun obj t => obj = .ref s.heap.objs.size ∧ t = { s with heap := s.heap.push (noSet w) }) ⟨rfl, rfl⟩) fun r t hr => ?_
  cases r with
  | error e => exact hr
  | ok fl =>
    cases fl with
    | ret obj =>
      obtain ⟨rfl, rfl⟩ := hr
      have at_S : (s.heap.push (noSet w)).get? s.heap.objs.size = some (noSet w) := Heap.get?_push_size _ rfl
      have hT : Shared.TypeIs { s with heap := s.heap.push (noSet w) } (.ref s.heap.objs.size) "set" := ⟨_, at_S, rfl⟩
      have fl1 := F.called_set.init.lookup
      have fb1 := F.called_set.init.bind (.ref s.heap.objs.size)
      repeat (any_goals (first | wp_step | assumption))
      refine codeAny_mono (codeAny_call_builtin (R := wants (fun r u => r = .none ∧ ∃ h' tk L es ep t, u = { s with heap := h', toks := tk } ∧ SetTR P w h' s.heap.objs.size L es ep t ∧ Got ks ks.length L ∧ ∀ b o, s.heap.get? b = some o → h'.get? b = some o) E)
        F.called_set.init.plain F.entry_set_init (check_set_init_1 hT ?_)) fun r2 u hr2 => ?_
      · obtain ⟨⟨cls, dict, data, slots⟩, ol, cl, n, dl⟩ := tup
        simp only at cl dl
        subst cl; subst dl
        have ol' : (s.heap.push (noSet w)).get? l = some { cls := .type "tuple", dict := dict, data := .seq its n, slots := slots } := Heap.get?_push_of_some _ ol
        have fts := F.sub_tuple_set
        have ftf := F.sub_tuple_frozenset
        have no_dict : (Value.type "tuple" == Value.type "dict") = false := by decide
        have tup1 : (s.heap.push (noSet w)).IsTuple l its := ⟨_, ol', rfl, n, rfl⟩
        unfold Builtin.«set.__init__» noKeywords Builtin.Frozenset.updateFrom
        generalize hPI : pyIter = PI
        wp_walk
        subst hPI
        refine wpAny_pyIter_tuple tup1 (wpAny_bind (wpAny_runValue ?_))
        have l_lt : l < s.heap.objs.size := Heap.lt_size ol
        have l_ne : l ≠ (s.heap.push (noSet w)).objs.size := fun z => by
          rw [Heap.size_push] at z
          exact absurd l_lt (by rw [z]; exact Nat.not_lt.mpr (Nat.le_succ _))
        have not_fp : s.heap.objs.size ∉ [(s.heap.push (noSet w)).objs.size, l] := by
          rw [Heap.size_push]
          intro z
          rcases List.mem_cons.mp z with z | z
          · exact Nat.succ_ne_self _ z.symm
          · exact absurd l_lt (by rw [← List.mem_singleton.mp z]; exact Nat.lt_irrefl _)
        have pick : ∀ (i : Nat) (v : Value), its[i]? = some v → ∃ p, ks[i]? = some p ∧ v = .ref p.1 := fun i v hv => by
          rw [← Array.getElem?_toList, hit, List.getElem?_map] at hv
          cases e : ks[i]? with
          | none => rw [e] at hv; cases hv
          | some p =>
            rw [e] at hv
            cases hv
            exact ⟨p, rfl, rfl⟩
        have above : ∀ b, s.heap.objs.size ≤ b → s.heap.get? b = none := fun b hb => by
          cases e : s.heap.get? b with
          | none => rfl
          | some o => exact absurd (Heap.lt_size e) (Nat.not_lt.mpr hb)
        have hh3 : A.in1.in1.in1.handled = none := by simp [hh]
        refine set_update_tups (Walks.tuple hh3 _ l l_ne its).toS s.heap.objs.size not_fp ks size_eq few pick s.heap hk (above _ (Nat.le_refl _)) (fun b hb => above b ?wr) hu (its.size - 0) 0 _ (by omega) (Nat.zero_le _)
          ⟨⟨_, Heap.get?_push_size _ rfl, rfl, rfl⟩, tup1.push _⟩ (fun b o e => Heap.get?_push_of_some _ (Heap.get?_push_of_some _ e)) ⟨[], #[], 0, _, setTR_fresh (Heap.get?_push_of_some _ at_S), Got.zero ks⟩ ?done
        case wr =>
          rw [List.mem_singleton.mp hb, Heap.size_push]
          exact Nat.le_add_right _ 1
        case done =>
          rintro ⟨h', g2, d2, tk2, os2⟩ L es ep t hm R got keep
          obtain rfl : g2 = s.gens := hm.gens
          obtain rfl : d2 = s.drawn := hm.drawn
          obtain rfl : os2 = s.os := hm.os
          rw [size_eq] at got
          show wpAny _ _ _ _ _ _
          exact wpAny_pure (show wpAny _ _ (ret Value.none) _ _ _ from wpAny_pure ⟨rfl, h', tk2, L, es, ep, t, rfl, R, got, keep⟩)
      · cases r2 with
        | error e => exact hr2
        | ok fl2 =>
          cases fl2 with
          | ret r =>
            obtain ⟨rfl, h', tk, L, es, ep, t, rfl, R, got, keep⟩ := hr2
            repeat (any_goals (first | wp_step | assumption))
            exact fin _ _ _ _ _ _ R got keep
          | next => exact hr2.elim
          | brk => exact hr2.elim
          | cont => exact hr2.elim
    | next => exact hr.elim
    | brk => exact hr.elim
    | cont => exact hr.elim
end
/-- a tuple of ints -/
def isTI (d : D) : Prop := ∃ ns : List Int, d = .tup (ns.map .int)
/-- len(set(x)) -/
def dLenSet (te : DE) : DE := fun ρ S Q => te ρ S fun x S1 => ∃ xs, x = .tup xs ∧ (∀ d ∈ xs, isTI d) ∧ xs.length < 64 ∧ ∀ n : Nat, n ≤ xs.length → (n = xs.length ↔ xs.Nodup) → Q (.int n) S1
theorem ints_back {K : G} {H : Hp} : ∀ {ns : List Int} {vs : List V}, Reps K H (ns.map D.int) vs → vs = ns.map V.int
  | [], _, .nil => rfl
  | n :: ns, _, .cons r t => by
    cases r
    rw [ints_back t, List.map_cons]
theorem pick_ti {K : G} {H : Hp} : ∀ {xs : List D} {vs : List V}, Reps K H xs vs → (∀ d ∈ xs, isTI d) → ∃ ks : List (Addr × List Int), vs = ks.map (fun p => V.ref p.1) ∧ xs = ks.map (fun p => D.tup (p.2.map .int)) ∧ ∀ p ∈ ks, SqT K.K H p.1 (p.2.map V.int)
  | [], _, .nil, _ => ⟨[], rfl, rfl, fun _ h => by cases h⟩
  | x :: xs, _, .cons r t, h => by
    obtain ⟨ks, e1, e2, h2⟩ := pick_ti t fun d hd => h d (List.mem_cons_of_mem _ hd)
    obtain ⟨ns, rfl⟩ := h x List.mem_cons_self
    cases r with
    | @tup a ws _ ht hr =>
      refine ⟨(a, ns) :: ks, by rw [e1]; rfl, by rw [e2]; rfl, fun p hp => ?_⟩
      rcases List.mem_cons.mp hp with rfl | hp
      · rw [ints_back hr] at ht
        exact SqT.of ht
      · exact h2 p hp
theorem perm_of_sub {α : Type} [DecidableEq α] : ∀ (l m : List α), l.Nodup → (∀ x ∈ l, x ∈ m) → m.length ≤ l.length → l.Perm m
  | [], m, _, _, h => by
    rw [List.eq_nil_of_length_eq_zero (Nat.le_zero.mp h)]
  | a :: t, m, nd, sub, h => by
    have am : a ∈ m := sub a List.mem_cons_self
    rw [List.nodup_cons] at nd
    have := perm_of_sub t (m.erase a) nd.2 (fun x hx => (List.mem_erase_of_ne (fun e => nd.1 (by rw [← e]; exact hx))).mpr (sub x (List.mem_cons_of_mem _ hx))) (by
      rw [List.length_erase_of_mem am]
      simp only [List.length_cons] at h
      omega)
    exact (this.cons a).trans (List.perm_cons_erase am).symm
theorem got_len {ks L : List (Addr × List Int)} (g : Got ks ks.length L) (nd : (L.map (·.2)).Nodup) : L.length = ks.length ↔ (ks.map fun p => D.tup (p.2.map D.int)).Nodup := by
  have inj : ∀ a b : List Int, D.tup (a.map D.int) = D.tup (b.map D.int) → a = b := fun a b e => by
    have := D.tup.inj e
    exact List.map_inj_right (fun x y z => D.int.inj z) |>.mp this
  have nk : (ks.map fun p => D.tup (p.2.map D.int)).Nodup ↔ (ks.map (·.2)).Nodup := by
    constructor
    · intro h
      rw [List.nodup_iff_pairwise_ne, List.pairwise_map] at h ⊢
      exact h.imp fun h1 h2 => h1 (by rw [h2])
    · intro h
      rw [List.nodup_iff_pairwise_ne, List.pairwise_map] at h ⊢
      exact h.imp fun h1 h2 => h1 (inj _ _ h2)
  rw [nk]
  have sub : (L.map (·.2)) ⊆ ks.map (·.2) := fun x hx => by
    obtain ⟨p, hp, rfl⟩ := List.mem_map.mp hx
    have := g.sub p hp
    rw [List.take_length] at this
    exact List.mem_map.mpr ⟨p, this, rfl⟩
  have sup : (ks.map (·.2)) ⊆ L.map (·.2) := fun x hx => by
    obtain ⟨p, hp, rfl⟩ := List.mem_map.mp hx
    exact g.all p (by rw [List.take_length]; exact hp)
  constructor
  · intro e
    exact (perm_of_sub _ _ nd sub (by simp [e])).nodup_iff.mp nd
  · intro h
    have := (perm_of_sub _ _ h (fun x hx => sup hx) (by simpa using g.len)).length_eq
    simpa using this.symm
section
variable {X : Cx} {e : Expr} {te : DE} {p p2 q pos : Pos}
theorem ed_lenSet (hc : X.calm = true) (hu : X.A.units + 64 < cLine) (hm : X.mg "len" = none) (hm2 : X.mg "set" = none) (he : ED X e te) (hg : Gl X "len" := by rfl) (hg2 : Gl X "set" := by rfl)
    (na : starEach [e] X.env = (false, eval e X.env) :: starEach [] X.env := by rfl) : ED X (.Call (.Name "len" p) [.Call (.Name "set" p2) [e] [] q] [] pos) (dLenSet te) := by
  refine ⟨fun pins s σ H Q I ⟨ρ, S, Q', hE, hS, h, k⟩ => ?_⟩
  refine Call_ (ld_blt I hg hm PySem.boot_len (PyProof.Rows.callWith_builtin1 (PyProof.Rows.args_cons ?_ rfl) rfl rfl))
  refine Call_ (ld_blt I hg2 hm2 PyProof.Rows.boot_set ?_)
  refine PyProof.Rows.callWith_type1 (PyProof.Rows.args_cons (thn (he.run pins s σ H (fun x H1 => ∃ d S1, Keep (gOf X) H H1 ∧ SRel (gOf X) S1 H1 ∧ Rep (gOf X) H1 d x ∧ ∃ xs, d = .tup xs ∧ (∀ d ∈ xs, isTI d) ∧ xs.length < 64 ∧ ∀ n : Nat, n ≤ xs.length → (n = xs.length ↔ xs.Nodup) → Q' (.int n) S1) I
    ⟨ρ, S, _, hE, hS, h, fun v d H' S' k1 s1 r1 q1 => ⟨d, S', k1, s1, r1, q1⟩⟩) fun v s1 ⟨x, H1, I1, r1, d, S1, k1, t1, p1, xs, ed, ti, few, q1⟩ => PyProof.Rows.args_nil ?_) na) na rfl
  subst ed
  cases p1 with
  | @tup a vs _ ht hr =>
    cases r1
    obtain ⟨ks, rfl, rfl, hk⟩ := pick_ti hr ti
    obtain ⟨its, rv, tup, hz⟩ := I1.tuple (SqT.of ht)
    rw [List.length_map] at few
    refine set_of_tuple (P := X.prog) (w := X.w) ks (I1.ok.hd hc) (show s1.heap.IsTuple a its.toArray from tup) (by simpa using refs_of_vals rv) (fun p hp => I1.isT (hk p hp)) few (by omega) fun h' tk L es ep t R g keep => PyProof.Rows.args_nil ?_
    obtain ⟨o, ho, hex, hd⟩ := R.ob
    have I2 : Inv X pins σ H1 { s1 with heap := h', toks := tk } := I1.kept keep
    have le : L.length ≤ ks.length := g.len
    have len : es.size = L.length := by
      have := congrArg List.length R.rows
      simpa [rowsOf] using this
    refine call_len_set ho hex hd (R.fits (s := { s1 with heap := h', toks := tk })) (by rw [len]; omega) ⟨.int L.length, H1, I2.tok _, ⟨_, by rw [len]⟩, ?_⟩
    exact k _ (.int L.length) H1 S1 k1 t1 (.int _) (q1 L.length (by simpa using le) (by simpa using got_len g R.nd))
end
end DW
namespace DW
open PySem PySem.Spec PyProof.Rows L2
/-! ## 20. What is never come to -/
def dNo : DE := fun _ _ _ => False
theorem ed_no {X : Cx} {e : Expr} : ED X e dNo := ⟨fun _ _ _ _ _ _ ⟨_, _, _, _, _, q, _⟩ => q.elim⟩
/-- a module's text -/
theorem ed_globS {X : Cx} {pos : Pos} {x z : Str} (hg : Gl X x) (hm : ∃ t, X.mg x = some (.str z t)) (hd : (x == ("__debug__" : Str)) = false := by decide) : ED X (.Name x pos) (dC (.str z)) := by
  obtain ⟨t, h⟩ := hm
  exact ed_const (v := .str z) (pe_glob hg h ⟨t, rfl⟩ hd) fun _ => .str z
end DW
namespace DW
open PySem PySem.Spec PyProof.Rows L2
/-! ## 21. The rules once more, their small premises left to the kernel -/
structure Z (x : Str) : Prop where
  a : (x == ("__debug__" : Str)) = false
  b : (x == ("__classdict__" : Str)) = false
  c : x ≠ "__name__"
theorem z_of {x : Str} (h : ((x == ("__debug__" : Str)) || (x == ("__classdict__" : Str)) || decide (x = ("__name__" : Str))) = false := by kernel_rfl) : Z x := by
  simp only [Bool.or_eq_false_iff, decide_eq_false_iff_not] at h
  exact ⟨h.1.1, h.1.2, h.2⟩
section
variable {X : Cx} {e a b c o i : Expr} {es : List Expr} {pos p p1 p2 p3 apos cpos pos' : Pos} {ta tb tc te to ti : DE} {t : DA}
theorem kl (i : Nat) {x : Str} (z : Z x) (hN : X.N[i]? = some x := by kernel_rfl) (hv : X.env.scope.names.lookup x = some .local := by kernel_rfl) : ED X (.Name x pos) (dVar i) := ed_var i hN (.inl hv) z.a z.b
theorem kc (i : Nat) {x : Str} (z : Z x) (hN : X.N[i]? = some x := by kernel_rfl) (hv : X.env.scope.names.lookup x = some .cell := by kernel_rfl) : ED X (.Name x pos) (dVar i) := ed_var i hN (.inr (.inl hv)) z.a z.b
theorem kf (i : Nat) {x : Str} (z : Z x) (hN : X.N[i]? = some x := by kernel_rfl) (hv : X.env.scope.names.lookup x = some .free := by kernel_rfl) : ED X (.Name x pos) (dVar i) := ed_var i hN (.inr (.inr hv)) z.a z.b
theorem kgI {x : Str} {n : Int} (z : Z x) (hm : ∃ t, X.mg x = some (.int n t)) (hg : X.env.kindOf x = some .globalImplicit := by kernel_rfl) : ED X (.Name x pos) (dC (.int n)) := ed_globI hg hm z.a
theorem kgS {x n : Str} (z : Z x) (hm : ∃ t, X.mg x = some (.str n t)) (hg : X.env.kindOf x = some .globalImplicit := by kernel_rfl) : ED X (.Name x pos) (dC (.str n)) := ed_globS hg hm z.a
theorem kty {x : Str} {n : String} (z : Z x) (hm : X.mg x = none) (hv : bootBuiltins x = some (.type n)) (hg : X.env.kindOf x = some .globalImplicit := by kernel_rfl) : ED X (.Name x pos) (dC (.ty n)) := ed_ty hg hm hv z.c z.a
theorem kcmp {op : CmpOp} {r : DOp} (ho : OpR X (compareOp op) (upO (gOf X) r)) (ha : ED X a ta) (hb : ED X b tb) (hm : behindInMarks op b = false := by kernel_rfl) : ED X (.Compare a [op] [b] pos) (dOp r ta tb) := ed_cmp ho ha hb hm
theorem kcmpT {op : CmpOp} {r : DOp} (ho : OpR X (compareOp op) (upO (gOf X) r)) (ha : ED X a ta) (hb : ED X b tb) (hm : behindInMarks op b = false := by kernel_rfl) : TD X (.Compare a [op] [b] pos) (dB (dOp r ta tb)) := td_cmp ho ha hb hm
theorem kchain {op op' : CmpOp} {r r' : DOp} (ho : OpR X (compareOp op) (upO (gOf X) r)) (ho' : OpR X (compareOp op') (upO (gOf X) r')) (ha : ED X a ta) (hb : ED X b tb) (hc : ED X c tc)
    (hm : lastMarks [op, op'] [b, c] = false := by kernel_rfl) : ED X (.Compare a [op, op'] [b, c] pos) (dChain r r' ta tb tc) := ed_chain ho ho' ha hb hc hm
theorem kval (h : ED X e te) (he : ∀ whole, isTrue e X.env whole = (do let v ← whole; standAt e.pos; holding [v] (truthy v)) := by intro _; kernel_rfl) : TD X e (dB te) := td_val h he
theorem kcons (ha : ED X e te) (hr : AD X es t) (hs : starEach (e :: es) X.env = (false, eval e X.env) :: starEach es X.env := by kernel_rfl) : AD X (e :: es) (dCons te t) := ad_cons ha hr hs
theorem kB {x : Str} {id : String} {r : DC} (z : Z x) (hc : CallR X (.builtin id) (upC (gOf X) r)) (hm : X.mg x = none) (hv : bootBuiltins x = some (.builtin id)) (ha : AD X (e :: es) t) (hg : X.env.kindOf x = some .globalImplicit := by kernel_rfl)
    (he : starEach (e :: es) X.env = (false, eval e X.env) :: starEach es X.env := by kernel_rfl) (hpl : (backTo pos (starEach es X.env)).any (·.1) = false := by kernel_rfl) : ED X (.Call (.Name x p) (e :: es) [] pos) (dCall r t) := ed_callB hc hg hm hv ha z.c z.a he hpl
theorem kT {x : Str} {id : String} {r : DC} (z : Z x) (hc : CallR X (.type id) (upC (gOf X) r)) (hm : X.mg x = none) (hv : bootBuiltins x = some (.type id)) (ha : AD X (e :: es) t) (hg : X.env.kindOf x = some .globalImplicit := by kernel_rfl)
    (he : starEach (e :: es) X.env = (false, eval e X.env) :: starEach es X.env := by kernel_rfl) (hpl : (backTo pos (starEach es X.env)).any (·.1) = false := by kernel_rfl) : ED X (.Call (.Name x p) (e :: es) [] pos) (dCall r t) := ed_callTy hc hg hm hv ha z.c z.a he hpl
theorem kH {k : Nat} {ps : List Str} {sp : DC} {x : Str} (z : Z x) (h : Here X.prog X.w X.K X.mg X.base k x ps sp) (hr : Room k X.A) (ha : AD X (e :: es) t) (hg : X.env.kindOf x = some .globalImplicit := by kernel_rfl)
    (he : starEach (e :: es) X.env = (false, eval e X.env) :: starEach es X.env := by kernel_rfl) (hpl : (backTo pos (starEach es X.env)).any (·.1) = false := by kernel_rfl) : ED X (.Call (.Name x p) (e :: es) [] pos) (dCall sp t) := ed_callH h hr ha (Nat.le_refl _) hg z.a he hpl
theorem kix (hu : X.A.units + 64 < cLine) (ha : ED X a ta) (hb : ED X b tb) (hs : ∀ o i, subscripted b false o i = operate [o, i] (getItem o i) := by intro _ _; kernel_rfl) : ED X (.Subscript a b pos) (dOp aIx ta tb) := ed_ix hu ha hb hs
theorem kLS {q : Pos} (z1 : Z "len") (z2 : Z "set") (hu : X.A.units + 64 < cLine) (hm : X.mg "len" = none) (hm2 : X.mg "set" = none) (he : ED X e te) (hc : X.calm = true := by kernel_rfl) (hg : X.env.kindOf "len" = some .globalImplicit := by kernel_rfl) (hg2 : X.env.kindOf "set" = some .globalImplicit := by kernel_rfl)
    (na : starEach [e] X.env = (false, eval e X.env) :: starEach [] X.env := by kernel_rfl) : ED X (.Call (.Name "len" p) [.Call (.Name "set" p2) [e] [] q] [] pos) (dLenSet te) := ed_lenSet hc hu hm hm2 he hg hg2 na
theorem kbm {T id : String} {r : DM} {name : Str} (hT : T = "list" ∨ T = "dict" ∨ T = "str") (pa : PlainAttrs T) (slot : Slot T name id) (hty : typeOf (.builtin id) = pure (.type "method_descriptor")) (hm : MtR X id (upM (gOf X) r)) (ho : ED X o to) (ha : AD X (e :: es) t)
    (hbase : attributeBase o name X.env (eval o X.env) = eval o X.env := by kernel_rfl)
    (few : ((backTo cpos (starEach (e :: es) X.env)).all (fun x => !x.1) && (backToKw cpos (keywordEach [] X.env)).all (fun x => x.1.isSome) && decide ((e :: es).length + ([] : List Keyword).length + (if ([] : List Keyword).isEmpty then 0 else 1) < 30)) = true := by kernel_rfl)
    (hline : (apos.endLine == cpos.line) = true := by kernel_rfl) (hs : starEach (e :: es) X.env = (false, eval e X.env) :: starEach es X.env := by kernel_rfl) (hplain : (backTo cpos (starEach es X.env)).any (·.1) = false := by kernel_rfl) :
    ED X (.Call (.Attribute o name apos) (e :: es) [] cpos) (dBM T r to t) := ed_bm hT pa slot hty hm ho ha hbase few hline hs hplain
theorem kbm0 {T id : String} {r : DM} {name : Str} (hT : T = "list" ∨ T = "dict" ∨ T = "str") (pa : PlainAttrs T) (slot : Slot T name id) (hty : typeOf (.builtin id) = pure (.type "method_descriptor")) (hm : MtR X id (upM (gOf X) r)) (ho : ED X o to)
    (hbase : attributeBase o name X.env (eval o X.env) = eval o X.env := by kernel_rfl) (hline : (apos.endLine == cpos.line) = true := by kernel_rfl) : ED X (.Call (.Attribute o name apos) [] [] cpos) (dBM0 T r to) := ed_bm0 hT pa slot hty hm ho hbase hline
/-! targets -/
theorem gl (i : Nat) {x : Str} (hN : X.N.Nodup) (hi : X.N[i]? = some x := by kernel_rfl) (hx : X.env.scope.names.lookup x = some .local := by kernel_rfl) : PG X (.Name x p) ((Tg.nm i).v X.K) := gt_nm i hN hi (.inl hx) (.inr hx)
theorem gc (i : Nat) {x : Str} (hN : X.N.Nodup) (hi : X.N[i]? = some x := by kernel_rfl) (hx : X.env.scope.names.lookup x = some .cell := by kernel_rfl) (hf : X.fn x = true := by kernel_rfl) : PG X (.Name x p) ((Tg.nm i).v X.K) := gt_nm i hN hi (.inr hx) (.inl hf)
theorem gnil : PGs X [] (gNms []) := pgs_nil
theorem gcons {e : Expr} {es : List Expr} {j : Nat} {js : List Nat} (h1 : PG X e ((Tg.nm j).v X.K)) (h2 : PGs X es (gNms js))
    (hs : (assignEach (e :: es) X.env).map (·.2) = assign e X.env :: (assignEach es X.env).map (·.2) := by kernel_rfl) : PGs X (e :: es) (gNms (j :: js)) := pgs_cons h1 h2 hs
theorem gtup {es : List Expr} {k : Nat} {js : List Nat} (h : PGs X es (gNms js)) (hc : X.calm = true := by kernel_rfl)
    (hn : (assignEach es X.env).length = js.length := by kernel_rfl) (hst : (assignEach es X.env).findIdx? (·.1) = none := by kernel_rfl) : PG X (.Tuple es k pos) ((Tg.tp js).v X.K) := pg_tup hc h hn hst
/-! what is walked -/
section
variable {tg : Expr}
theorem iR1 (z : Z "range") (hm : X.mg "range" = none) (ha : AD X [a] t) (hg : X.env.kindOf "range" = some .globalImplicit := by kernel_rfl) (hs : starEach [a] X.env = [(false, eval a X.env)] := by kernel_rfl) : PI X tg (.Call (.Name "range" p) [a] [] pos) (upI (gOf X) (dRng1 t)) := id_rng1 hg hm ha hs
theorem iR2 (z : Z "range") (hm : X.mg "range" = none) (ha : AD X [a, b] t) (hg : X.env.kindOf "range" = some .globalImplicit := by kernel_rfl) (hs : starEach [a, b] X.env = [(false, eval a X.env), (false, eval b X.env)] := by kernel_rfl) (hs2 : starEach [b] X.env = [(false, eval b X.env)] := by kernel_rfl) :
    PI X tg (.Call (.Name "range" p) [a, b] [] pos) (upI (gOf X) (dRng2 t)) := id_rng2 hg hm ha hs hs2
theorem iR3 (z : Z "range") (hm : X.mg "range" = none) (ha : AD X [a, b, c] t) (hg : X.env.kindOf "range" = some .globalImplicit := by kernel_rfl) (hs : starEach [a, b, c] X.env = (false, eval a X.env) :: starEach [b, c] X.env := by kernel_rfl)
    (hpl : (backTo pos (starEach [b, c] X.env)).any (·.1) = false := by kernel_rfl) : PI X tg (.Call (.Name "range" p) [a, b, c] [] pos) (upI (gOf X) (dRngB t)) := id_rngB hg hm ha hs hpl
theorem iZ {elts : List Expr} {kk : Nat} {tpos : Pos} (z : Z "zip") (hm : X.mg "zip" = none) (ha : AD X [a, b] t) (hg : X.env.kindOf "zip" = some .globalImplicit := by kernel_rfl) (hs : starEach [a, b] X.env = (false, eval a X.env) :: starEach [b] X.env := by kernel_rfl)
    (hpl : (backTo pos (starEach [b] X.env)).any (·.1) = false := by kernel_rfl) : PI X (.Tuple elts kk tpos) (.Call (.Name "zip" p) [a, b] [] pos) (upI (gOf X) (dZip t)) := id_zip hg hm ha hs hpl
theorem iE {elts : List Expr} {kk : Nat} {tpos : Pos} (z : Z "enumerate") (hm : X.mg "enumerate" = none) (ha : AD X [a] t) (hg : X.env.kindOf "enumerate" = some .globalImplicit := by kernel_rfl) (hs : starEach [a] X.env = [(false, eval a X.env)] := by kernel_rfl) :
    PI X (.Tuple elts kk tpos) (.Call (.Name "enumerate" p) [a] [] pos) (upI (gOf X) (dEnum t)) := id_enum hg hm ha hs
end
/-! comprehensions -/
section
variable {elt tg iter : Expr} {ifs : List Expr} {scope : Scope} {own : List (Str × Nat)} {spos : Pos} {wi : DI} {T : Tg} {tt : DT}
theorem kLC (own : List (Str × Nat)) (hN : X.N.Nodup) (hi : PI X tg iter (upI (gOf X) wi)) (hg : ∀ (s : Shared) (H : Hp) (C : Addr) (cl : List (Str × Addr)) (fp : List Addr), PG (X.blk s H scope (compEnvC scope cl C X.env) fp) tg (T.v X.K))
    (ht : ∀ (s : Shared) (H : Hp) (C : Addr) (cl : List (Str × Addr)) (fp : List Addr), PTs (X.blk s H scope (compEnvC scope cl C X.env) fp) ifs (upT (gOf X) tt))
    (he : ∀ (s : Shared) (H : Hp) (C : Addr) (cl : List (Str × Addr)) (fp : List Addr), PE (X.blk s H scope (compEnvC scope cl C X.env) fp) elt (upE (gOf X) te))
    (ok : blkC X.N X.env.scope scope own = true := by kernel_rfl) (hv : (T.slots.all fun i => (own.map (·.2)).contains i) = true := by kernel_rfl) (hc : X.calm = true := by kernel_rfl) (hs : ∀ x, foldedSetIterable iter X.env x = pure x := by intro _; kernel_rfl) :
    ED X (.ListComp elt [⟨tg, iter, ifs, 0⟩] scope pos) (dLc wi T tt te (own.map (·.2))) := ed_lc hc hN hi (blkOk_by ok) hg ht he (fun i h => by simpa using List.all_eq_true.mp hv i h) hs
theorem kLP (own : List (Str × Nat)) (hN : X.N.Nodup) (hi : PI X tg iter (upI (gOf X) wi)) (hg : ∀ (s : Shared) (H : Hp) (C : Addr) (cl : List (Str × Addr)) (fp : List Addr), PG (X.blk s H scope (compEnvC scope cl C X.env) fp) tg (T.v X.K))
    (ht : ∀ (s : Shared) (H : Hp) (C : Addr) (cl : List (Str × Addr)) (fp : List Addr), PTs (X.blk s H scope (compEnvC scope cl C X.env) fp) ifs (upT (gOf X) tt))
    (he : ∀ (s : Shared) (H : Hp) (C : Addr) (cl : List (Str × Addr)) (fp : List Addr), PE (X.blk s H scope (compEnvC scope cl C X.env) fp) elt (upE (gOf X) te))
    (ok : blkC X.N X.env.scope scope own = true := by kernel_rfl) (hv : (T.slots.all fun i => (own.map (·.2)).contains i) = true := by kernel_rfl) (hc : X.calm = true := by kernel_rfl) (hs : ∀ x, foldedSetIterable iter X.env x = pure x := by intro _; kernel_rfl) :
    ED X (.ListComp elt [⟨tg, iter, ifs, 0⟩] scope pos) (dLcP wi T tt te (own.map (·.2))) := ed_lcP hc hN hi (blkOk_by ok) hg ht he (fun i h => by simpa using List.all_eq_true.mp hv i h) hs
theorem sw_true' {gs : List Comprehension} {py : Pos} {y : Str} {l : Nat} {env : Env} (h : ((match env.scope.kind with | .function => true | _ => false) && decide (env.scope.names.lookup y = some .local) && (py.line == pos.line) && !(scope.names.any fun (n, k) => n == y && (k == .local || k == .cell))) = true) :
    swapsWith (.ListComp elt gs scope pos) (some (.Name y py)) l env = pure true := by
  simp only [Bool.and_eq_true, decide_eq_true_eq, Bool.not_eq_true'] at h
  obtain ⟨⟨⟨h1, h2⟩, h3⟩, h4⟩ := h
  refine sw_true ?_ h2 h3 h4
  split at h1
  · assumption
  · cases h1
theorem sLC (i : Nat) {y : Str} {py : Pos} (own : List (Str × Nat)) (hN : X.N.Nodup) (hi : PI X tg iter (upI (gOf X) wi)) (hg : ∀ (s : Shared) (H : Hp) (C : Addr) (cl : List (Str × Addr)) (fp : List Addr), PG (X.blk s H scope (compEnvC scope cl C X.env) fp) tg (T.v X.K))
    (ht : ∀ (s : Shared) (H : Hp) (C : Addr) (cl : List (Str × Addr)) (fp : List Addr), PTs (X.blk s H scope (compEnvC scope cl C X.env) fp) ifs (upT (gOf X) tt))
    (he : ∀ (s : Shared) (H : Hp) (C : Addr) (cl : List (Str × Addr)) (fp : List Addr), PE (X.blk s H scope (compEnvC scope cl C X.env) fp) elt (upE (gOf X) te))
    (ok : blkC X.N X.env.scope scope own = true := by kernel_rfl) (hv : (T.slots.all fun i => (own.map (·.2)).contains i) = true := by kernel_rfl) (hy : X.N[i]? = some y := by kernel_rfl) (hyl : X.env.scope.names.lookup y = some .local := by kernel_rfl)
    (hsw : ((match X.env.scope.kind with | .function => true | _ => false) && decide (X.env.scope.names.lookup y = some .local) && (py.line == pos.line) && !(scope.names.any fun (n, k) => n == y && (k == .local || k == .cell))) = true := by kernel_rfl)
    (hc : X.calm = true := by kernel_rfl) (hs : ∀ x, foldedSetIterable iter X.env x = pure x := by intro _; kernel_rfl) :
    SD X (.Assign [.Name y py] (.ListComp elt [⟨tg, iter, ifs, 0⟩] scope pos) spos) (dAsg (dLc wi T tt te (own.map (·.2))) (.nm i)) := sd_lc i hc hN hi (blkOk_by ok) hg ht he (fun i h => by simpa using List.all_eq_true.mp hv i h) hy hyl (sw_true' hsw) hs
theorem sLP (i : Nat) {y : Str} {py : Pos} (own : List (Str × Nat)) (hN : X.N.Nodup) (hi : PI X tg iter (upI (gOf X) wi)) (hg : ∀ (s : Shared) (H : Hp) (C : Addr) (cl : List (Str × Addr)) (fp : List Addr), PG (X.blk s H scope (compEnvC scope cl C X.env) fp) tg (T.v X.K))
    (ht : ∀ (s : Shared) (H : Hp) (C : Addr) (cl : List (Str × Addr)) (fp : List Addr), PTs (X.blk s H scope (compEnvC scope cl C X.env) fp) ifs (upT (gOf X) tt))
    (he : ∀ (s : Shared) (H : Hp) (C : Addr) (cl : List (Str × Addr)) (fp : List Addr), PE (X.blk s H scope (compEnvC scope cl C X.env) fp) elt (upE (gOf X) te))
    (ok : blkC X.N X.env.scope scope own = true := by kernel_rfl) (hv : (T.slots.all fun i => (own.map (·.2)).contains i) = true := by kernel_rfl) (hy : X.N[i]? = some y := by kernel_rfl) (hyl : X.env.scope.names.lookup y = some .local := by kernel_rfl)
    (hsw : ((match X.env.scope.kind with | .function => true | _ => false) && decide (X.env.scope.names.lookup y = some .local) && (py.line == pos.line) && !(scope.names.any fun (n, k) => n == y && (k == .local || k == .cell))) = true := by kernel_rfl)
    (hc : X.calm = true := by kernel_rfl) (hs : ∀ x, foldedSetIterable iter X.env x = pure x := by intro _; kernel_rfl) :
    SD X (.Assign [.Name y py] (.ListComp elt [⟨tg, iter, ifs, 0⟩] scope pos) spos) (dAsg (dLcP wi T tt te (own.map (·.2))) (.nm i)) := sd_lcP i hc hN hi (blkOk_by ok) hg ht he (fun i h => by simpa using List.all_eq_true.mp hv i h) hy hyl (sw_true' hsw) hs
end
/-! statements -/
section
variable {T : Tg} {tg : Expr} {tS : DS}
theorem sE (he : ED X e te) (hs : swapsWith e none pos.line X.env = pure false := by kernel_rfl) : SD X (.Expr e pos) (dDrop te) := sd_expr he hs
theorem sA (he : ED X e te) (hg : PG X tg (T.v X.K)) (hs : swapsWithSole [tg] e pos.line X.env = pure false := by kernel_rfl) (hw : swappedStores [tg] e X.env = pure none := by kernel_rfl)
    (h1 : (assignEach [tg] X.env).map (·.2) = [assign tg X.env] := by kernel_rfl) : SD X (.Assign [tg] e pos) (dAsg te T) := sd_asg he hg hs hw h1
theorem sl (i : Nat) {x : Str} (he : ED X e te) (hN : X.N.Nodup) (hi : X.N[i]? = some x := by kernel_rfl) (hx : X.env.scope.names.lookup x = some .local := by kernel_rfl) (hs : swapsWith e (some (.Name x pos')) pos.line X.env = pure false := by kernel_rfl) :
    SD X (.Assign [.Name x pos'] e pos) (dAsg te (.nm i)) := sd_set i he hN hi (.inl hx) hs (.inr hx)
theorem sc (i : Nat) {x : Str} (he : ED X e te) (hN : X.N.Nodup) (hi : X.N[i]? = some x := by kernel_rfl) (hx : X.env.scope.names.lookup x = some .cell := by kernel_rfl) (hs : swapsWith e (some (.Name x pos')) pos.line X.env = pure false := by kernel_rfl) (hf : X.fn x = true := by kernel_rfl) :
    SD X (.Assign [.Name x pos'] e pos) (dAsg te (.nm i)) := sd_set i he hN hi (.inr hx) hs (.inl hf)
theorem sP {x y : Str} {ta : DA} {px py pt : Pos} {kt k2 pt2} (i j : Nat) (hN : X.N.Nodup) (ha : AD X [a, b] ta) (hi : X.N[i]? = some x := by kernel_rfl) (hj : X.N[j]? = some y := by kernel_rfl) (hij : (i != j) = true := by kernel_rfl)
    (hx : X.env.scope.names.lookup x = some .local := by kernel_rfl) (hy : X.env.scope.names.lookup y = some .local := by kernel_rfl) (hc : X.calm = true := by kernel_rfl)
    (hw : swappedStores [.Tuple [.Name x px, .Name y py] kt pt] (.Tuple [a, b] k2 pt2) X.env = pure (some [x, y]) := by kernel_rfl)
    (hs : swapsWithSole [.Tuple [.Name x px, .Name y py] kt pt] (.Tuple [a, b] k2 pt2) pos.line X.env = pure false := by kernel_rfl) :
    SD X (.Assign [.Tuple [.Name x px, .Name y py] kt pt] (.Tuple [a, b] k2 pt2) pos) (dPar i j ta) := sd_par hc hN hi hj (by simpa using hij) hx hy ha hw hs
theorem sP3 {x y z : Str} {ta : DA} {px py pz pt : Pos} {kt k2 pt2} (i j l : Nat) (hN : X.N.Nodup) (ha : AD X [a, b, c] ta) (hi : X.N[i]? = some x := by kernel_rfl) (hj : X.N[j]? = some y := by kernel_rfl) (hl : X.N[l]? = some z := by kernel_rfl)
    (hij : (i != j && i != l && j != l) = true := by kernel_rfl)
    (hx : X.env.scope.names.lookup x = some .local := by kernel_rfl) (hy : X.env.scope.names.lookup y = some .local := by kernel_rfl) (hz : X.env.scope.names.lookup z = some .local := by kernel_rfl) (hc : X.calm = true := by kernel_rfl)
    (hw : swappedStores [.Tuple [.Name x px, .Name y py, .Name z pz] kt pt] (.Tuple [a, b, c] k2 pt2) X.env = pure (some [x, y, z]) := by kernel_rfl)
    (hs : swapsWithSole [.Tuple [.Name x px, .Name y py, .Name z pz] kt pt] (.Tuple [a, b, c] k2 pt2) pos.line X.env = pure false := by kernel_rfl) :
    SD X (.Assign [.Tuple [.Name x px, .Name y py, .Name z pz] kt pt] (.Tuple [a, b, c] k2 pt2) pos) (dPar3 i j l ta) := by
  simp only [Bool.and_eq_true, bne_iff_ne] at hij
  exact sd_par3 hc hN hi hj hl hij.1.1 hij.1.2 hij.2 hx hy hz ha hw hs
theorem sU (hu : X.A.units + 64 < cLine) (ho : ED X o to) (hi : ED X i ti) (he : ED X e te) (hs : swapsWithSole [.Subscript o i pos'] e pos.line X.env = pure false := by kernel_rfl)
    (hw : swappedStores [.Subscript o i pos'] e X.env = pure none := by kernel_rfl)
    (ha : ∀ v, assign (.Subscript o i pos') X.env v = (do
      let ov ← holding [v] (eval o X.env)
      let iv ← holding [v, ov] (eval i X.env)
      standAt pos'
      holding [v, ov, iv] (setItem ov iv v)
      release [v, ov, iv] []) := by intro _; kernel_rfl)
    (h1 : (assignEach [.Subscript o i pos'] X.env).map (·.2) = [assign (.Subscript o i pos') X.env] := by kernel_rfl) : SD X (.Assign [.Subscript o i pos'] e pos) (dPut to ti te) := sd_put hu ho hi he hs hw ha h1
theorem sF {iter : Expr} {body : List Stmt} {wi : DI} (hp : PassesOwn (model X.prog X.w) X.A X.env X.xe) (hi : PI X tg iter (upI (gOf X) wi)) (hg : PG X tg (T.v X.K)) (hb : BD X body tS) (hc : X.calm = true := by kernel_rfl)
    (hs : ∀ x, foldedSetIterable iter X.env x = pure x := by intro _; kernel_rfl) : SD X (.For tg iter body [] pos) (dFor wi T tS) := sd_for hp hc hi hg hb hs
end
end
end DW
namespace DW
open PySem PySem.Spec PyProof.Rows L2
/-! ## 22. The readings, unfolded by simp -/
section
variable {ρ : REnv} {S : Sto} {Q : DQ} {E : DEnds} {i j l : Nat} {d : D} {r r' : DOp} {ta tb tc te to ti tv : DE} {t : DA} {c c' : DT} {T u : DS} {K : List D → Sto → Prop} {B : Bool → Sto → Prop} {rc : DC} {rm : DM} {nm : String} {O : Option Int → Sto → Prop} {tl th : DP}
@[simp] theorem u_var : dVar i ρ S Q = ∃ d, ρ[i]? = some (some d) ∧ Q d S := rfl
@[simp] theorem u_c : dC d ρ S Q = Q d S := rfl
@[simp] theorem u_op : dOp r ta tb ρ S Q = ta ρ S fun x S1 => tb ρ S1 fun y S2 => r x y S2 Q := rfl
@[simp] theorem u_chain : dChain r r' ta tb tc ρ S Q = ta ρ S fun x S1 => tb ρ S1 fun y S2 => r x y S2 fun z S3 => ∃ k, z = .bl k ∧ (if k = true then tc ρ S3 fun w S4 => r' y w S4 Q else Q (.bl false) S3) := rfl
@[simp] theorem u_B : dB te ρ S B = te ρ S fun x S1 => ∃ c, x = .bl c ∧ B c S1 := rfl
@[simp] theorem u_andV : dAndV ta tb ρ S Q = ta ρ S fun x S1 => ∃ c, x = .bl c ∧ if c = true then tb ρ S1 Q else Q (.bl false) S1 := rfl
@[simp] theorem u_orV : dOrV ta tb ρ S Q = ta ρ S fun x S1 => ∃ c, x = .bl c ∧ if c = true then Q (.bl true) S1 else tb ρ S1 Q := rfl
@[simp] theorem u_notV : dNotV ta ρ S Q = ta ρ S fun x S1 => ∃ c, x = .bl c ∧ Q (.bl (!c)) S1 := rfl
@[simp] theorem u_if : dIf c ta tb ρ S Q = c ρ S fun b S1 => if b = true then ta ρ S1 Q else tb ρ S1 Q := rfl
@[simp] theorem u_and : dAnd c c' ρ S B = c ρ S fun b S1 => if b = true then c' ρ S1 B else B false S1 := rfl
@[simp] theorem u_or : dOr c c' ρ S B = c ρ S fun b S1 => if b = true then B true S1 else c' ρ S1 B := rfl
@[simp] theorem u_not : dNot c ρ S B = c ρ S fun b S1 => B (!b) S1 := rfl
@[simp] theorem u_nil : dNil ρ S K = K [] S := rfl
@[simp] theorem u_cons : dCons ta t ρ S K = ta ρ S fun x S1 => t ρ S1 fun xs S2 => K (x :: xs) S2 := rfl
@[simp] theorem u_tup : dTup t ρ S Q = t ρ S fun xs S1 => xs.length ≤ sizeLine ∧ Q (.tup xs) S1 := rfl
@[simp] theorem u_lst : dLst t ρ S Q = t ρ S fun xs S1 => xs.length ≤ sizeLine ∧ ∀ p, S1 p = none → Q (.ref p) (put S1 p (.lst xs)) := rfl
@[simp] theorem u_call : dCall rc t ρ S Q = t ρ S fun xs S1 => rc xs S1 Q := rfl
@[simp] theorem u_neg : dNeg te ρ S Q = te ρ S fun x S1 => ∃ i, x = .int i ∧ Q (.int (-i)) S1 := rfl
@[simp] theorem u_bm : dBM nm rm to t ρ S Q = to ρ S fun x S1 => tyD S1 x = some nm ∧ t ρ S1 fun xs S2 => rm x xs S2 Q := rfl
@[simp] theorem u_bm0 : dBM0 nm rm to ρ S Q = to ρ S fun x S1 => tyD S1 x = some nm ∧ rm x [] S1 Q := rfl
@[simp] theorem u_noP : dNoP ρ S O = O none S := rfl
@[simp] theorem u_part : dPart te ρ S O = te ρ S fun x S1 => ∃ i, x = .int i ∧ O (some i) S1 := rfl
@[simp] theorem u_sl : dSl te tl th ρ S Q = te ρ S fun x S1 => tl ρ S1 fun l S2 => th ρ S2 fun u S3 => aSl x l u S3 Q := rfl
@[simp] theorem u_revL : dRevL te ρ S Q = te ρ S fun x S1 => ∃ p xs, x = .ref p ∧ (S1 p = some (.lst xs) ∨ S1 p = some (.rls xs)) ∧ ∀ q, S1 q = none → Q (.ref q) (put S1 q (.lst xs.reverse)) := rfl
@[simp] theorem u_dict0 : dDict0 ρ S Q = ∀ p, S p = none → Q (.ref p) (put S p (.dic [])) := rfl
@[simp] theorem u_next : dNext E ρ S = E.nx ρ S := rfl
@[simp] theorem u_seq : dSeqS T u E ρ S = T { E with nx := u E } ρ S := rfl
@[simp] theorem u_brk : dBreak E ρ S = E.bk ρ S := rfl
@[simp] theorem u_cont : dCont E ρ S = E.ct ρ S := rfl
@[simp] theorem u_drop : dDrop te E ρ S = te ρ S fun _ S1 => E.nx ρ S1 := rfl
@[simp] theorem u_ret : dRet te E ρ S = te ρ S E.rt := rfl
@[simp] theorem u_retN : dRetN E ρ S = E.rt .non S := rfl
@[simp] theorem u_ifS : dIfS c T u E ρ S = c ρ S fun b S1 => if b = true then T E ρ S1 else u E ρ S1 := rfl
@[simp] theorem u_never : dNever E ρ S = False := rfl
@[simp] theorem u_no : dNo ρ S Q = False := rfl
@[simp] theorem u_asg : dAsg te (.nm i) E ρ S = te ρ S fun d S1 => E.nx (ρ.set i (some d)) S1 := by
  simp [dAsg, Tg.d]
@[simp] theorem u_asg2 : dAsg te (.tp [i, j]) E ρ S = te ρ S fun d S1 => ∃ a b, d = .tup [a, b] ∧ E.nx ((ρ.set i (some a)).set j (some b)) S1 := by
  unfold dAsg
  congr 1
  funext d S1
  refine propext ⟨?_, ?_⟩
  · rintro ⟨ρ', h, q⟩
    unfold Tg.d at h
    cases d with
    | tup ds =>
      simp only at h
      split at h
      · next hl =>
        cases h
        match ds, hl with
        | [a, b], _ => exact ⟨a, b, rfl, q⟩
      · cases h
    | non => cases h
    | bl _ => cases h
    | int _ => cases h
    | str _ => cases h
    | ref _ => cases h
    | ty _ => cases h
  · rintro ⟨a, b, rfl, q⟩
    exact ⟨_, rfl, q⟩
@[simp] theorem u_par : dPar i j t E ρ S = t ρ S fun ds S1 => ∃ a b, ds = [a, b] ∧ E.nx ((ρ.set i (some a)).set j (some b)) S1 := rfl
@[simp] theorem u_par3 : dPar3 i j l t E ρ S = t ρ S fun ds S1 => ∃ a b c, ds = [a, b, c] ∧ E.nx (((ρ.set i (some a)).set j (some b)).set l (some c)) S1 := rfl
@[simp] theorem u_put : dPut to ti tv E ρ S = tv ρ S fun v S1 => to ρ S1 fun o S2 => ti ρ S2 fun k S3 => aSet o k v S3 (E.nx ρ) := rfl
@[simp] theorem u_endnx {σ : REnv} {R : DQ} : (endsD R).nx σ S = ∃ S0, Sub S0 S ∧ R .non S0 := rfl
@[simp] theorem u_endrt {R : DQ} : (endsD R).rt d S = ∃ S0, Sub S0 S ∧ R d S0 := rfl
end
theorem rtS {R : DQ} {d : D} {S : Sto} (h : R d S) : ∃ S0, Sub S0 S ∧ R d S0 := ⟨S, Sub.refl, h⟩

/-! ## 23. Comprehensions and loops, once what they walk is known -/
theorem lcP_at {wi : DI} {T : Tg} {tt : DT} {te : DE} {vs : List Nat} {ρ : REnv} {S : Sto} {Q : DQ} {items : List D} {guard : Sto → Prop} {S1 : Sto} (h : ∀ R : List D → (Sto → Prop) → Sto → Prop, R items guard S1 → wi ρ S R) {α : Type} (xs : List α) (g : α → D) (kp : α → Bool) (f : α → D) (hi : items = xs.map g)
    (hg : ∀ S2, Sub S1 S2 → guard S2) (hs : ∀ x ∈ xs, ∀ S2, Sub S1 S2 → ∃ ρ2, T.d (g x) (wipeD ρ vs) = some ρ2 ∧ tt ρ2 S2 fun b S3 => Sub S2 S3 ∧ b = kp x ∧ (b = true → te ρ2 S3 fun y S4 => Sub S2 S4 ∧ y = f x))
    (hl : xs.length ≤ sizeLine) (hq : ∀ p, S1 p = none → Q (.ref p) (put S1 p (.lst ((xs.filter kp).map f)))) : dLcP wi T tt te vs ρ S Q := h _ ⟨α, xs, g, kp, f, hi, hg, hs, hl, hq⟩
/-- a name, no test -/
theorem lcP_all {wi : DI} {i : Nat} {te : DE} {vs : List Nat} {ρ : REnv} {S : Sto} {Q : DQ} {items : List D} {guard : Sto → Prop} {S1 : Sto} (h : ∀ R : List D → (Sto → Prop) → Sto → Prop, R items guard S1 → wi ρ S R) (f : D → D)
    (hg : ∀ S2, Sub S1 S2 → guard S2) (hs : ∀ x ∈ items, ∀ S2, Sub S1 S2 → te ((wipeD ρ vs).set i (some x)) S2 fun y S4 => Sub S2 S4 ∧ y = f x)
    (hl : items.length ≤ sizeLine) (hq : ∀ p, S1 p = none → Q (.ref p) (put S1 p (.lst (items.map f)))) : dLcP wi (.nm i) dYes te vs ρ S Q := by
  refine lcP_at h items id (fun _ => true) f (by simp) hg (fun x hx S2 u => ⟨_, rfl, Sub.refl, rfl, fun _ => hs x hx S2 u⟩) hl fun p hp => ?_
  rw [List.filter_eq_self.mpr (fun _ _ => rfl)]
  exact hq p hp
theorem lc_at {wi : DI} {T : Tg} {tt : DT} {te : DE} {vs : List Nat} {ρ : REnv} {S : Sto} {Q : DQ} {items : List D} {guard : Sto → Prop} {S1 : Sto} (h : ∀ R : List D → (Sto → Prop) → Sto → Prop, R items guard S1 → wi ρ S R)
    (hq : ∀ p, S1 p = none → ∃ P : Nat → List D → Sto → Prop, P 0 [] (put S1 p (.lst [])) ∧
      (∀ i d acc S2, items[i]? = some d → P i acc S2 → guard S2 ∧ ∃ ρ2, T.d d (wipeD ρ vs) = some ρ2 ∧ tt ρ2 S2 fun b S3 => if b = true then te ρ2 S3 fun y S4 => S4 p = some (.lst acc) ∧ acc.length < sizeLine ∧ ∃ S5, Sub S5 (put S4 p (.lst (acc ++ [y]))) ∧ P (i + 1) (acc ++ [y]) S5
        else ∃ S5, Sub S5 S3 ∧ P (i + 1) acc S5) ∧ ∀ acc S2, P items.length acc S2 → guard S2 ∧ Q (.ref p) S2) : dLc wi T tt te vs ρ S Q := h _ hq
theorem for_at {wi : DI} {T : Tg} {tb : DS} {E : DEnds} {ρ : REnv} {S : Sto} {items : List D} {guard : Sto → Prop} {S1 : Sto} (h : ∀ R : List D → (Sto → Prop) → Sto → Prop, R items guard S1 → wi ρ S R) (P : Nat → REnv → Sto → Prop) (p0 : P 0 ρ S1)
    (ps : ∀ i d ρ1 S2, items[i]? = some d → P i ρ1 S2 → guard S2 ∧ ∃ ρ2, T.d d ρ1 = some ρ2 ∧
      tb { E with nx := fun ρ' S' => ∃ ρ0 S0, RSub ρ0 ρ' ∧ Sub S0 S' ∧ P (i + 1) ρ0 S0, ct := fun ρ' S' => ∃ ρ0 S0, RSub ρ0 ρ' ∧ Sub S0 S' ∧ P (i + 1) ρ0 S0, bk := E.nx } ρ2 S2)
    (pe : ∀ ρ1 S2, P items.length ρ1 S2 → guard S2 ∧ E.nx ρ1 S2) : dFor wi T tb E ρ S := h _ ⟨P, p0, ps, pe⟩
@[simp] theorem u_yes {ρ : REnv} {S : Sto} {B : Bool → Sto → Prop} : dYes ρ S B = B true S := rfl
theorem RSub.cons {a : Option D} {r0 r : REnv} (h : RSub r0 r) : RSub (a :: r0) (a :: r) := ⟨by simp [h.1], fun i d e => by
  cases i with
  | zero => simpa using e
  | succ i => simpa using h.2 i d (by simpa using e)⟩
theorem RSub.drop {a : Option D} {r0 r : REnv} (h : RSub r0 r) : RSub (none :: r0) (a :: r) := ⟨by simp [h.1], fun i d e => by
  cases i with
  | zero => simp at e
  | succ i => simpa using h.2 i d (by simpa using e)⟩
theorem RSub.nil : RSub [] [] := RSub.refl
/-! ## 24. What many laws share: whole numbers, tuples, draws -/
def whole (d : D) (lo hi : Int) : Bool := match d with
  | .int i => decide (lo ≤ i) && decide (i ≤ hi)
  | _ => false
def isTupB : D → Bool
  | .tup _ => true
  | _ => false
def tupLen (d : D) (lo hi : Int) : Bool := match d with
  | .tup xs => decide (lo ≤ (xs.length : Int)) && decide ((xs.length : Int) ≤ hi)
  | _ => false
def sp_is_whole : DC := fun ds S Q => match ds with
  | [d, .int lo, .int hi] => (tyD S d).isSome = true ∧ Q (.bl (whole d lo hi)) S
  | _ => False
def sp_is_tuple_of : DC := fun ds S Q => match ds with
  | [d, .int lo, .int hi] => (tyD S d).isSome = true ∧ Q (.bl (tupLen d lo hi)) S
  | _ => False
theorem len_is_whole : ∀ ds S Q, sp_is_whole ds S Q → ds.length = 3 := fun ds S Q h => by
  unfold sp_is_whole at h
  split at h
  · rfl
  · exact h.elim
theorem len_is_tuple_of : ∀ ds S Q, sp_is_tuple_of ds S Q → ds.length = 3 := fun ds S Q h => by
  unfold sp_is_tuple_of at h
  split at h
  · rfl
  · exact h.elim
theorem tyD_sub {S S2 : Sto} {d : D} {t : String} (u : Sub S S2) (h : tyD S d = some t) : tyD S2 d = some t := by
  cases d with
  | ref a =>
    simp only [tyD] at h ⊢
    cases e : S a with
    | none => rw [e] at h; cases h
    | some o =>
      rw [u a o e]
      rw [e] at h
      exact h
  | _ => exact h
theorem tyD_subS {S S2 : Sto} {d : D} (u : Sub S S2) (h : (tyD S d).isSome = true) : (tyD S2 d).isSome = true := by
  obtain ⟨t, h⟩ := Option.isSome_iff_exists.mp h
  rw [tyD_sub u h]
  rfl
theorem ty_ref {S : Sto} {a : Addr} {t : String} (h : tyD S (.ref a) = some t) : t = "list" ∨ t = "dict" := by
  simp only [tyD] at h
  split at h <;> simp at h <;> simp [← h]
/-- all([..]) and any([..]) over a list of the moment -/
theorem all_at {wi : DI} {i : Nat} {te : DE} {vs : List Nat} {ρ : REnv} {S : Sto} {Q : DQ} {items : List D} {guard : Sto → Prop} {S1 : Sto} (h : ∀ R : List D → (Sto → Prop) → Sto → Prop, R items guard S1 → wi ρ S R) (f : D → Bool)
    (hg : ∀ S2, Sub S1 S2 → guard S2) (hs : ∀ x ∈ items, ∀ S2, Sub S1 S2 → te ((wipeD ρ vs).set i (some x)) S2 fun y S4 => Sub S2 S4 ∧ y = .bl (f x))
    (hl : items.length ≤ sizeLine) (hq : Q (.bl (items.all f)) S1) : dLcP wi (.nm i) dYes te vs ρ S (fun x S1 => aAll true [x] S1 Q) := by
  refine lcP_all h (fun x => .bl (f x)) hg hs hl fun p hp => ⟨p, items.map f, rfl, by rw [put_same, List.map_map]; rfl, ?_⟩
  rw [if_pos rfl, del_put hp]
  simpa [List.all_map, Function.comp_def] using hq
theorem any_at {wi : DI} {i : Nat} {te : DE} {vs : List Nat} {ρ : REnv} {S : Sto} {Q : DQ} {items : List D} {guard : Sto → Prop} {S1 : Sto} (h : ∀ R : List D → (Sto → Prop) → Sto → Prop, R items guard S1 → wi ρ S R) (f : D → Bool)
    (hg : ∀ S2, Sub S1 S2 → guard S2) (hs : ∀ x ∈ items, ∀ S2, Sub S1 S2 → te ((wipeD ρ vs).set i (some x)) S2 fun y S4 => Sub S2 S4 ∧ y = .bl (f x))
    (hl : items.length ≤ sizeLine) (hq : Q (.bl (items.any f)) S1) : dLcP wi (.nm i) dYes te vs ρ S (fun x S1 => aAny true [x] S1 Q) := by
  refine lcP_all h (fun x => .bl (f x)) hg hs hl fun p hp => ⟨p, items.map f, rfl, by rw [put_same, List.map_map]; rfl, ?_⟩
  rw [if_pos rfl, del_put hp]
  simpa [List.any_map, Function.comp_def] using hq
end DW
namespace DW
open PySem PySem.Spec PyProof.Rows L2
/-! ## 25. Data in short -/
def tI (ns : List Int) : D := .tup (ns.map .int)
theorem tI_inj {a b : List Int} (h : tI a = tI b) : a = b := (List.map_inj_right (fun x y z => D.int.inj z)).mp (D.tup.inj h)
theorem tI_eq {a b : List Int} : (tI a = tI b) ↔ a = b := ⟨tI_inj, fun h => by rw [h]⟩
theorem cl_tI (n : Nat) (ns : List Int) : D.cl (n + 1) (tI ns) = true := cl_ints n ns
theorem isTI_tI (ns : List Int) : isTI (tI ns) := ⟨ns, rfl⟩
theorem aEq_cl {x y : D} {S : Sto} {Q : DQ} (h1 : D.cl 60 x = true) (h2 : D.cl 60 y = true) (h : Q (.bl (decide (x = y))) S) : aEq x y S Q := ⟨eqOk_cl h1, eqOk_cl h2, by rw [eqD_cl h1 h2]; exact h⟩
theorem aNe_cl {x y : D} {S : Sto} {Q : DQ} (h1 : D.cl 60 x = true) (h2 : D.cl 60 y = true) (h : Q (.bl (!decide (x = y))) S) : aNe x y S Q := ⟨eqOk_cl h1, eqOk_cl h2, by rw [eqD_cl h1 h2]; exact h⟩
theorem aEq_int {i j : Int} {S : Sto} {Q : DQ} (h : Q (.bl (decide (i = j))) S) : aEq (.int i) (.int j) S Q := aEq_cl rfl rfl (by simpa using h)
theorem aNe_int {i j : Int} {S : Sto} {Q : DQ} (h : Q (.bl (!decide (i = j))) S) : aNe (.int i) (.int j) S Q := aNe_cl rfl rfl (by simpa using h)
theorem aNe_bl {i j : Bool} {S : Sto} {Q : DQ} (h : Q (.bl (i != j)) S) : aNe (.bl i) (.bl j) S Q := ⟨eqOk_bl, eqOk_bl, h⟩
theorem aEq_bl {i j : Bool} {S : Sto} {Q : DQ} (h : Q (.bl (i == j)) S) : aEq (.bl i) (.bl j) S Q := ⟨eqOk_bl, eqOk_bl, h⟩
theorem aNe_lst {p q : Addr} {xs ys : List D} {S : Sto} {Q : DQ} (e : S p = some (.lst xs)) (f : S q = some (.lst ys)) (h1 : D.cls 59 xs = true) (h2 : D.cls 59 ys = true) (h : Q (.bl (!decide (xs = ys))) S) : aNe (.ref p) (.ref q) S Q :=
  ⟨eqOk_lst e h1, eqOk_lst f h2, by rw [eqD_lst e f h1 h2]; exact h⟩
theorem aEq_lst {p q : Addr} {xs ys : List D} {S : Sto} {Q : DQ} (e : S p = some (.lst xs)) (f : S q = some (.lst ys)) (h1 : D.cls 59 xs = true) (h2 : D.cls 59 ys = true) (h : Q (.bl (decide (xs = ys))) S) : aEq (.ref p) (.ref q) S Q :=
  ⟨eqOk_lst e h1, eqOk_lst f h2, by rw [eqD_lst e f h1 h2]; exact h⟩
/-! cuts -/
theorem cut_nat (xs : List D) (a b : Nat) : cutD xs (some (a : Int)) (some (b : Int)) = (xs.drop a).take (b - a) := by
  unfold cutD
  rw [HT.sIx_nat, HT.sIx_nat]
  by_cases h : a ≤ xs.length
  · rw [Nat.min_eq_left h]
    by_cases h2 : b ≤ xs.length
    · rw [Nat.min_eq_left h2]
    · rw [Nat.min_eq_right (by omega), List.take_of_length_le (by simp), List.take_of_length_le (by simp; omega)]
  · rw [List.drop_eq_nil_of_le (by omega), List.drop_eq_nil_of_le (by omega), List.take_nil, List.take_nil]
theorem cut_to (xs : List D) (b : Nat) : cutD xs none (some (b : Int)) = xs.take b := by
  unfold cutD
  rw [HT.sIx_nat, HT.sIx_none, List.drop_zero, Nat.sub_zero]
  by_cases h2 : b ≤ xs.length
  · rw [Nat.min_eq_left h2]
  · rw [Nat.min_eq_right (by omega), List.take_length, List.take_of_length_le (by omega)]
theorem cut_from (xs : List D) (a : Nat) : cutD xs (some (a : Int)) none = xs.drop a := by
  unfold cutD
  rw [HT.sIx_nat, HT.sIx_none]
  by_cases h : a ≤ xs.length
  · rw [Nat.min_eq_left h, List.take_of_length_le (by simp)]
  · rw [List.drop_eq_nil_of_le (by omega), List.drop_eq_nil_of_le (by omega), List.take_nil]
theorem cut_but (xs : List D) : cutD xs none (some (-1)) = xs.dropLast := by
  unfold cutD
  rw [HT.sIx_none, List.drop_zero, Nat.sub_zero, List.dropLast_eq_take]
  congr 1
  have : HT.sIx xs.length xs.length (some (-1)) = (-1 + (xs.length : Int)).toNat := by
    simp [HT.sIx]
  rw [this]
  omega
theorem cut_sub (xs : List D) (lo hi : Option Int) : ∀ x ∈ cutD xs lo hi, x ∈ xs := fun x h => List.mem_of_mem_drop (List.mem_of_mem_take h)
theorem cut_len (xs : List D) (lo hi : Option Int) : (cutD xs lo hi).length ≤ xs.length := by
  unfold cutD
  simp only [List.length_take, List.length_drop]
  omega
/-- a cut of ints -/
theorem cut_ints (ns : List Int) (lo hi : Option Int) : ∃ ms : List Int, cutD (ns.map .int) lo hi = ms.map .int ∧ (∀ m ∈ ms, m ∈ ns) ∧ ms.length ≤ ns.length := by
  refine ⟨(ns.drop (HT.sIx ns.length 0 lo)).take (HT.sIx ns.length ns.length hi - HT.sIx ns.length 0 lo), ?_, fun m h => List.mem_of_mem_drop (List.mem_of_mem_take h), ?_⟩
  · unfold cutD
    simp [List.map_take, List.map_drop]
  · simp only [List.length_take, List.length_drop]
    omega
theorem at_nat {α : Type} (xs : List α) (k : Nat) : atI xs (k : Int) = xs[k]? := by
  unfold atI ixN
  rw [if_pos (by omega)]
  split
  · next h => simp
  · next h => rw [List.getElem?_eq_none (by omega)]; rfl
theorem at_last {α : Type} (xs : List α) (h : xs ≠ []) : atI xs (-1) = xs[xs.length - 1]? := by
  have : 0 < xs.length := List.length_pos_iff.mpr h
  unfold atI ixN
  rw [if_neg (by decide), if_pos (by omega)]
  simp only [Option.bind_some]
  congr 1
  omega
theorem at_zero {α : Type} (x : α) (xs : List α) : atI (x :: xs) 0 = some x := at_nat (x :: xs) 0
/-! the cup -/
def cupOk (a b : Int) : Prop := 0 ≤ a ∧ a.natAbs.log2 < 2000000 ∧ 0 ≤ b ∧ b < 2147483647
def cupAt (S : Sto) (c : Addr) : Prop := ∃ a b, S c = some (.lst [.int a, .int b]) ∧ cupOk a b
/-- the cup was drawn from; all else stands -/
def Drawn (c : Addr) (S S' : Sto) : Prop := cupAt S' c ∧ ∀ q o, q ≠ c → S q = some o → S' q = some o
theorem Drawn.refl {c : Addr} {S : Sto} (h : cupAt S c) : Drawn c S S := ⟨h, fun _ _ _ e => e⟩
theorem Drawn.trans {c : Addr} {S S1 S2 : Sto} (a : Drawn c S S1) (b : Drawn c S1 S2) : Drawn c S S2 := ⟨b.1, fun q o n e => b.2 q o n (a.2 q o n e)⟩
theorem Drawn.new {c p : Addr} {S S1 : Sto} {o : DO} (a : Drawn c S S1) (h : S1 p = none) : Drawn c S (put S1 p o) := by
  obtain ⟨⟨x, y, e, k⟩, b⟩ := a
  have n : c ≠ p := by rintro rfl; rw [h] at e; cases e
  refine ⟨⟨x, y, by rw [put_ne n]; exact e, k⟩, fun q u nq e => ?_⟩
  have := b q u nq e
  rw [put_ne (by rintro rfl; rw [h] at this; cases this)]
  exact this
/-- what was laid behind the start may be changed -/
theorem Drawn.set {c p : Addr} {S S1 : Sto} {o : DO} (a : Drawn c S S1) (h : S p = none) (n : p ≠ c) : Drawn c S (put S1 p o) := by
  obtain ⟨⟨x, y, e, k⟩, b⟩ := a
  refine ⟨⟨x, y, by rw [put_ne n.symm]; exact e, k⟩, fun q u nq e => ?_⟩
  rw [put_ne (by rintro rfl; rw [h] at e; cases e)]
  exact b q u nq e
theorem Drawn.sub {c : Addr} {S S1 S2 : Sto} (a : Drawn c S S1) (u : Sub S1 S2) : Drawn c S S2 := by
  obtain ⟨⟨x, y, e, k⟩, b⟩ := a
  exact ⟨⟨x, y, u _ _ e, k⟩, fun q o n e => u _ _ (b q o n e)⟩
theorem Drawn.cup {c : Addr} {S S1 : Sto} (a : Drawn c S S1) : cupAt S1 c := a.1
theorem Drawn.free {c p : Addr} {S S1 : Sto} (a : Drawn c S S1) (h : S1 p = none) : S p = none ∧ p ≠ c := by
  obtain ⟨⟨x, y, e, k⟩, b⟩ := a
  have n : p ≠ c := by rintro rfl; rw [h] at e; cases e
  refine ⟨?_, n⟩
  cases q : S p with
  | none => rfl
  | some o => rw [b p o n q] at h; cases h
end DW
namespace DW
open PySem PySem.Spec PyProof.Rows L2
/-! ## 26. More of comprehensions -/
/-- behind a source that is already walked -/
theorem lcP_in {T : Tg} {tt : DT} {te : DE} {vs : List Nat} {ρ : REnv} {S1 : Sto} {Q : DQ} {items : List D} {guard : Sto → Prop} {α : Type} (xs : List α) (g : α → D) (kp : α → Bool) (f : α → D) (hi : items = xs.map g)
    (hg : ∀ S2, Sub S1 S2 → guard S2) (hs : ∀ x ∈ xs, ∀ S2, Sub S1 S2 → ∃ ρ2, T.d (g x) (wipeD ρ vs) = some ρ2 ∧ tt ρ2 S2 fun b S3 => Sub S2 S3 ∧ b = kp x ∧ (b = true → te ρ2 S3 fun y S4 => Sub S2 S4 ∧ y = f x))
    (hl : xs.length ≤ sizeLine) (hq : ∀ p, S1 p = none → Q (.ref p) (put S1 p (.lst ((xs.filter kp).map f)))) : ∃ (α : Type) (xs : List α) (g : α → D) (kp : α → Bool) (f : α → D), items = xs.map g ∧ (∀ S2, Sub S1 S2 → guard S2) ∧
  (∀ x ∈ xs, ∀ S2, Sub S1 S2 → ∃ ρ2, T.d (g x) (wipeD ρ vs) = some ρ2 ∧ tt ρ2 S2 fun b S3 => Sub S2 S3 ∧ b = kp x ∧ (b = true → te ρ2 S3 fun y S4 => Sub S2 S4 ∧ y = f x)) ∧
  xs.length ≤ sizeLine ∧ ∀ p, S1 p = none → Q (.ref p) (put S1 p (.lst ((xs.filter kp).map f))) := ⟨α, xs, g, kp, f, hi, hg, hs, hl, hq⟩
theorem filter_yes {α : Type} (xs : List α) : xs.filter (fun _ => true) = xs := List.filter_eq_self.mpr fun _ _ => rfl
/-- a list handed to min, once -/
theorem min_at {wi : DI} {i : Nat} {te : DE} {vs : List Nat} {ρ : REnv} {S : Sto} {Q : DQ} {items : List D} {guard : Sto → Prop} {S1 : Sto} (h : ∀ R : List D → (Sto → Prop) → Sto → Prop, R items guard S1 → wi ρ S R) {α : Type} (xs : List α) (g : α → D) (f : α → Int) (hi : items = xs.map g)
    (hg : ∀ S2, Sub S1 S2 → guard S2) (hs : ∀ x ∈ xs, ∀ S2, Sub S1 S2 → te ((wipeD ρ vs).set i (some (g x))) S2 fun y S4 => Sub S2 S4 ∧ y = .int (f x))
    (hl : xs.length ≤ sizeLine) (ne : xs ≠ []) (hq : Q (.int (minI (xs.map f))) S1) : dLcP wi (.nm i) dYes te vs ρ S (fun x S1 => aMin true [x] S1 Q) := by
  refine lcP_at h xs g (fun _ => true) (fun x => .int (f x)) hi hg (fun x hx S2 u => ⟨_, rfl, Sub.refl, rfl, fun _ => hs x hx S2 u⟩) hl fun p hp => .inl ⟨p, xs.map f, rfl, ?_, by simpa using ne, ?_⟩
  · rw [put_same, filter_yes, List.map_map]
    rfl
  · rw [if_pos rfl, del_put hp]
    exact hq
theorem minI_mem : ∀ (ns : List Int), ns ≠ [] → minI ns ∈ ns := by
  have go : ∀ (xs : List Int) (a : Int), xs.foldl min a ∈ a :: xs := by
    intro xs
    induction xs with
    | nil => intro a; simp
    | cons x xs ih =>
      intro a
      rw [List.foldl_cons]
      rcases List.mem_cons.mp (ih (min a x)) with h | h
      · rw [h]
        by_cases c : a ≤ x
        · rw [Int.min_eq_left c]; simp
        · rw [Int.min_eq_right (by omega)]; simp
      · exact List.mem_cons_of_mem _ (List.mem_cons_of_mem _ h)
  intro ns h
  cases ns with
  | nil => exact absurd rfl h
  | cons x xs => exact go xs x
theorem minI_le : ∀ (ns : List Int), ∀ n ∈ ns, minI ns ≤ n := by
  have go : ∀ (xs : List Int) (a : Int), xs.foldl min a ≤ a ∧ ∀ n ∈ xs, xs.foldl min a ≤ n := by
    intro xs
    induction xs with
    | nil => intro a; exact ⟨Int.le_refl _, fun _ h => by cases h⟩
    | cons x xs ih =>
      intro a
      rw [List.foldl_cons]
      obtain ⟨h1, h2⟩ := ih (min a x)
      refine ⟨by omega, fun n hn => ?_⟩
      rcases List.mem_cons.mp hn with rfl | hn
      · omega
      · exact h2 n hn
  intro ns n hn
  cases ns with
  | nil => cases hn
  | cons x xs =>
    rcases List.mem_cons.mp hn with rfl | hn
    · exact (go xs n).1
    · exact (go xs x).2 n hn
theorem intsFrom_at {lo c : Int} {n i : Nat} (h : i < n) : (intsFrom lo c n)[i]? = some (.int (lo + (i : Nat) * c)) := by
  unfold intsFrom
  rw [List.getElem?_map, List.getElem?_range h]
  rfl
theorem intsFrom_len {lo c : Int} {n : Nat} : (intsFrom lo c n).length = n := by simp [intsFrom]
theorem intsFrom_some {lo c : Int} {n i : Nat} {d : D} (e : (intsFrom lo c n)[i]? = some d) : i < n ∧ d = .int (lo + (i : Nat) * c) := by
  have := (List.getElem?_eq_some_iff.mp e).1
  rw [intsFrom_len] at this
  rw [intsFrom_at this] at e
  exact ⟨this, (Option.some.inj e).symm⟩
theorem intsFrom_map {lo c : Int} {n : Nat} : intsFrom lo c n = (List.range n).map fun i => D.int (lo + (i : Nat) * c) := rfl
@[simp] theorem rs_nil : RSub [] [] = True := eq_true RSub.nil
@[simp] theorem rs_none {x : Option D} {r0 r : REnv} : RSub (none :: r0) (x :: r) = RSub r0 r := propext ⟨fun h => ⟨by simpa using h.1, fun i d e => by simpa using h.2 (i + 1) d (by simpa using e)⟩, RSub.drop⟩
@[simp] theorem rs_some {d : D} {x : Option D} {r0 r : REnv} : RSub (some d :: r0) (x :: r) = (x = some d ∧ RSub r0 r) := propext ⟨fun h => ⟨by simpa using h.2 0 d (by simp), by simpa using h.1, fun i e z => by simpa using h.2 (i + 1) e (by simpa using z)⟩, fun ⟨h1, h2⟩ => by
  subst h1
  exact RSub.cons h2⟩
@[simp] theorem sub_refl {S : Sto} : Sub S S = True := eq_true Sub.refl
theorem ix_tup {xs : List D} {i : Int} {d : D} {S : Sto} {Q : DQ} (e : atI xs i = some d) (h : Q d S) : aIx (.tup xs) (.int i) S Q := ⟨d, e, h⟩
theorem ix_lst {p : Addr} {xs : List D} {i : Int} {d : D} {S : Sto} {Q : DQ} (f : S p = some (.lst xs)) (e : atI xs i = some d) (h : Q d S) : aIx (.ref p) (.int i) S Q := .inl ⟨xs, i, d, .inl f, rfl, e, h⟩
theorem ix_dic {p : Addr} {kvs : List (D × D)} {k d : D} {S : Sto} {Q : DQ} (f : S p = some (.dic kvs)) (ok : keyOk kvs k) (e : lookD kvs k = some d) (h : Q d S) : aIx (.ref p) k S Q := .inr ⟨kvs, d, f, ok, e, h⟩
theorem app_lst {p : Addr} {xs : List D} {y : D} {S : Sto} {Q : DQ} (f : S p = some (.lst xs)) (l : xs.length < sizeLine) (h : Q .non (put S p (.lst (xs ++ [y])))) : aAppend (.ref p) [y] S Q := ⟨p, xs, y, rfl, rfl, f, l, h⟩
theorem ty_lst {p : Addr} {xs : List D} {S : Sto} (f : S p = some (.lst xs)) : tyD S (.ref p) = some "list" := by simp [tyD, f]
theorem ty_dic {p : Addr} {xs : List (D × D)} {S : Sto} (f : S p = some (.dic xs)) : tyD S (.ref p) = some "dict" := by simp [tyD, f]
theorem any_gen {wi : DI} {T : Tg} {te : DE} {vs : List Nat} {ρ : REnv} {S : Sto} {Q : DQ} {items : List D} {guard : Sto → Prop} {S1 : Sto} (h : ∀ R : List D → (Sto → Prop) → Sto → Prop, R items guard S1 → wi ρ S R) {α : Type} (xs : List α) (g : α → D) (f : α → Bool) (hi : items = xs.map g)
    (hg : ∀ S2, Sub S1 S2 → guard S2) (hs : ∀ x ∈ xs, ∀ S2, Sub S1 S2 → ∃ ρ2, T.d (g x) (wipeD ρ vs) = some ρ2 ∧ te ρ2 S2 fun y S4 => Sub S2 S4 ∧ y = .bl (f x))
    (hl : xs.length ≤ sizeLine) (hq : Q (.bl (xs.any f)) S1) : dLcP wi T dYes te vs ρ S (fun x S1 => aAny true [x] S1 Q) := by
  refine lcP_at h xs g (fun _ => true) (fun x => .bl (f x)) hi hg (fun x hx S2 u => ?_) hl fun p hp => ⟨p, xs.map f, rfl, ?_, ?_⟩
  · obtain ⟨ρ2, e, q⟩ := hs x hx S2 u
    exact ⟨ρ2, e, Sub.refl, rfl, fun _ => q⟩
  · rw [put_same, filter_yes, List.map_map]
    rfl
  · rw [if_pos rfl, del_put hp]
    simpa [List.any_map, Function.comp_def] using hq
end DW
namespace DW
open PySem PySem.Spec PyProof.Rows L2
/-! ## 27. The cup of a law -/
/-- the readings of the laws' own defs; their numbers differ from law to law -/
def r_cup (q m a M b : Int) : DS := (dSeqS (dAsg (dCall aAbs (dCons (dOp aIx (dOp aAdd (dCall aList (dCons (dVar 0) dNil)) (dLst (dCons (dC (.int 0)) dNil))) (dC (.int 0))) dNil)) (.nm 1))
    (dRet (dLst (dCons (dIf (dB (dOp (aCmp fGe) (dVar 1) (dOp aPow (dC (.int 10)) (dC (.int 18))))) (dOp aFdiv (dVar 1) (dC (.int q))) (dC (.int 0))) (dCons (dOp aAdd (dOp aMod (dCall aInt (dCons (dOp aAdd (dOp aMul2 (dVar 1) (dC (.int m))) (dC (.int a))) dNil)) (dC (.int M))) (dC (.int b))) dNil)))))
def r_roll (m a M d M2 q : Int) : DS := (dSeqS (dIfS (dB (dOp (aCmp fGt) (dOp aIx (dVar 0) (dC (.int 0))) (dC (.int 0)))) (dSeqS (dAsg (dOp aMod (dCall aInt (dCons (dOp aIx (dVar 0) (dC (.int 0))) dNil)) (dVar 1)) (.nm 2))
    (dSeqS (dPut (dVar 0) (dC (.int 0)) (dOp aFdiv (dOp aIx (dVar 0) (dC (.int 0))) (dVar 1)))
    (dRet (dVar 2)))) dNext)
    (dSeqS (dPut (dVar 0) (dC (.int 1)) (dOp aMod (dCall aInt (dCons (dOp aAdd (dOp aMul2 (dOp aIx (dVar 0) (dC (.int 1))) (dC (.int m))) (dC (.int a))) dNil)) (dC (.int M))))
    (dSeqS (dAsg (dOp aMod (dCall aInt (dCons (dOp aMul2 (dOp aIx (dVar 0) (dC (.int 1))) (dOp aAdd (dOp aIx (dVar 0) (dC (.int 1))) (dC (.int d)))) dNil)) (dC (.int M2))) (.nm 3))
    (dRet (dOp aMod (dCall aInt (dCons (dOp aFdiv (dVar 3) (dC (.int q))) dNil)) (dVar 1))))))
def r_some (sp_roll : DC) : DS := (dRet (dOp aIx (dVar 1) (dCall sp_roll (dCons (dVar 0) (dCons (dCall aLen (dCons (dVar 1) dNil)) dNil)))))
def sp_cup : DC := fun ds S Q => ∃ (a : Addr) (ns : List Int), ds = [.ref a] ∧ S a = some (.rls (ns.map .int)) ∧ ns.length ≤ 1000 ∧ (∀ n ∈ ns, n.natAbs.log2 < 1999999) ∧ ∀ c S', S c = none → Sub S S' → cupAt S' c → Q (.ref c) S'
def sp_roll : DC := fun ds S Q => ∃ c m, ds = [.ref c, .int m] ∧ cupAt S c ∧ 0 < m ∧ m < 2 ^ 62 ∧ ∀ r S', 0 ≤ r → r < m → Drawn c S S' → Q (.int r) S'
/-- a list that stands, or a tuple -/
def seqAt (S : Sto) (d : D) (xs : List D) : Prop := d = .tup xs ∨ ∃ p, d = .ref p ∧ S p = some (.lst xs)
def sp_some : DC := fun ds S Q => ∃ c d xs, ds = [.ref c, d] ∧ cupAt S c ∧ seqAt S d xs ∧ (∀ p, d = .ref p → p ≠ c) ∧ xs ≠ [] ∧ xs.length < 1000000 ∧ ∀ x ∈ xs, ∀ S', Drawn c S S' → Q x S'
theorem set_lst {p : Addr} {xs : List D} {i : Int} {j : Nat} {v : D} {S : Sto} {Q : Sto → Prop} (f : S p = some (.lst xs)) (e : ixN xs.length i = some j) (h : Q (put S p (.lst (xs.set j v)))) : aSet (.ref p) (.int i) v S Q := .inl ⟨xs, i, j, f, rfl, e, h⟩
theorem set_dic {p : Addr} {kvs : List (D × D)} {k v : D} {S : Sto} {Q : Sto → Prop} (f : S p = some (.dic kvs)) (ok : keyOk kvs k) (l : kvs.length < sizeLine) (h : Q (put S p (.dic (putD kvs k v)))) : aSet (.ref p) k v S Q := .inr ⟨kvs, f, ok, l, h⟩
theorem cupOk_fst {S : Sto} {c : Addr} (h : cupAt S c) : ∃ a b, S c = some (.lst [.int a, .int b]) ∧ cupOk a b := h
theorem log2_mono {a b : Nat} (h : a ≤ b) : a.log2 ≤ b.log2 := by
  by_cases ha : a = 0
  · subst ha; simp
  · have hb : b ≠ 0 := by omega
    exact (Nat.le_log2 hb).mpr (Nat.le_trans (Nat.log2_self_le ha) h)
theorem log2_div {a m : Int} (ha : 0 ≤ a) (hm : 0 < m) : (a / m).natAbs.log2 ≤ a.natAbs.log2 := by
  refine log2_mono ?_
  have h1 : a / m ≤ a := Int.ediv_le_self _ ha
  have h2 : 0 ≤ a / m := Int.ediv_nonneg ha (by omega)
  omega
theorem Drawn.cupset {c : Addr} {S : Sto} {a b : Int} (h : cupOk a b) : Drawn c S (put S c (.lst [.int a, .int b])) := ⟨⟨a, b, put_same, h⟩, fun q o n e => by rw [put_ne n]; exact e⟩
theorem p_cup {q m a M b : Int} (hq : 0 < q ∧ q < 1000) (hm : 0 < m ∧ m < 100000) (hM : 0 < M) (hb : 0 ≤ b) (hb2 : M + b < 2147483647) : ∀ ds S Q, sp_cup ds S Q → r_cup q m a M b (endsD Q) (startD 2 ds) S := by
  rintro ds S Q ⟨sa, ns, rfl, hs, hl, hbits, h⟩
  have big : 1000000 ≤ sizeLine := by rw [sizeLine_eq]; decide
  simp [r_cup, startD]
  refine .inr (.inl ⟨sa, _, rfl, .inr hs, fun p1 h1 => ⟨by omega, fun p2 h2 => ?_⟩⟩)
  have n12 : p1 ≠ p2 := by rintro rfl; rw [put_same] at h2; cases h2
  refine ⟨_, _, by rw [put_ne n12, put_same], put_same, by simp; omega, fun p3 h3 => ?_⟩
  obtain ⟨n, hn, hbit⟩ : ∃ n : Int, atI (ns.map D.int ++ [.int 0]) 0 = some (.int n) ∧ n.natAbs.log2 < 1999999 := by
    cases ns with
    | nil => exact ⟨0, rfl, by decide⟩
    | cons n ns => exact ⟨n, at_zero _ _, hbits n List.mem_cons_self⟩
  refine ix_lst put_same hn ⟨n, rfl, ?_⟩
  generalize hc : (n.natAbs : Int) = cell
  have c0 : 0 ≤ cell := by omega
  have cb : cell.natAbs.log2 < 1999999 := by rw [← hc]; simpa using hbit
  have mul : aMul2 (.int cell) (.int m) = fun S Q => mulOk cell m ∧ Q (.int (cell * m)) S := rfl
  have mok : mulOk cell m := .inr (.inl ⟨by omega, by omega⟩)
  have fin : ∀ x, cupOk x ((cell * m + a) % M + b) → ∀ c S', put (put (put S p1 (.lst (ns.map D.int))) p2 (.lst [.int 0])) p3 (.lst (ns.map D.int ++ [.int 0])) c = none → S' = put (put (put (put S p1 (.lst (ns.map D.int))) p2 (.lst [.int 0])) p3 (.lst (ns.map D.int ++ [.int 0]))) c (.lst [.int x, .int ((cell * m + a) % M + b)]) → ∃ S0, Sub S0 S' ∧ Q (.ref c) S0 := by
    rintro x ok c S' hcn rfl
    have s3 := (Sub.new h1 (o := .lst (ns.map D.int))).trans ((Sub.new h2 (o := .lst [.int 0])).trans (Sub.new h3 (o := .lst (ns.map D.int ++ [.int 0]))))
    exact rtS (h c _ (s3.free hcn) (s3.trans (Sub.new hcn)) ⟨x, _, put_same, ok⟩)
  have bnd : 0 ≤ (cell * m + a) % M + b ∧ (cell * m + a) % M + b < 2147483647 := by
    have := Int.emod_nonneg (cell * m + a) (show M ≠ 0 by omega)
    have := Int.emod_lt_of_pos (cell * m + a) hM
    omega
  simp [aCmp, fGe, aPow, aFdiv, aInt, aAdd, aMod, mul, mok, hM, hq.1]
  have q64 : q < 18446744073709551616 := by omega
  by_cases c : (1000000000000000000 : Int) ≤ cell
  · refine .inr ⟨c, q64, by omega, fun c hc' => fin _ ⟨Int.ediv_nonneg c0 (by omega), ?_, bnd⟩ c _ hc' rfl⟩
    have := log2_div c0 hq.1
    omega
  · refine .inl ⟨by omega, by omega, fun c hc' => fin 0 ⟨by decide, by decide, bnd⟩ c _ hc' rfl⟩
theorem p_roll {m a M d M2 q : Int} (hm : 0 < m ∧ m < 100000) (hM : 0 < M ∧ M < 2147483647) (hd : 0 ≤ d ∧ d < 100000) (hM2 : 0 < M2) (hq : 0 < q ∧ q < 1000) : ∀ ds S Q, sp_roll ds S Q → r_roll m a M d M2 q (endsD Q) (startD 4 ds) S := by
  rintro ds S Q ⟨c, k, rfl, ⟨x, y, e, ok⟩, hk, hk2, h⟩
  simp [r_roll, startD]
  refine ix_lst e (at_zero _ _) ?_
  simp only [aCmp, fGt]
  by_cases cx : 0 < x
  · refine .inr ⟨by simp [cx], ix_lst e (at_zero _ _) ?_⟩
    simp [aInt, aMod, hk]
    refine ix_lst e (at_zero _ _) ?_
    simp only [aFdiv]
    refine ⟨⟨hk, by omega⟩, set_lst e (j := 0) rfl ?_⟩
    simp
    refine rtS (h _ _ (Int.emod_nonneg _ (by omega)) (Int.emod_lt_of_pos _ hk) ?_)
    refine Drawn.cupset ⟨Int.ediv_nonneg ok.1 (by omega), ?_, ok.2.2⟩
    have := log2_div ok.1 hk
    have := ok.2.1
    omega
  · refine .inl ⟨by simp [cx], ix_lst e (at_nat _ 1) ?_⟩
    have mul : aMul2 (.int y) (.int m) = fun S Q => mulOk y m ∧ Q (.int (y * m)) S := rfl
    have mok : mulOk y m := .inr (.inl ⟨by omega, by omega⟩)
    simp [mul, mok, aAdd, aInt, aMod, hM.1]
    have b1 := Int.emod_nonneg (y * m + a) (show M ≠ 0 by omega)
    have b2 := Int.emod_lt_of_pos (y * m + a) hM.1
    generalize (y * m + a) % M = z at *
    have mul2 : aMul2 (.int z) (.int (z + d)) = fun S Q => mulOk z (z + d) ∧ Q (.int (z * (z + d))) S := rfl
    have mok2 : mulOk z (z + d) := .inl ⟨by omega, by omega⟩
    refine set_lst e (j := 1) rfl ?_
    simp
    refine ix_lst put_same (at_nat _ 1) (ix_lst put_same (at_nat _ 1) ?_)
    simp only [aAdd]
    refine ⟨mok2, ?_⟩
    simp [aInt, aMod, hM2, aFdiv, hq.1, hk]
    refine ⟨by omega, rtS (h _ _ (Int.emod_nonneg _ (by omega)) (Int.emod_lt_of_pos _ hk) ?_)⟩
    exact Drawn.cupset ⟨ok.1, ok.2.1, b1, by omega⟩
theorem p_some : ∀ ds S Q, sp_some ds S Q → r_some sp_roll (endsD Q) (startD 2 ds) S := by
  rintro ds S Q ⟨c, d, xs, rfl, cup, sq, nc, ne, hl, h⟩
  have lp := List.length_pos_iff.mpr ne
  have ix : ∀ (r : Int) S', 0 ≤ r → r < xs.length → Drawn c S S' → aIx d (.int r) S' fun x S1 => ∃ S0, Sub S0 S1 ∧ Q x S0 := by
    intro r S' h0 h1 D
    obtain ⟨k, rfl⟩ : ∃ k : Nat, r = k := ⟨r.toNat, by omega⟩
    have hk : k < xs.length := by omega
    have e : atI xs ((k : Nat) : Int) = some xs[k] := by rw [at_nat, List.getElem?_eq_getElem hk]
    rcases sq with rfl | ⟨p, rfl, hp⟩
    · exact ix_tup e (rtS (h _ (List.getElem_mem hk) S' D))
    · exact ix_lst (D.2 p _ (nc p rfl) hp) e (rtS (h _ (List.getElem_mem hk) S' D))
  simp [r_some, startD]
  have len : ∀ (R : DQ), R (.int xs.length) S → aLen [d] S R := by
    intro R r
    rcases sq with rfl | ⟨p, rfl, hp⟩
    · exact r
    · simpa [aLen, hp] using r
  exact len _ ⟨c, _, rfl, cup, by omega, by omega, fun r S' h0 h1 D => ix r S' h0 h1 D⟩
end DW
namespace DW
open PySem PySem.Spec PyProof.Rows L2
/-! ## 28. _law_same(d, d) -/
def r_same (tstr : DE) (sp__law_same : DC) : DS := (dSeqS (dIfS (dB (dCall aIsI (dCons (dVar 1) (dCons (dC (.ty "tuple")) dNil)))) (dSeqS (dIfS (dOr (dNot (dB (dCall aIsI (dCons (dVar 0) (dCons (dC (.ty "tuple")) dNil))))) (dB (dOp aNe (dCall aLen (dCons (dVar 0) dNil)) (dCall aLen (dCons (dVar 1) dNil))))) (dRet (dC (.bl false))) dNext)
    (dRet (dCall (aAll true) (dCons (dLcP (dRng1 (dCons (dCall aLen (dCons (dVar 1) dNil)) dNil)) (.nm 2) dYes (dCall sp__law_same (dCons (dOp aIx (dVar 0) (dVar 2)) (dCons (dOp aIx (dVar 1) (dVar 2)) dNil))) [2]) dNil)))) dNext)
    (dSeqS (dIfS (dB (dOp aIsN (dVar 1) (dC .non))) (dRet (dOp aIsN (dVar 0) (dC .non))) dNext)
    (dSeqS (dIfS (dB (dCall aIsI (dCons (dVar 1) (dCons (dC (.ty "bool")) dNil)))) (dRet (dIf (dB (dVar 1)) (dOp aIsB (dVar 0) (dC (.bl true))) (dOp aIsB (dVar 0) (dC (.bl false))))) dNext)
    (dSeqS (dIfS (dB (dCall aIsI (dCons (dVar 1) (dCons (dC (.ty "int")) dNil)))) (dRet (dAndV (dCall aIsI (dCons (dVar 0) (dCons (dC (.ty "int")) dNil))) (dAndV (dNotV (dCall aIsI (dCons (dVar 0) (dCons (dC (.ty "bool")) dNil)))) (dOp aEq (dCall aInt (dCons (dVar 0) dNil)) (dVar 1))))) dNext)
    (dRet (dAndV (dCall aIsI (dCons (dVar 0) (dCons (dC (.ty "str")) dNil))) (dOp aEq tstr (dVar 1))))))))
def D.pl : Nat → D → Prop
  | _, .non => True
  | _, .bl _ => True
  | _, .int _ => True
  | n + 1, .tup xs => xs.length ≤ 1000000 ∧ ∀ x ∈ xs, D.pl n x
  | _, _ => False
def sp_same (n : Nat) : DC := fun ds S Q => ∃ d, ds = [d, d] ∧ D.pl n d ∧ Q (.bl true) S
theorem p_same {tstr : DE} {n : Nat} {spc : DC} (hc : ∀ m ds S Q, n = m + 1 → sp_same m ds S Q → spc ds S Q) : ∀ ds S Q, sp_same n ds S Q → r_same tstr spc (endsD Q) (startD 3 ds) S := by
  rintro ds S Q ⟨d, rfl, hp, h⟩
  have big : 1000000 ≤ sizeLine := by rw [sizeLine_eq]; decide
  cases d with
  | tup xs =>
    cases n with
    | zero => exact hp.elim
    | succ m =>
      obtain ⟨hl, hx⟩ := hp
      simp [r_same, startD, aIsI, tyD, isIt, aLen]
      refine aNe_int ?_
      simp
      refine all_at (items := intsFrom 0 1 xs.length) (guard := fun _ => True) (S1 := S) (fun R r => ⟨_, rfl, (xs.length : Int), by simp, by omega, by omega, by simpa using r⟩) (fun _ => true) (fun _ _ => trivial) (fun x hxs S2 u => ?_) (by rw [intsFrom_len]; omega) (by rw [List.all_eq_true.mpr (fun _ _ => rfl)]; exact rtS h)
      rw [intsFrom_map] at hxs
      obtain ⟨i, hi, rfl⟩ := List.mem_map.mp hxs
      have hi' : i < xs.length := List.mem_range.mp hi
      have e : atI xs (0 + ((i : Nat) : Int) * 1) = some xs[i] := by
        have : (0 + ((i : Nat) : Int) * 1) = i := by omega
        rw [this, at_nat, List.getElem?_eq_getElem hi']
      simp only [wipeD, u_call, u_cons, u_op, u_nil, u_var]
      refine ⟨_, rfl, _, rfl, ix_tup e ⟨_, rfl, _, rfl, ix_tup e ?_⟩⟩
      exact hc m _ _ _ rfl ⟨_, rfl, hx _ (List.getElem_mem hi'), Sub.refl, rfl⟩
  | non =>
    simp [r_same, startD, aIsI, tyD, isIt, aIsN]
    exact rtS h
  | bl b =>
    cases b <;> simp [r_same, startD, aIsI, tyD, isIt, aIsN, aIsB] <;> exact rtS h
  | int i =>
    simp [r_same, startD, aIsI, tyD, isIt, aIsN, aInt]
    exact aEq_int (by simpa using rtS h)
  | str _ => cases n <;> exact hp.elim
  | ref _ => cases n <;> exact hp.elim
  | ty _ => cases n <;> exact hp.elim
theorem d_none {P : Program} {w : World} {K : PySem.W.Frag} {mg : Str → Option Value} {base : Heap} {k : Nat} {x : Str} {st : Stmt} {ps : List Str} (D : Def K mg x st ps) : Here P w K mg base k x ps fun _ _ _ => False := by
  obtain ⟨f, fd, F, hm, b⟩ := D
  have ⟨oc, od, kV, doc, pm, an, cdv, ct, osl, e, lk, _⟩ := F.ex
  exact ⟨f, fd, ⟨fun vs H Q E ⟨_, _, _, _, _, z, _⟩ => z.elim, fun A outer s H args us vs Q E _ _ _ _ ⟨_, _, _, _, _, z, _⟩ => z.elim⟩, hm, F.kp, b, oc, od, osl, lk⟩
end DW
namespace DW
open PySem PySem.Spec PyProof.Rows L2
/-! ## 29. Comprehensions that draw -/
theorem Drawn.del {c p : Addr} {S S1 : Sto} (a : Drawn c S S1) (h : S p = none) (n : p ≠ c) : Drawn c S (DW.del S1 p) := by
  obtain ⟨⟨x, y, e, k⟩, b⟩ := a
  refine ⟨⟨x, y, by unfold DW.del; rw [if_neg n.symm]; exact e, k⟩, fun q u nq e => ?_⟩
  unfold DW.del
  rw [if_neg (by rintro rfl; rw [h] at e; cases e)]
  exact b q u nq e
/-- what is asked behind the walked thing -/
def lcB (T : Tg) (tt : DT) (te : DE) (vs : List Nat) (ρ : REnv) (items : List D) (guard : Sto → Prop) (S1 : Sto) (Q : DQ) : Prop := ∀ p, S1 p = none → ∃ P : Nat → List D → Sto → Prop, P 0 [] (put S1 p (.lst [])) ∧
  (∀ i d acc S2, items[i]? = some d → P i acc S2 → guard S2 ∧ ∃ ρ2, T.d d (wipeD ρ vs) = some ρ2 ∧ tt ρ2 S2 fun b S3 => if b = true then te ρ2 S3 fun y S4 => S4 p = some (.lst acc) ∧ acc.length < sizeLine ∧ ∃ S5, Sub S5 (put S4 p (.lst (acc ++ [y]))) ∧ P (i + 1) (acc ++ [y]) S5
    else ∃ S5, Sub S5 S3 ∧ P (i + 1) acc S5) ∧ ∀ acc S2, P items.length acc S2 → guard S2 ∧ Q (.ref p) S2
def lcPB (T : Tg) (tt : DT) (te : DE) (vs : List Nat) (ρ : REnv) (items : List D) (guard : Sto → Prop) (S1 : Sto) (Q : DQ) : Prop := ∃ (α : Type) (xs : List α) (g : α → D) (kp : α → Bool) (f : α → D), items = xs.map g ∧ (∀ S2, Sub S1 S2 → guard S2) ∧
  (∀ x ∈ xs, ∀ S2, Sub S1 S2 → ∃ ρ2, T.d (g x) (wipeD ρ vs) = some ρ2 ∧ tt ρ2 S2 fun b S3 => Sub S2 S3 ∧ b = kp x ∧ (b = true → te ρ2 S3 fun y S4 => Sub S2 S4 ∧ y = f x)) ∧
  xs.length ≤ sizeLine ∧ ∀ p, S1 p = none → Q (.ref p) (put S1 p (.lst ((xs.filter kp).map f)))
def forB (T : Tg) (tb : DS) (E : DEnds) (ρ : REnv) (items : List D) (guard : Sto → Prop) (S1 : Sto) : Prop := ∃ P : Nat → REnv → Sto → Prop, P 0 ρ S1 ∧
  (∀ i d ρ1 S2, items[i]? = some d → P i ρ1 S2 → guard S2 ∧ ∃ ρ2, T.d d ρ1 = some ρ2 ∧
    tb { E with nx := fun ρ' S' => ∃ ρ0 S0, RSub ρ0 ρ' ∧ Sub S0 S' ∧ P (i + 1) ρ0 S0, ct := fun ρ' S' => ∃ ρ0 S0, RSub ρ0 ρ' ∧ Sub S0 S' ∧ P (i + 1) ρ0 S0, bk := E.nx } ρ2 S2) ∧
  ∀ ρ1 S2, P items.length ρ1 S2 → guard S2 ∧ E.nx ρ1 S2
section
variable {wi : DI} {T : Tg} {tt : DT} {te : DE} {vs : List Nat} {ρ : REnv} {S S1 : Sto} {Q : DQ} {E : DEnds} {tb : DS} {t : DA} {R : List D → (Sto → Prop) → Sto → Prop}
theorem e_lc : dLc wi T tt te vs ρ S Q = wi ρ S fun items guard S1 => lcB T tt te vs ρ items guard S1 Q := rfl
theorem e_lcP : dLcP wi T tt te vs ρ S Q = wi ρ S fun items guard S1 => lcPB T tt te vs ρ items guard S1 Q := rfl
theorem e_for : dFor wi T tb E ρ S = wi ρ S fun items guard S1 => forB T tb E ρ items guard S1 := rfl
theorem e_rng1 : dRng1 t ρ S R = t ρ S fun xs S1 => ∃ j : Int, xs = [.int j] ∧ -(2 ^ 62) ≤ j ∧ j < 2 ^ 62 ∧ R (intsFrom 0 1 j.toNat) (fun _ => True) S1 := rfl
theorem e_rng2 : dRng2 t ρ S R = t ρ S fun xs S1 => ∃ i j : Int, xs = [.int i, .int j] ∧ (-(2 ^ 62) ≤ i ∧ i < 2 ^ 62 ∧ -(2 ^ 62) ≤ j ∧ j < 2 ^ 62) ∧ R (intsFrom i 1 (j - i).toNat) (fun _ => True) S1 := rfl
/-- a walked value -/
def seqR (R : List D → (Sto → Prop) → Sto → Prop) (d : D) (S1 : Sto) : Prop := match d with
  | .tup xs => R xs (fun _ => True) S1
  | .ref p => ∃ xs, (S1 p = some (.lst xs) ∨ S1 p = some (.rls xs)) ∧ R xs (fun S => S p = some (.lst xs) ∨ S p = some (.rls xs)) S1
  | _ => False
theorem e_seq : dSeq te ρ S R = te ρ S (seqR R) := by
  unfold dSeq seqR
  rfl
theorem seqR_tup {xs : List D} : seqR R (.tup xs) S = R xs (fun _ => True) S := rfl
theorem seqR_lst {p : Addr} {xs : List D} (e : S p = some (.lst xs)) (h : R xs (fun S => S p = some (.lst xs) ∨ S p = some (.rls xs)) S) : seqR R (.ref p) S := ⟨xs, .inl e, h⟩
theorem lcP_b {items : List D} {guard : Sto → Prop} {α : Type} (xs : List α) (g : α → D) (kp : α → Bool) (f : α → D) (hi : items = xs.map g) (hg : ∀ S2, Sub S1 S2 → guard S2)
    (hs : ∀ x ∈ xs, ∀ S2, Sub S1 S2 → ∃ ρ2, T.d (g x) (wipeD ρ vs) = some ρ2 ∧ tt ρ2 S2 fun b S3 => Sub S2 S3 ∧ b = kp x ∧ (b = true → te ρ2 S3 fun y S4 => Sub S2 S4 ∧ y = f x))
    (hl : xs.length ≤ sizeLine) (hq : ∀ p, S1 p = none → Q (.ref p) (put S1 p (.lst ((xs.filter kp).map f)))) : lcPB T tt te vs ρ items guard S1 Q := ⟨α, xs, g, kp, f, hi, hg, hs, hl, hq⟩
theorem for_b {items : List D} {guard : Sto → Prop} (P : Nat → REnv → Sto → Prop) (p0 : P 0 ρ S1)
    (ps : ∀ i d ρ1 S2, items[i]? = some d → P i ρ1 S2 → guard S2 ∧ ∃ ρ2, T.d d ρ1 = some ρ2 ∧
      tb { E with nx := fun ρ' S' => ∃ ρ0 S0, RSub ρ0 ρ' ∧ Sub S0 S' ∧ P (i + 1) ρ0 S0, ct := fun ρ' S' => ∃ ρ0 S0, RSub ρ0 ρ' ∧ Sub S0 S' ∧ P (i + 1) ρ0 S0, bk := E.nx } ρ2 S2)
    (pe : ∀ ρ1 S2, P items.length ρ1 S2 → guard S2 ∧ E.nx ρ1 S2) : forB T tb E ρ items guard S1 := ⟨P, p0, ps, pe⟩
theorem lc_draw {items : List D} {guard : Sto → Prop} {c : Addr} (cup : cupAt S1 c) (A : D → Prop) (hg : ∀ S2, Drawn c S1 S2 → guard S2)
    (hs : ∀ d ∈ items, ∀ S2, Drawn c S1 S2 → ∃ ρ2, T.d d (wipeD ρ vs) = some ρ2 ∧ ∀ R : DQ, (∀ y S4, Drawn c S2 S4 → A y → R y S4) → te ρ2 S2 R)
    (hl : items.length < 1000000) (hq : ∀ p ys S2, S1 p = none → p ≠ c → ys.length = items.length → (∀ y ∈ ys, A y) → Drawn c S1 S2 → S2 p = some (.lst ys) → Q (.ref p) S2) : lcB T dYes te vs ρ items guard S1 Q := by
  have big : 1000000 ≤ sizeLine := by rw [sizeLine_eq]; decide
  intro p hp
  have pc : p ≠ c := by
    rintro rfl
    obtain ⟨x, y, e, _⟩ := cup
    rw [hp] at e
    cases e
  refine ⟨fun i acc S2 => Drawn c S1 S2 ∧ S2 p = some (.lst acc) ∧ acc.length = i ∧ i ≤ items.length ∧ ∀ y ∈ acc, A y, ⟨(Drawn.refl cup).new hp, put_same, rfl, Nat.zero_le _, fun y hy => by cases hy⟩, ?_, ?_⟩
  · rintro i d acc S2 e ⟨D2, e2, l2, hi, hA⟩
    have lt := (List.getElem?_eq_some_iff.mp e).1
    obtain ⟨ρ2, eT, run⟩ := hs d (List.mem_of_getElem? e) S2 D2
    refine ⟨hg S2 D2, ρ2, eT, ?_⟩
    simp only [u_yes, if_true]
    refine run _ fun y S4 D4 hy => ⟨D4.2 p _ pc e2, by omega, _, Sub.refl, (D2.trans D4).set hp pc, put_same, by simp [l2], lt, fun z hz => ?_⟩
    rcases List.mem_append.mp hz with hz | hz
    · exact hA z hz
    · rw [List.mem_singleton.mp hz]; exact hy
  · rintro acc S2 ⟨D2, e2, l2, hi, hA⟩
    exact ⟨hg S2 D2, hq p acc S2 hp pc l2 hA D2 e2⟩
/-- tuple([..]) that draws -/
theorem tup_draw {items : List D} {guard : Sto → Prop} {c : Addr} (cup : cupAt S1 c) (A : D → Prop) (hg : ∀ S2, Drawn c S1 S2 → guard S2)
    (hs : ∀ d ∈ items, ∀ S2, Drawn c S1 S2 → ∃ ρ2, T.d d (wipeD ρ vs) = some ρ2 ∧ ∀ R : DQ, (∀ y S4, Drawn c S2 S4 → A y → R y S4) → te ρ2 S2 R)
    (hl : items.length < 1000000) (hq : ∀ ys S2, ys.length = items.length → (∀ y ∈ ys, A y) → Drawn c S1 S2 → Q (.tup ys) S2) : lcB T dYes te vs ρ items guard S1 (fun x S1 => aTupl true [x] S1 Q) :=
  lc_draw cup A hg hs hl fun p ys S2 hp pc hl hA D e => .inr ⟨p, ys, rfl, .inl e, hq ys _ hl hA (by rw [if_pos rfl]; exact D.del hp pc)⟩
end
def isByte (d : D) : Prop := ∃ i : Int, d = .int i ∧ 0 ≤ i ∧ i ≤ 255
theorem bytes_of : ∀ {ys : List D}, (∀ y ∈ ys, isByte y) → ∃ os : List Int, ys = os.map .int ∧ ∀ o ∈ os, 0 ≤ o ∧ o ≤ 255
  | [], _ => ⟨[], rfl, fun _ h => by cases h⟩
  | y :: ys, h => by
    obtain ⟨os, rfl, h2⟩ := bytes_of fun z hz => h z (List.mem_cons_of_mem _ hz)
    obtain ⟨i, rfl, hi⟩ := h y List.mem_cons_self
    refine ⟨i :: os, rfl, fun o ho => ?_⟩
    rcases List.mem_cons.mp ho with rfl | ho
    · exact hi
    · exact h2 o ho
theorem e_dict1 {tk tv : DE} {ok : D → Prop} {ρ : REnv} {S : Sto} {Q : DQ} : dDict1 tk tv ok ρ S Q = ∀ p, S p = none → tk ρ (put S p (.dic [])) fun k S1 => tv ρ S1 fun v S2 => S2 p = some (.dic []) ∧ ok k ∧ Q (.ref p) (put S2 p (.dic [(k, v)])) := rfl
theorem upd_gone {S : Sto} {p q : Addr} {o o2 : DO} (h : S q = none) (n : p ≠ q) : DW.del (put (put S q o2) p o) q = put S p o := by
  rw [del_put_ne n.symm, del_put h]
theorem add_lst {p q : Addr} {xs ys : List D} {S : Sto} {Q : DQ} (e : S p = some (.lst xs)) (f : S q = some (.lst ys)) (l : xs.length + ys.length ≤ sizeLine) (h : ∀ r, S r = none → Q (.ref r) (put S r (.lst (xs ++ ys)))) : aAdd (.ref p) (.ref q) S Q := ⟨xs, ys, e, f, l, h⟩
theorem minl_at {p : Addr} {ns : List Int} {S : Sto} {Q : DQ} (e : S p = some (.lst (ns.map .int))) (ne : ns ≠ []) (h : Q (.int (minI ns)) (DW.del S p)) : aMin true [.ref p] S Q := .inl ⟨p, ns, rfl, e, ne, by rw [if_pos rfl]; exact h⟩
theorem suml_at {p : Addr} {ns : List Int} {S : Sto} {Q : DQ} (e : S p = some (.lst (ns.map .int))) (h : Q (.int ns.sum) (DW.del S p)) : aSum true [.ref p] S Q := ⟨p, ns, rfl, e, by rw [if_pos rfl]; exact h⟩
theorem tupl_at {p : Addr} {ys : List D} {S : Sto} {Q : DQ} (e : S p = some (.lst ys)) (h : Q (.tup ys) (DW.del S p)) : aTupl true [.ref p] S Q := .inr ⟨p, ys, rfl, .inl e, by rw [if_pos rfl]; exact h⟩
end DW
namespace DW.K48
open PySem PySem.Spec PyProof.Rows L2
/-! the readings, printed by gen.py -/
def t_is_whole : DS := (dRet (dAndV (dCall aIsI (dCons (dVar 0) (dCons (dC (.ty "int")) dNil))) (dAndV (dNotV (dCall aIsI (dCons (dVar 0) (dCons (dC (.ty "bool")) dNil)))) (dChain (aCmp fLe) (aCmp fLe) (dVar 1) (dVar 0) (dVar 2)))))
def t_is_tuple_of : DS := (dRet (dAndV (dCall aIsI (dCons (dVar 0) (dCons (dC (.ty "tuple")) dNil))) (dChain (aCmp fLe) (aCmp fLe) (dVar 1) (dCall aLen (dCons (dVar 0) dNil)) (dVar 2))))
def t_fits_octets (sp_is_whole : DC) (sp_is_tuple_of : DC) : DS := (dRet (dAndV (dCall sp_is_tuple_of (dCons (dVar 0) (dCons (dC (.int 0)) (dCons (dVar 1) dNil)))) (dCall (aAll true) (dCons (dLcP (dSeq (dVar 0)) (.nm 2) dYes (dCall sp_is_whole (dCons (dVar 2) (dCons (dC (.int 0)) (dCons (dC (.int 255)) dNil)))) [2]) dNil))))
def t_fits_known (sp_fits_octets : DC) (sp_is_tuple_of : DC) : DS := (dSeqS (dIfS (dOr (dNot (dB (dCall sp_is_tuple_of (dCons (dVar 0) (dCons (dC (.int 0)) (dCons (dC (.int 64)) dNil)))))) (dNot (dB (dCall (aAll true) (dCons (dLcP (dSeq (dVar 0)) (.nm 1) dYes (dAndV (dCall sp_fits_octets (dCons (dVar 1) (dCons (dC (.int 512)) dNil))) (dOp aNe (dVar 1) (dTup dNil))) [1]) dNil))))) (dRet (dC (.bl false))) dNext)
    (dRet (dOp aEq (dLenSet (dVar 0)) (dCall aLen (dCons (dVar 0) dNil)))))
def t_need_known (sp_fits_known : DC) : DS := (dIfS (dNot (dB (dCall sp_fits_known (dCons (dVar 0) dNil)))) dNever dNext)
def t_steps_at : DS := (dSeqS (dAsg (dLst (dCons (dTup (dCons (dC (.int 1)) (dCons (dOp aAdd (dVar 2) (dC (.int 1))) (dCons (dC .non) dNil)))) dNil)) (.nm 4))
    (dSeqS (dFor (dEnum (dCons (dVar 0) dNil)) (.tp [5, 6]) (dIfS (dB (dOp aEq (dSl (dVar 1) (dPart (dVar 2)) (dPart (dOp aAdd (dVar 2) (dCall aLen (dCons (dVar 6) dNil))))) (dVar 6))) (dDrop (dBM "list" aAppend (dVar 4) (dCons (dTup (dCons (dVar 3) (dCons (dOp aAdd (dVar 2) (dCall aLen (dCons (dVar 6) dNil))) (dCons (dVar 5) dNil)))) dNil))) dNext))
    (dRet (dVar 4))))
def t_prices_in (sp_steps_at : DC) : DS := (dSeqS (dAsg (dLst (dCons (dTup (dCons (dC (.int 0)) (dCons (dC .non) dNil))) dNil)) (.nm 3))
    (dSeqS (dFor (dRngB (dCons (dOp aSub (dCall aLen (dCons (dVar 1) dNil)) (dC (.int 1))) (dCons (dC (.int (-1))) (dCons (dC (.int (-1))) dNil)))) (.nm 4) (dSeqS (dAsg (dLcP (dSeq (dCall sp_steps_at (dCons (dVar 0) (dCons (dVar 1) (dCons (dVar 4) (dCons (dVar 2) dNil)))))) (.tp [7, 8, 9]) dYes (dTup (dCons (dOp aAdd (dVar 7) (dOp aIx (dOp aIx (dVar 3) (dOp aSub (dCall aLen (dCons (dVar 1) dNil)) (dVar 8))) (dC (.int 0)))) (dCons (dVar 8) (dCons (dVar 9) dNil)))) [7, 8, 9]) (.nm 5))
    (dSeqS (dAsg (dCall (aMin true) (dCons (dLcP (dSeq (dVar 5)) (.nm 10) dYes (dOp aIx (dVar 10) (dC (.int 0))) [10]) dNil)) (.nm 6))
    (dDrop (dBM "list" aAppend (dVar 3) (dCons (dTup (dCons (dVar 6) (dCons (dOp aIx (dLcP (dSeq (dVar 5)) (.nm 10) (dB (dOp aEq (dOp aIx (dVar 10) (dC (.int 0))) (dVar 6))) (dSl (dVar 10) (dPart (dC (.int 1))) dNoP) [10]) (dC (.int 0))) dNil))) dNil))))))
    (dRet (dRevL (dVar 3)))))
def t_need_all (sp_need_known : DC) (sp_fits_octets : DC) (sp_is_whole : DC) : DS := (dSeqS (dDrop (dCall sp_need_known (dCons (dVar 0) dNil)))
    (dSeqS (dIfS (dNot (dB (dCall sp_fits_octets (dCons (dVar 1) (dCons (dC (.int 5000)) dNil))))) dNever dNext)
    (dIfS (dNot (dB (dCall sp_is_whole (dCons (dVar 2) (dCons (dC (.int 0)) (dCons (dC (.int 100)) dNil)))))) dNever dNext)))
def t_least_price (sp_need_all : DC) (sp_prices_in : DC) : DS := (dSeqS (dDrop (dCall sp_need_all (dCons (dVar 0) (dCons (dVar 1) (dCons (dVar 2) dNil)))))
    (dRet (dOp aIx (dOp aIx (dCall sp_prices_in (dCons (dVar 0) (dCons (dVar 1) (dCons (dVar 2) dNil)))) (dC (.int 0))) (dC (.int 0)))))
def t_price_paper (sp_need_all : DC) (sp_is_whole : DC) (sp_prices_in : DC) : DS := (dSeqS (dDrop (dCall sp_need_all (dCons (dVar 0) (dCons (dVar 1) (dCons (dVar 2) dNil)))))
    (dSeqS (dIfS (dNot (dB (dCall sp_is_whole (dCons (dVar 3) (dCons (dC (.int 0)) (dCons (dC (.int 1000000)) dNil)))))) dNever dNext)
    (dSeqS (dAsg (dCall sp_prices_in (dCons (dVar 0) (dCons (dVar 1) (dCons (dVar 2) dNil)))) (.nm 4))
    (dRet (dIf (dB (dOp (aCmp fGe) (dOp aIx (dOp aIx (dVar 4) (dC (.int 0))) (dC (.int 0))) (dVar 3))) (dCall (aTupl true) (dCons (dLcP (dSeq (dVar 4)) (.tp [5, 6]) dYes (dVar 5) [5, 6]) dNil)) (dC .non))))))
def t_is_price_paper (sp_need_all : DC) (sp_is_whole : DC) (sp_is_tuple_of : DC) (sp_steps_at : DC) : DS := (dSeqS (dDrop (dCall sp_need_all (dCons (dVar 0) (dCons (dVar 1) (dCons (dVar 2) dNil)))))
    (dSeqS (dIfS (dNot (dB (dCall sp_is_whole (dCons (dVar 3) (dCons (dC (.int 0)) (dCons (dC (.int 1000000)) dNil)))))) dNever dNext)
    (dSeqS (dAsg (dOp aAdd (dCall aLen (dCons (dVar 1) dNil)) (dC (.int 1))) (.nm 5))
    (dSeqS (dIfS (dOr (dNot (dB (dCall sp_is_tuple_of (dCons (dVar 4) (dCons (dVar 5) (dCons (dVar 5) dNil)))))) (dNot (dB (dCall (aAll true) (dCons (dLcP (dSeq (dVar 4)) (.nm 11) dYes (dCall sp_is_whole (dCons (dVar 11) (dCons (dC (.int 0)) (dCons (dC (.int 1000000)) dNil)))) [11]) dNil))))) (dRet (dC (.bl false))) dNext)
    (dSeqS (dIfS (dOr (dB (dOp (aCmp fLt) (dOp aIx (dVar 4) (dC (.int 0))) (dVar 3))) (dB (dOp (aCmp fGt) (dOp aIx (dVar 4) (dC (.int (-1)))) (dC (.int 0))))) (dRet (dC (.bl false))) dNext)
    (dSeqS (dFor (dRng1 (dCons (dCall aLen (dCons (dVar 1) dNil)) dNil)) (.nm 6) (dSeqS (dAsg (dCall sp_steps_at (dCons (dVar 0) (dCons (dVar 1) (dCons (dVar 6) (dCons (dVar 2) dNil))))) (.nm 7))
    (dIfS (dB (dCall (aAny true) (dCons (dLcP (dSeq (dVar 7)) (.tp [8, 9, 10]) dYes (dOp (aCmp fGt) (dOp aIx (dVar 4) (dVar 6)) (dOp aAdd (dVar 8) (dOp aIx (dVar 4) (dVar 9)))) [8, 9, 10]) dNil))) (dRet (dC (.bl false))) dNext)))
    (dRet (dC (.bl true)))))))))
def t__law_cup : DS := (dSeqS (dAsg (dCall aAbs (dCons (dOp aIx (dOp aAdd (dCall aList (dCons (dVar 0) dNil)) (dLst (dCons (dC (.int 0)) dNil))) (dC (.int 0))) dNil)) (.nm 1))
    (dRet (dLst (dCons (dIf (dB (dOp (aCmp fGe) (dVar 1) (dOp aPow (dC (.int 10)) (dC (.int 18))))) (dOp aFdiv (dVar 1) (dC (.int 167))) (dC (.int 0))) (dCons (dOp aAdd (dOp aMod (dCall aInt (dCons (dOp aAdd (dOp aMul2 (dVar 1) (dC (.int 431))) (dC (.int 4607))) dNil)) (dC (.int 2077503101))) (dC (.int 301))) dNil)))))
def t__law_roll : DS := (dSeqS (dIfS (dB (dOp (aCmp fGt) (dOp aIx (dVar 0) (dC (.int 0))) (dC (.int 0)))) (dSeqS (dAsg (dOp aMod (dCall aInt (dCons (dOp aIx (dVar 0) (dC (.int 0))) dNil)) (dVar 1)) (.nm 2))
    (dSeqS (dPut (dVar 0) (dC (.int 0)) (dOp aFdiv (dOp aIx (dVar 0) (dC (.int 0))) (dVar 1)))
    (dRet (dVar 2)))) dNext)
    (dSeqS (dPut (dVar 0) (dC (.int 1)) (dOp aMod (dCall aInt (dCons (dOp aAdd (dOp aMul2 (dOp aIx (dVar 0) (dC (.int 1))) (dC (.int 31387))) (dC (.int 8311))) dNil)) (dC (.int 2147483399))))
    (dSeqS (dAsg (dOp aMod (dCall aInt (dCons (dOp aMul2 (dOp aIx (dVar 0) (dC (.int 1))) (dOp aAdd (dOp aIx (dVar 0) (dC (.int 1))) (dC (.int 489)))) dNil)) (dC (.int 2147483563))) (.nm 3))
    (dRet (dOp aMod (dCall aInt (dCons (dOp aFdiv (dVar 3) (dC (.int 797))) dNil)) (dVar 1))))))
def t__law_same (sp__law_same : DC) : DS := (dSeqS (dIfS (dB (dCall aIsI (dCons (dVar 1) (dCons (dC (.ty "tuple")) dNil)))) (dSeqS (dIfS (dOr (dNot (dB (dCall aIsI (dCons (dVar 0) (dCons (dC (.ty "tuple")) dNil))))) (dB (dOp aNe (dCall aLen (dCons (dVar 0) dNil)) (dCall aLen (dCons (dVar 1) dNil))))) (dRet (dC (.bl false))) dNext)
    (dRet (dCall (aAll true) (dCons (dLcP (dRng1 (dCons (dCall aLen (dCons (dVar 1) dNil)) dNil)) (.nm 2) dYes (dCall sp__law_same (dCons (dOp aIx (dVar 0) (dVar 2)) (dCons (dOp aIx (dVar 1) (dVar 2)) dNil))) [2]) dNil)))) dNext)
    (dSeqS (dIfS (dB (dOp aIsN (dVar 1) (dC .non))) (dRet (dOp aIsN (dVar 0) (dC .non))) dNext)
    (dSeqS (dIfS (dB (dCall aIsI (dCons (dVar 1) (dCons (dC (.ty "bool")) dNil)))) (dRet (dIf (dB (dVar 1)) (dOp aIsB (dVar 0) (dC (.bl true))) (dOp aIsB (dVar 0) (dC (.bl false))))) dNext)
    (dSeqS (dIfS (dB (dCall aIsI (dCons (dVar 1) (dCons (dC (.ty "int")) dNil)))) (dRet (dAndV (dCall aIsI (dCons (dVar 0) (dCons (dC (.ty "int")) dNil))) (dAndV (dNotV (dCall aIsI (dCons (dVar 0) (dCons (dC (.ty "bool")) dNil)))) (dOp aEq (dCall aInt (dCons (dVar 0) dNil)) (dVar 1))))) dNext)
    (dRet (dAndV (dCall aIsI (dCons (dVar 0) (dCons (dC (.ty "str")) dNil))) (dOp aEq dNo (dVar 1))))))))
def t__law_some (sp__law_roll : DC) : DS := (dRet (dOp aIx (dVar 1) (dCall sp__law_roll (dCons (dVar 0) (dCons (dCall aLen (dCons (dVar 1) dNil)) dNil)))))
def t__law_file (sp__law_roll : DC) (sp__law_some : DC) : DS := (dSeqS (dAsg (dCall sp__law_roll (dCons (dVar 0) (dCons (dC (.int 256)) dNil))) (.nm 2))
    (dRet (dCall (aTupl true) (dCons (dLc (dRng1 (dCons (dCall sp__law_roll (dCons (dVar 0) (dCons (dOp aAdd (dVar 1) (dC (.int 1))) dNil))) dNil)) (.nm 3) dYes (dCall sp__law_some (dCons (dVar 0) (dCons (dLst (dCons (dVar 2) (dCons (dVar 2) (dCons (dCall sp__law_roll (dCons (dVar 0) (dCons (dC (.int 256)) dNil))) dNil)))) dNil))) [3]) dNil))))
def t__law_octets (sp__law_roll : DC) (sp__law_some : DC) (sp__law_file : DC) : DS := (dSeqS (dAsg (dTup dNil) (.nm 2))
    (dSeqS (dFor (dRng1 (dCons (dCall sp__law_roll (dCons (dVar 0) (dCons (dC (.int 4)) dNil))) dNil)) (.nm 3) (dAsg (dOp aAdd (dVar 2) (dCall sp__law_some (dCons (dVar 0) (dCons (dLst (dCons (dCall sp__law_file (dCons (dVar 0) (dCons (dVar 1) dNil))) (dCons (dOp aMul2 (dCall sp__law_file (dCons (dVar 0) (dCons (dC (.int 6)) dNil))) (dC (.int 3))) (dCons (dSl (dVar 2) (dPart (dC (.int (-9)))) dNoP) (dCons (dCall (aTupl true) (dCons (dLc (dRng1 (dCons (dOp aFdiv (dVar 1) (dC (.int 2))) dNil)) (.nm 4) dYes (dCall sp__law_roll (dCons (dVar 0) (dCons (dC (.int 256)) dNil))) [4]) dNil)) dNil))))) dNil)))) (.nm 2)))
    (dRet (dSl (dVar 2) dNoP (dPart (dOp aMul2 (dC (.int 4)) (dVar 1)))))))
def t__law_known (sp__law_roll : DC) (sp__law_some : DC) (sp__law_file : DC) : DS := (dSeqS (dAsg dDict0 (.nm 2))
    (dSeqS (dFor (dRng1 (dCons (dCall sp__law_roll (dCons (dVar 0) (dCons (dC (.int 4)) dNil))) dNil)) (.nm 3) (dSeqS (dAsg (dCall sp__law_roll (dCons (dVar 0) (dCons (dOp aAdd (dCall aLen (dCons (dVar 1) dNil)) (dC (.int 1))) dNil))) (.nm 4))
    (dSeqS (dAsg (dCall sp__law_some (dCons (dVar 0) (dCons (dLst (dCons (dSl (dVar 1) (dPart (dVar 4)) (dPart (dOp aAdd (dOp aAdd (dVar 4) (dC (.int 1))) (dCall sp__law_roll (dCons (dVar 0) (dCons (dC (.int 4)) dNil)))))) (dCons (dCall sp__law_file (dCons (dVar 0) (dCons (dC (.int 4)) dNil))) dNil))) dNil))) (.nm 5))
    (dDrop (dBM "dict" (aUpd true) (dVar 2) (dCons (dIf (dB (dOp aNe (dVar 5) (dTup dNil))) (dDict1 (dVar 5) (dC (.int 1)) isTK) dDict0) dNil))))))
    (dRet (dCall (aTupl true) (dCons (dCall aList (dCons (dVar 2) dNil)) dNil)))))
def t__law_steps : DS := (dRet (dOp aAdd (dLst (dCons (dTup (dCons (dC (.int 1)) (dCons (dOp aAdd (dVar 2) (dC (.int 1))) dNil))) dNil)) (dLcP (dSeq (dVar 0)) (.nm 4) (dB (dOp aEq (dSl (dVar 1) (dPart (dVar 2)) (dPart (dOp aAdd (dVar 2) (dCall aLen (dCons (dVar 4) dNil))))) (dVar 4))) (dTup (dCons (dVar 3) (dCons (dOp aAdd (dVar 2) (dCall aLen (dCons (dVar 4) dNil))) dNil))) [4])))
def t__law_least (sp__law_steps : DC) : DS := (dSeqS (dAsg (dDict1 (dCall aLen (dCons (dVar 1) dNil)) (dC (.int 0)) isLeaf) (.nm 3))
    (dSeqS (dFor (dRng1 (dCons (dCall aLen (dCons (dVar 1) dNil)) dNil)) (.nm 4) (dSeqS (dAsg (dOp aSub (dOp aSub (dCall aLen (dCons (dVar 1) dNil)) (dC (.int 1))) (dVar 4)) (.nm 5))
    (dPut (dVar 3) (dVar 5) (dCall (aMin true) (dCons (dLcP (dSeq (dCall sp__law_steps (dCons (dVar 0) (dCons (dVar 1) (dCons (dVar 5) (dCons (dVar 2) dNil)))))) (.tp [6, 7]) dYes (dOp aAdd (dVar 6) (dOp aIx (dVar 3) (dVar 7))) [6, 7]) dNil)))))
    (dRet (dVar 3))))
def t__law_is_paper (sp__law_steps : DC) : DS := (dSeqS (dIfS (dOr (dB (dOp (aCmp fLt) (dOp aIx (dVar 4) (dC (.int 0))) (dVar 3))) (dB (dOp aNe (dOp aIx (dVar 4) (dC (.int (-1)))) (dC (.int 0))))) (dRet (dC (.bl false))) dNext)
    (dSeqS (dFor (dRng1 (dCons (dCall aLen (dCons (dVar 1) dNil)) dNil)) (.nm 5) (dIfS (dB (dOp aNe (dLcP (dSeq (dCall sp__law_steps (dCons (dVar 0) (dCons (dVar 1) (dCons (dVar 5) (dCons (dVar 2) dNil)))))) (.tp [6, 7]) (dB (dOp (aCmp fGt) (dOp aIx (dVar 4) (dVar 5)) (dOp aAdd (dVar 6) (dOp aIx (dVar 4) (dVar 7))))) (dC (.int 1)) [6, 7]) (dLst dNil))) (dRet (dC (.bl false))) dNext))
    (dRet (dC (.bl true)))))
def t__law_right_1 (sp__law_roll : DC) (sp__law_octets : DC) (sp__law_known : DC) (sp__law_least : DC) (sp__law_same : DC) (sp_least_price : DC) (sp_price_paper : DC) (sp__law_is_paper : DC) (sp__law_some : DC) (sp_is_price_paper : DC) : DS := (dIfS (dOr (dNot (dB (dCall sp__law_same (dCons (dCall sp_is_price_paper (dCons (dVar 4) (dCons (dVar 2) (dCons (dVar 3) (dCons (dVar 6) (dCons (dVar 11) dNil)))))) (dCons (dVar 12) dNil))))) (dAnd (dB (dVar 12)) (dB (dOp (aCmp fLt) (dVar 5) (dVar 6))))) (dRet (dC (.bl false))) dNext)
def t__law_right_2 (sp__law_roll : DC) (sp__law_octets : DC) (sp__law_known : DC) (sp__law_least : DC) (sp__law_same : DC) (sp_least_price : DC) (sp_price_paper : DC) (sp__law_is_paper : DC) (sp__law_some : DC) (sp_is_price_paper : DC) : DS := (dSeqS (dAsg (dCall sp__law_is_paper (dCons (dVar 4) (dCons (dVar 2) (dCons (dVar 3) (dCons (dVar 6) (dCons (dVar 11) dNil)))))) (.nm 12))
    (t__law_right_1 sp__law_roll sp__law_octets sp__law_known sp__law_least sp__law_same sp_least_price sp_price_paper sp__law_is_paper sp__law_some sp_is_price_paper))
def t__law_right_3 (sp__law_roll : DC) (sp__law_octets : DC) (sp__law_known : DC) (sp__law_least : DC) (sp__law_same : DC) (sp_least_price : DC) (sp_price_paper : DC) (sp__law_is_paper : DC) (sp__law_some : DC) (sp_is_price_paper : DC) : DS := (dIfS (dB (dOp aNe (dLcP (dSeq (dVar 13)) (.nm 15) (dB (dOp aNotB (dCall sp_is_price_paper (dCons (dVar 4) (dCons (dVar 2) (dCons (dVar 3) (dCons (dC (.int 0)) (dCons (dVar 15) dNil)))))) (dC (.bl false)))) (dVar 15) [15]) (dLst dNil))) (dRet (dC (.bl false))) dNext)
def t__law_right_4 (sp__law_roll : DC) (sp__law_octets : DC) (sp__law_known : DC) (sp__law_least : DC) (sp__law_same : DC) (sp_least_price : DC) (sp_price_paper : DC) (sp__law_is_paper : DC) (sp__law_some : DC) (sp_is_price_paper : DC) : DS := (dSeqS (dAsg (dOp aAdd (dLst (dCons (dC .non) (dCons (dTup dNil) (dCons (dCall aList (dCons (dVar 8) dNil)) (dCons (dOp aAdd (dVar 8) (dTup (dCons (dC (.int 0)) dNil))) (dCons (dSl (dVar 8) (dPart (dC (.int 1))) dNoP) (dCons (dC (.int 5)) dNil))))))) (dLcP (dSeq (dTup (dCons (dC (.int (-1))) (dCons (dOp aAdd (dOp aPow (dC (.int 10)) (dC (.int 6))) (dC (.int 1))) (dCons (dC (.bl true)) (dCons (dC .non) (dCons (dC (.str "0")) dNil))))))) (.nm 14) dYes (dOp aAdd (dOp aAdd (dSl (dVar 8) dNoP (dPart (dVar 9))) (dTup (dCons (dVar 14) dNil))) (dSl (dVar 8) (dPart (dOp aAdd (dVar 9) (dC (.int 1)))) dNoP)) [14])) (.nm 13))
    (t__law_right_3 sp__law_roll sp__law_octets sp__law_known sp__law_least sp__law_same sp_least_price sp_price_paper sp__law_is_paper sp__law_some sp_is_price_paper))
def t__law_right_5 (sp__law_roll : DC) (sp__law_octets : DC) (sp__law_known : DC) (sp__law_least : DC) (sp__law_same : DC) (sp_least_price : DC) (sp_price_paper : DC) (sp__law_is_paper : DC) (sp__law_some : DC) (sp_is_price_paper : DC) : DS := (dSeqS (dFor (dSeq (dTup (dCons (dVar 8) (dCons (dOp aAdd (dOp aAdd (dSl (dVar 8) dNoP (dPart (dVar 9))) (dTup (dCons (dCall (aMax false) (dCons (dC (.int 0)) (dCons (dCall (aMin false) (dCons (dOp aPow (dC (.int 10)) (dC (.int 6))) (dCons (dOp aAdd (dOp aIx (dVar 8) (dVar 9)) (dVar 10)) dNil))) dNil))) dNil))) (dSl (dVar 8) (dPart (dOp aAdd (dVar 9) (dC (.int 1)))) dNoP)) (dCons (dOp aMul2 (dTup (dCons (dC (.int 0)) dNil)) (dCall aLen (dCons (dVar 8) dNil))) (dCons (dOp aAdd (dSl (dVar 8) dNoP (dPart (dC (.int (-1))))) (dTup (dCons (dC (.int 1)) dNil))) dNil)))))) (.nm 11) (t__law_right_2 sp__law_roll sp__law_octets sp__law_known sp__law_least sp__law_same sp_least_price sp_price_paper sp__law_is_paper sp__law_some sp_is_price_paper))
    (t__law_right_4 sp__law_roll sp__law_octets sp__law_known sp__law_least sp__law_same sp_least_price sp_price_paper sp__law_is_paper sp__law_some sp_is_price_paper))
def t__law_right_6 (sp__law_roll : DC) (sp__law_octets : DC) (sp__law_known : DC) (sp__law_least : DC) (sp__law_same : DC) (sp_least_price : DC) (sp_price_paper : DC) (sp__law_is_paper : DC) (sp__law_some : DC) (sp_is_price_paper : DC) : DS := (dSeqS (dAsg (dTup (dCons (dCall sp__law_roll (dCons (dVar 0) (dCons (dCall aLen (dCons (dVar 8) dNil)) dNil))) (dCons (dCall sp__law_some (dCons (dVar 0) (dCons (dLst (dCons (dC (.int 1)) (dCons (dC (.int (-1))) (dCons (dC (.int 5)) dNil)))) dNil))) dNil))) (.tp [9, 10]))
    (t__law_right_5 sp__law_roll sp__law_octets sp__law_known sp__law_least sp__law_same sp_least_price sp_price_paper sp__law_is_paper sp__law_some sp_is_price_paper))
def t__law_right_7 (sp__law_roll : DC) (sp__law_octets : DC) (sp__law_known : DC) (sp__law_least : DC) (sp__law_same : DC) (sp_least_price : DC) (sp_price_paper : DC) (sp__law_is_paper : DC) (sp__law_some : DC) (sp_is_price_paper : DC) : DS := (dSeqS (dAsg (dIf (dB (dOp aNotN (dVar 7) (dC .non))) (dVar 7) (dIf (dB (dOp aNe (dVar 2) (dTup dNil))) (dCall (aTupl true) (dCons (dOp aAdd (dLst (dCons (dVar 6) dNil)) (dOp aMul2 (dLst (dCons (dC (.int 0)) dNil)) (dCall aLen (dCons (dVar 2) dNil)))) dNil)) (dTup (dCons (dC (.int 0)) dNil)))) (.nm 8))
    (t__law_right_6 sp__law_roll sp__law_octets sp__law_known sp__law_least sp__law_same sp_least_price sp_price_paper sp__law_is_paper sp__law_some sp_is_price_paper))
def t__law_right_8 (sp__law_roll : DC) (sp__law_octets : DC) (sp__law_known : DC) (sp__law_least : DC) (sp__law_same : DC) (sp_least_price : DC) (sp_price_paper : DC) (sp__law_is_paper : DC) (sp__law_some : DC) (sp_is_price_paper : DC) : DS := (dSeqS (dIfS (dOr (dB (dOp aNe (dOp aIsN (dVar 7) (dC .non)) (dOp (aCmp fLt) (dVar 5) (dVar 6)))) (dAnd (dB (dOp aNotN (dVar 7) (dC .non))) (dOr (dNot (dB (dCall aIsI (dCons (dVar 7) (dCons (dC (.ty "tuple")) dNil))))) (dNot (dB (dCall sp__law_is_paper (dCons (dVar 4) (dCons (dVar 2) (dCons (dVar 3) (dCons (dVar 6) (dCons (dVar 7) dNil))))))))))) (dRet (dC (.bl false))) dNext)
    (t__law_right_7 sp__law_roll sp__law_octets sp__law_known sp__law_least sp__law_same sp_least_price sp_price_paper sp__law_is_paper sp__law_some sp_is_price_paper))
def t__law_right_9 (sp__law_roll : DC) (sp__law_octets : DC) (sp__law_known : DC) (sp__law_least : DC) (sp__law_same : DC) (sp_least_price : DC) (sp_price_paper : DC) (sp__law_is_paper : DC) (sp__law_some : DC) (sp_is_price_paper : DC) : DS := (dSeqS (dAsg (dCall sp_price_paper (dCons (dVar 4) (dCons (dVar 2) (dCons (dVar 3) (dCons (dVar 6) dNil))))) (.nm 7))
    (t__law_right_8 sp__law_roll sp__law_octets sp__law_known sp__law_least sp__law_same sp_least_price sp_price_paper sp__law_is_paper sp__law_some sp_is_price_paper))
def t__law_right_10 (sp__law_roll : DC) (sp__law_octets : DC) (sp__law_known : DC) (sp__law_least : DC) (sp__law_same : DC) (sp_least_price : DC) (sp_price_paper : DC) (sp__law_is_paper : DC) (sp__law_some : DC) (sp_is_price_paper : DC) : DS := (dRet (dC (.bl true)))
def t__law_right_11 (sp__law_roll : DC) (sp__law_octets : DC) (sp__law_known : DC) (sp__law_least : DC) (sp__law_same : DC) (sp_least_price : DC) (sp_price_paper : DC) (sp__law_is_paper : DC) (sp__law_some : DC) (sp_is_price_paper : DC) : DS := (dSeqS (dFor (dSeq (dTup (dCons (dC (.int 0)) (dCons (dVar 5) (dCons (dOp aAdd (dVar 5) (dC (.int 1))) (dCons (dCall (aMax false) (dCons (dC (.int 0)) (dCons (dOp aSub (dVar 5) (dC (.int 1))) dNil))) (dCons (dOp aPow (dC (.int 10)) (dC (.int 6))) dNil))))))) (.nm 6) (t__law_right_9 sp__law_roll sp__law_octets sp__law_known sp__law_least sp__law_same sp_least_price sp_price_paper sp__law_is_paper sp__law_some sp_is_price_paper))
    (t__law_right_10 sp__law_roll sp__law_octets sp__law_known sp__law_least sp__law_same sp_least_price sp_price_paper sp__law_is_paper sp__law_some sp_is_price_paper))
def t__law_right_12 (sp__law_roll : DC) (sp__law_octets : DC) (sp__law_known : DC) (sp__law_least : DC) (sp__law_same : DC) (sp_least_price : DC) (sp_price_paper : DC) (sp__law_is_paper : DC) (sp__law_some : DC) (sp_is_price_paper : DC) : DS := (dSeqS (dIfS (dNot (dB (dCall sp__law_same (dCons (dCall sp_least_price (dCons (dVar 4) (dCons (dVar 2) (dCons (dVar 3) dNil)))) (dCons (dVar 5) dNil))))) (dRet (dC (.bl false))) dNext)
    (t__law_right_11 sp__law_roll sp__law_octets sp__law_known sp__law_least sp__law_same sp_least_price sp_price_paper sp__law_is_paper sp__law_some sp_is_price_paper))
def t__law_right_13 (sp__law_roll : DC) (sp__law_octets : DC) (sp__law_known : DC) (sp__law_least : DC) (sp__law_same : DC) (sp_least_price : DC) (sp_price_paper : DC) (sp__law_is_paper : DC) (sp__law_some : DC) (sp_is_price_paper : DC) : DS := (dSeqS (dAsg (dOp aIx (dCall sp__law_least (dCons (dVar 4) (dCons (dVar 2) (dCons (dVar 3) dNil)))) (dC (.int 0))) (.nm 5))
    (t__law_right_12 sp__law_roll sp__law_octets sp__law_known sp__law_least sp__law_same sp_least_price sp_price_paper sp__law_is_paper sp__law_some sp_is_price_paper))
def t__law_right_14 (sp__law_roll : DC) (sp__law_octets : DC) (sp__law_known : DC) (sp__law_least : DC) (sp__law_same : DC) (sp_least_price : DC) (sp_price_paper : DC) (sp__law_is_paper : DC) (sp__law_some : DC) (sp_is_price_paper : DC) : DS := (dSeqS (dAsg (dCall sp__law_known (dCons (dVar 0) (dCons (dVar 2) dNil))) (.nm 4))
    (t__law_right_13 sp__law_roll sp__law_octets sp__law_known sp__law_least sp__law_same sp_least_price sp_price_paper sp__law_is_paper sp__law_some sp_is_price_paper))
def t__law_right (sp__law_roll : DC) (sp__law_octets : DC) (sp__law_known : DC) (sp__law_least : DC) (sp__law_same : DC) (sp_least_price : DC) (sp_price_paper : DC) (sp__law_is_paper : DC) (sp__law_some : DC) (sp_is_price_paper : DC) : DS := (dSeqS (dAsg (dTup (dCons (dCall sp__law_octets (dCons (dVar 0) (dCons (dVar 1) dNil))) (dCons (dCall sp__law_roll (dCons (dVar 0) (dCons (dC (.int 4)) dNil))) dNil))) (.tp [2, 3]))
    (t__law_right_14 sp__law_roll sp__law_octets sp__law_known sp__law_least sp__law_same sp_least_price sp_price_paper sp__law_is_paper sp__law_some sp_is_price_paper))
def t_law (sp__law_cup : DC) (sp__law_right : DC) (sp_is_price_paper : DC) (sp__law_octets : DC) (sp_price_paper : DC) : DS := (dSeqS (dAsg (dCall sp__law_cup (dCons (dVar 0) dNil)) (.nm 1))
    (dSeqS (dFor (dSeq (dTup (dCons (dC (.int 1)) (dCons (dC (.int 4)) (dCons (dC (.int 10)) (dCons (dC (.int 18)) dNil)))))) (.nm 2) (dIfS (dNot (dB (dCall sp__law_right (dCons (dVar 1) (dCons (dVar 2) dNil))))) (dRet (dC (.bl false))) dNext))
    (dSeqS (dIfS (dOr (dB (dOp aNotB (dCall sp_is_price_paper (dCons (dTup (dCons (dTup (dCons (dC (.int 1)) (dCons (dC (.int 2)) (dCons (dC (.int 3)) dNil)))) (dCons (dTup (dCons (dC (.int 3)) (dCons (dC (.int 4)) dNil))) dNil))) (dCons (dTup (dCons (dC (.int 3)) (dCons (dC (.int 4)) dNil))) (dCons (dC (.int 1)) (dCons (dC (.int 2)) (dCons (dTup (dCons (dC (.int 2)) (dCons (dC (.int 1)) (dCons (dC (.int 0)) dNil)))) dNil)))))) (dC (.bl false)))) (dB (dOp aNotB (dCall sp_is_price_paper (dCons (dTup dNil) (dCons (dTup dNil) (dCons (dC (.int 5)) (dCons (dC (.int 3)) (dCons (dTup (dCons (dC (.int 3)) dNil)) dNil)))))) (dC (.bl false))))) (dRet (dC (.bl false))) dNext)
    (dSeqS (dAsg (dCall sp__law_octets (dCons (dVar 1) (dCons (dC (.int 20)) dNil))) (.nm 3))
    (dSeqS (dAsg (dCall aLen (dCons (dVar 3) dNil)) (.nm 4))
    (dRet (dAndV (dOp aIsB (dCall sp_is_price_paper (dCons (dTup dNil) (dCons (dVar 3) (dCons (dC (.int 5)) (dCons (dVar 4) (dCons (dCall (aTupl true) (dCons (dLcP (dRng1 (dCons (dOp aAdd (dVar 4) (dC (.int 1))) dNil)) (.nm 5) dYes (dOp aSub (dVar 4) (dVar 5)) [5]) dNil)) dNil)))))) (dC (.bl true))) (dOp aIsN (dCall sp_price_paper (dCons (dTup dNil) (dCons (dVar 3) (dCons (dC (.int 5)) (dCons (dOp aAdd (dVar 4) (dC (.int 1))) dNil))))) (dC .non)))))))))
end DW.K48
namespace DW.K48
open PySem PySem.Spec PyProof.Rows L2
theorem p_is_whole : ∀ ds S Q, sp_is_whole ds S Q → t_is_whole (endsD Q) (startD 3 ds) S := by
  intro ds S Q h
  unfold sp_is_whole at h
  split at h
  case h_2 => exact h.elim
  rename_i d lo hi
  obtain ⟨h1, h2⟩ := h
  obtain ⟨t, ht⟩ := Option.isSome_iff_exists.mp h1
  simp only [t_is_whole, startD, u_ret, u_endrt]
  cases d with
  | int i =>
    by_cases c : lo ≤ i
    · refine ⟨_, rfl, ?_⟩
      simp [aIsI, tyD, isIt, aCmp, fLe, c, whole] at h2 ⊢
      exact rtS h2
    · simp [aIsI, tyD, isIt, aCmp, fLe, c, whole] at h2 ⊢
      exact rtS h2
  | ref a => 
    rcases ty_ref ht with rfl | rfl <;> simp [aIsI, ht, isIt, whole] at h2 ⊢ <;> exact rtS h2
  | ty _ => simp [tyD] at ht
  | _ => 
    simp [aIsI, tyD, isIt, whole] at h2 ⊢
    exact rtS h2
theorem p_is_tuple_of : ∀ ds S Q, sp_is_tuple_of ds S Q → t_is_tuple_of (endsD Q) (startD 3 ds) S := by
  intro ds S Q h
  unfold sp_is_tuple_of at h
  split at h
  case h_2 => exact h.elim
  rename_i d lo hi
  obtain ⟨h1, h2⟩ := h
  obtain ⟨t, ht⟩ := Option.isSome_iff_exists.mp h1
  simp only [t_is_tuple_of, startD, u_ret, u_endrt]
  cases d with
  | tup xs =>
    by_cases c : lo ≤ (xs.length : Int)
    · simp [aIsI, tyD, isIt, aCmp, fLe, aLen, c, tupLen] at h2 ⊢
      exact rtS h2
    · simp [aIsI, tyD, isIt, aCmp, fLe, aLen, c, tupLen] at h2 ⊢
      exact rtS h2
  | ref a => 
    rcases ty_ref ht with rfl | rfl <;> simp [aIsI, ht, isIt, tupLen] at h2 ⊢ <;> exact rtS h2
  | ty _ => simp [tyD] at ht
  | _ => 
    simp [aIsI, tyD, isIt, tupLen] at h2 ⊢
    exact rtS h2
/-- fits_octets of a tuple -/
def octB (xs : List D) (m : Int) : Bool := tupLen (.tup xs) 0 m && xs.all fun x => whole x 0 255
def sp_fits_octets : DC := fun ds S Q => match ds with
  | [.tup xs, .int m] => (∀ x ∈ xs, (tyD S x).isSome = true) ∧ xs.length ≤ sizeLine ∧ Q (.bl (octB xs m)) S
  | _ => False
theorem p_fits_octets : ∀ ds S Q, sp_fits_octets ds S Q → t_fits_octets sp_is_whole sp_is_tuple_of (endsD Q) (startD 3 ds) S := by
  intro ds S Q h
  unfold sp_fits_octets at h
  split at h
  case h_2 => exact h.elim
  rename_i xs m
  obtain ⟨hx, hl, h⟩ := h
  unfold octB at h
  simp [t_fits_octets, startD, sp_is_tuple_of, tyD]
  cases c : tupLen (.tup xs) 0 m with
  | false =>
    rw [c] at h
    simp
    exact rtS h
  | true =>
    rw [c] at h
    simp
    refine all_at (items := xs) (guard := fun _ => True) (S1 := S) (fun R r => ⟨_, rfl, r⟩) (fun x => whole x 0 255) (fun _ _ => trivial) (fun x hxs S2 u => ?_) hl (rtS h)
    simp [wipeD, sp_is_whole]
    exact tyD_subS u (hx x hxs)
theorem octB_good {xs : List Int} {m : Int} (h : (xs.length : Int) ≤ m) (hb : ∀ x ∈ xs, 0 ≤ x ∧ x ≤ 255) : octB (xs.map .int) m = true := by
  simp [octB, tupLen, whole, h]
  exact hb
theorem big_line : 1000000 ≤ sizeLine := by rw [sizeLine_eq]; decide
/-- good known chunks, good octets -/
structure Kn (ks : List (List Int)) : Prop where
  few : ks.length ≤ 60
  nd : ks.Nodup
  ok : ∀ k ∈ ks, k ≠ [] ∧ k.length ≤ 500 ∧ ∀ x ∈ k, 0 ≤ x ∧ x ≤ 255
structure Oc (os : List Int) : Prop where
  few : os.length ≤ 4000
  ok : ∀ x ∈ os, 0 ≤ x ∧ x ≤ 255
def tK (ks : List (List Int)) : D := .tup (ks.map tI)
def sp_fits_known : DC := fun ds S Q => ∃ ks, ds = [tK ks] ∧ Kn ks ∧ Q (.bl true) S
def sp_need_known : DC := fun ds S Q => ∃ ks, ds = [tK ks] ∧ Kn ks ∧ Q .non S
def sp_need_all : DC := fun ds S Q => ∃ ks os f, ds = [tK ks, tI os, .int f] ∧ Kn ks ∧ Oc os ∧ (0 ≤ f ∧ f ≤ 100) ∧ Q .non S
theorem p_fits_known : ∀ ds S Q, sp_fits_known ds S Q → t_fits_known sp_fits_octets sp_is_tuple_of (endsD Q) (startD 2 ds) S := by
  rintro ds S Q ⟨ks, rfl, K, h⟩
  have l : (ks.length : Int) ≤ 64 := by have := K.few; omega
  simp [t_fits_known, startD, sp_is_tuple_of, tyD, tK, tupLen, l]
  refine all_at (items := ks.map tI) (guard := fun _ => True) (S1 := S) (fun R r => ⟨_, rfl, r⟩) (fun _ => true) (fun _ _ => trivial) (fun x hx S2 u => ?_) (by have := K.few; have := big_line; simp; omega) ?_
  · obtain ⟨k, hk, rfl⟩ := List.mem_map.mp hx
    obtain ⟨k1, k2, k3⟩ := K.ok k hk
    simp [wipeD, tI, sp_fits_octets, tyD]
    refine ⟨by have := big_line; omega, ?_⟩
    rw [octB_good (by omega) k3]
    simp
    refine aNe_cl (cl_tI _ k) rfl ?_
    simp [Sub.refl, k1]
  · simp
    refine ⟨_, rfl, _, rfl, fun d hd => ?_, ?_, fun n hn e => ?_⟩
    · obtain ⟨k, hk, rfl⟩ := List.mem_map.mp hd
      exact isTI_tI k
    · have := K.few
      simp; omega
    · simp [aLen]
      have nd : (ks.map tI).Nodup := by
        have := K.nd
        rw [List.nodup_iff_pairwise_ne] at this ⊢
        rw [List.pairwise_map]
        exact this.imp fun h1 h2 => h1 (tI_inj h2)
      refine aEq_int ?_
      rw [e.mpr nd]
      simp
      exact rtS h
theorem p_need_known : ∀ ds S Q, sp_need_known ds S Q → t_need_known sp_fits_known (endsD Q) (startD 1 ds) S := by
  rintro ds S Q ⟨ks, rfl, K, h⟩
  simp [t_need_known, startD]
  exact ⟨ks, rfl, K, rfl, rtS h⟩
theorem p_need_all : ∀ ds S Q, sp_need_all ds S Q → t_need_all sp_need_known sp_fits_octets sp_is_whole (endsD Q) (startD 3 ds) S := by
  rintro ds S Q ⟨ks, os, f, rfl, K, O, ⟨f1, f2⟩, h⟩
  have e := octB_good (xs := os) (m := 5000) (by have := O.few; omega) O.ok
  simp [t_need_all, startD]
  refine ⟨ks, rfl, K, ?_⟩
  simp [sp_fits_octets, tI, e, sp_is_whole, tyD, whole, f1, f2]
  exact ⟨by have := O.few; have := big_line; omega, rtS h⟩
end DW.K48
namespace DW.K48
open PySem PySem.Spec PyProof.Rows L2
/-! steps -/
abbrev St := Int × Nat × D
def hit (os : List Int) (n : Nat) (k : List Int) : Bool := decide ((os.drop n).take k.length = k)
def stp (os : List Int) (n : Nat) (f : Int) : Nat → List (List Int) → List St
  | _, [] => []
  | i, k :: ks => (if hit os n k then [(f, n + k.length, .int i)] else []) ++ stp os n f (i + 1) ks
def stL (ks : List (List Int)) (os : List Int) (n : Nat) (f : Int) : List St := (1, n + 1, .non) :: stp os n f 0 ks
def stE (r : St) : D := .tup [.int r.1, .int (r.2.1 : Int), r.2.2]
theorem stp_snoc (os : List Int) (n : Nat) (f : Int) (k : List Int) : ∀ (l : List (List Int)) (i : Nat), stp os n f i (l ++ [k]) = stp os n f i l ++ (if hit os n k then [(f, n + k.length, .int ((i + l.length : Nat) : Int))] else [])
  | [], i => by simp [stp]
  | x :: l, i => by
    simp only [List.cons_append, stp, stp_snoc os n f k l (i + 1), List.length_cons, List.append_assoc]
    congr 2
    split <;> simp; omega
theorem stp_mem {os : List Int} {n : Nat} {f : Int} {r : St} : ∀ {l : List (List Int)} {i : Nat}, r ∈ stp os n f i l → ∃ k ∈ l, hit os n k = true ∧ r.1 = f ∧ r.2.1 = n + k.length
  | [], _, h => by cases h
  | x :: l, i, h => by
    simp only [stp] at h
    rcases List.mem_append.mp h with h | h
    · split at h
      · next c =>
        rw [List.mem_singleton] at h
        subst h
        exact ⟨x, List.mem_cons_self, c, rfl, rfl⟩
      · cases h
    · obtain ⟨k, hk, r⟩ := stp_mem h
      exact ⟨k, List.mem_cons_of_mem _ hk, r⟩
theorem hit_len {os : List Int} {n : Nat} {k : List Int} (h : hit os n k = true) (ne : k ≠ []) : n + k.length ≤ os.length ∧ 0 < k.length := by
  have e := congrArg List.length (of_decide_eq_true h)
  have p := List.length_pos_iff.mpr ne
  simp only [List.length_take, List.length_drop] at e
  omega
theorem stL_mem {ks : List (List Int)} {os : List Int} {n : Nat} {f : Int} (K : Kn ks) (hn : n < os.length) {r : St} (h : r ∈ stL ks os n f) : (r.1 = 1 ∨ r.1 = f) ∧ n < r.2.1 ∧ r.2.1 ≤ os.length := by
  rcases List.mem_cons.mp h with rfl | h
  · exact ⟨.inl rfl, Nat.lt_succ_self _, hn⟩
  · obtain ⟨k, hk, c, h1, h2⟩ := stp_mem h
    have := hit_len c (K.ok k hk).1
    exact ⟨.inr h1, by omega, by omega⟩
theorem stp_len (os : List Int) (n : Nat) (f : Int) : ∀ (l : List (List Int)) (i : Nat), (stp os n f i l).length ≤ l.length
  | [], _ => by simp [stp]
  | x :: l, i => by
    have := stp_len os n f l (i + 1)
    simp only [stp, List.length_append, List.length_cons]
    split <;> simp <;> omega
def sp_steps_at : DC := fun ds S Q => ∃ ks os n f, ds = [tK ks, tI os, .int ((n : Nat) : Int), .int f] ∧ Kn ks ∧ n < os.length ∧ ∀ p, S p = none → Q (.ref p) (put S p (.lst ((stL ks os n f).map stE)))
theorem p_steps_at : ∀ ds S Q, sp_steps_at ds S Q → t_steps_at (endsD Q) (startD 7 ds) S := by
  rintro ds S Q ⟨ks, os, n, f, rfl, K, hn, h⟩
  simp [t_steps_at, startD, aAdd]
  refine ⟨by have := big_line; omega, by have := big_line; omega, fun p hp => ?_⟩
  have hp' := hp
  refine for_at (items := enumFrom 0 (ks.map tI)) (guard := fun _ => True) (S1 := put S p (.lst [.tup [.int 1, .int ((n : Int) + 1), .non]])) (fun R r => ⟨_, rfl, .inl ⟨_, rfl, r⟩⟩)
    (fun i ρ1 S2 => ρ1 = [some (tK ks), some (tI os), some (.int n), some (.int f), some (.ref p), none, none] ∧ S2 = put S p (.lst (((1, n + 1, .non) :: stp os n f 0 (ks.take i)).map stE)))
    ⟨rfl, by simp [stp, stE]⟩ ?_ ?_
  · rintro i d ρ1 S2 e ⟨rfl, rfl⟩
    obtain ⟨a, h1, rfl⟩ := enum_get _ _ _ _ e
    rw [List.getElem?_map] at h1
    obtain ⟨k, h2, rfl⟩ := Option.map_eq_some_iff.mp h1
    refine ⟨trivial, _, rfl, ?_⟩
    simp [setAll, aLen, tI, aAdd]
    have cut : cutD (os.map D.int) (some (n : Int)) (some ((n : Int) + (k.length : Int))) = ((os.drop n).take k.length).map D.int := by
      have := cut_nat (os.map D.int) n (n + k.length)
      rw [Nat.add_sub_cancel_left] at this
      simpa [List.map_take, List.map_drop] using this
    have tk : ks.take (i + 1) = ks.take i ++ [k] := by rw [List.take_succ, h2]; rfl
    have li : (ks.take i).length = i := by
      have := (List.getElem?_eq_some_iff.mp h2).1
      rw [List.length_take]; omega
    simp only [aSl, cut]
    refine aEq_cl (cl_tI _ _) (cl_tI _ _) ?_
    have dec : decide (D.tup (((os.drop n).take k.length).map D.int) = D.tup (k.map D.int)) = hit os n k := by
      unfold hit
      exact decide_eq_decide.mpr tI_eq
    rw [dec]
    have key := stp_snoc os n f k (ks.take i) 0
    rw [← tk, li, Nat.zero_add] at key
    have rs : ∀ a b, RSub [some (tK ks), some (D.tup (os.map D.int)), some (D.int n), some (D.int f), some (D.ref p), none, none] [some (tK ks), some (D.tup (os.map D.int)), some (D.int n), some (D.int f), some (D.ref p), a, b] := fun a b =>
      RSub.cons (RSub.cons (RSub.cons (RSub.cons (RSub.cons (RSub.drop (RSub.drop RSub.nil))))))
    cases c : hit os n k with
    | false =>
      rw [c] at key
      simp only [Bool.false_eq_true, if_false, List.append_nil] at key
      rw [key]
      simp
    | true =>
      rw [c] at key
      simp only [if_true] at key
      rw [key]
      simp
      refine ⟨by simp [tyD, put_same], by have := big_line; omega, p, _, _, rfl, rfl, put_same, ?_, ?_⟩
      · have := stp_len os n f (ks.take i) 0
        have := K.few
        have := big_line
        simp
        simp at *
        omega
      · rw [put_put]
        simp [stE]
  · rintro ρ1 S2 ⟨rfl, rfl⟩
    refine ⟨trivial, ?_⟩
    rw [enum_length, List.length_map, List.take_length]
    simp
    exact rtS (h p hp')
end DW.K48
namespace DW.K48
open PySem PySem.Spec PyProof.Rows L2
/-! the least prices, from the end -/
def vl (os : List Int) (t : List Int) (r : St) : Int := r.1 + t.getD (os.length - r.2.1) 0
def tabL (ks : List (List Int)) (os : List Int) (f : Int) : Nat → List Int
  | 0 => [0]
  | j + 1 => tabL ks os f j ++ [minI ((stL ks os (os.length - (j + 1)) f).map (vl os (tabL ks os f j)))]
theorem tab_len (ks : List (List Int)) (os : List Int) (f : Int) : ∀ j, (tabL ks os f j).length = j + 1
  | 0 => rfl
  | j + 1 => by simp [tabL, tab_len ks os f j]
theorem tab_pre (ks : List (List Int)) (os : List Int) (f : Int) {i : Nat} : ∀ {j : Nat} {m : Nat}, i ≤ j → j ≤ m → (tabL ks os f m).getD i 0 = (tabL ks os f j).getD i 0 := by
  intro j m hij hjm
  induction m with
  | zero => rw [Nat.le_zero.mp hjm]
  | succ m ih =>
    by_cases h : j = m + 1
    · rw [h]
    · rw [← ih (by omega)]
      simp only [tabL, List.getD_eq_getElem?_getD]
      rw [List.getElem?_append_left (by rw [tab_len]; omega)]
/-- the least price from n on -/
def Lp (ks : List (List Int)) (os : List Int) (f : Int) (n : Nat) : Int := (tabL ks os f os.length).getD (os.length - n) 0
theorem Lp_end (ks : List (List Int)) (os : List Int) (f : Int) : Lp ks os f os.length = 0 := by
  unfold Lp
  rw [Nat.sub_self, tab_pre ks os f (j := 0) (Nat.le_refl _) (Nat.zero_le _)]
  rfl
theorem tab_new (ks : List (List Int)) (os : List Int) (f : Int) (j : Nat) : (tabL ks os f (j + 1)).getD (j + 1) 0 = minI ((stL ks os (os.length - (j + 1)) f).map (vl os (tabL ks os f j))) := by
  simp only [tabL, List.getD_eq_getElem?_getD]
  rw [List.getElem?_append_right (by rw [tab_len]; omega), tab_len]
  simp
theorem Lp_at {ks : List (List Int)} {os : List Int} {f : Int} (K : Kn ks) {n : Nat} (h : n < os.length) : Lp ks os f n = minI ((stL ks os n f).map fun r => r.1 + Lp ks os f r.2.1) := by
  have e : os.length - n = (os.length - n - 1) + 1 := by omega
  have e2 : os.length - ((os.length - n - 1) + 1) = n := by omega
  unfold Lp
  rw [tab_pre ks os f (i := os.length - n) (j := os.length - n) (Nat.le_refl _) (by omega)]
  conv => lhs; rw [e, tab_new, e2]
  congr 1
  refine List.map_congr_left fun r hr => ?_
  obtain ⟨_, h2, h3⟩ := stL_mem K h hr
  unfold vl
  rw [tab_pre ks os f (i := os.length - r.2.1) (j := os.length - n - 1) (m := os.length) (by omega) (by omega)]
theorem stL_ne {ks : List (List Int)} {os : List Int} {n : Nat} {f : Int} : stL ks os n f ≠ [] := by simp [stL]
theorem Lp_le {ks : List (List Int)} {os : List Int} {f : Int} (K : Kn ks) {n : Nat} (h : n < os.length) {r : St} (hr : r ∈ stL ks os n f) : Lp ks os f n ≤ r.1 + Lp ks os f r.2.1 := by
  rw [Lp_at K h]
  exact minI_le _ _ (List.mem_map.mpr ⟨r, hr, rfl⟩)
theorem Lp_bd {ks : List (List Int)} {os : List Int} {f : Int} (K : Kn ks) (hf : 0 ≤ f) : ∀ (j n : Nat), n + j = os.length → 0 ≤ Lp ks os f n ∧ Lp ks os f n ≤ j := by
  intro j
  induction j using Nat.strongRecOn with
  | ind j ih =>
    intro n e
    by_cases h : j = 0
    · subst h
      have : n = os.length := by omega
      subst this
      rw [Lp_end]
      omega
    · have hn : n < os.length := by omega
      constructor
      · rw [Lp_at K hn]
        have := minI_mem ((stL ks os n f).map fun r => r.1 + Lp ks os f r.2.1) (by simp [stL_ne])
        obtain ⟨r, hr, e2⟩ := List.mem_map.mp this
        rw [← e2]
        obtain ⟨h1, h2, h3⟩ := stL_mem K hn hr
        have := (ih (os.length - r.2.1) (by omega) r.2.1 (by omega)).1
        rcases h1 with h1 | h1 <;> rw [h1] <;> omega
      · have h1 := Lp_le (f := f) K hn (r := (1, n + 1, .non)) List.mem_cons_self
        have := (ih (j - 1) (by omega) (n + 1) (by omega)).2
        simp only at h1
        omega
/-- a value that no step is cheaper than lies below the least price -/
theorem Lp_sound {ks : List (List Int)} {os : List Int} {f : Int} (K : Kn ks) (v : Nat → Int) (v0 : v os.length ≤ 0) (hv : ∀ n, n < os.length → ∀ r ∈ stL ks os n f, v n ≤ r.1 + v r.2.1) : ∀ (j n : Nat), n + j = os.length → v n ≤ Lp ks os f n := by
  intro j
  induction j using Nat.strongRecOn with
  | ind j ih =>
    intro n e
    by_cases h : j = 0
    · subst h
      have : n = os.length := by omega
      subst this
      rw [Lp_end]
      exact v0
    · have hn : n < os.length := by omega
      rw [Lp_at K hn]
      have := minI_mem ((stL ks os n f).map fun r => r.1 + Lp ks os f r.2.1) (by simp [stL_ne])
      obtain ⟨r, hr, e2⟩ := List.mem_map.mp this
      rw [← e2]
      obtain ⟨h1, h2, h3⟩ := stL_mem K hn hr
      have a1 := hv n hn r hr
      have a2 := ih (os.length - r.2.1) (by omega) r.2.1 (by omega)
      omega

/-! prices_in -/
def EsOk (ks : List (List Int)) (os : List Int) (f : Int) (i : Nat) (es : List D) : Prop := es.length = i + 1 ∧ ∀ j, j ≤ i → ∃ x, es[j]? = some (.tup [.int ((tabL ks os f i).getD j 0), x])
def sp_prices_in : DC := fun ds S Q => ∃ ks os f, ds = [tK ks, tI os, .int f] ∧ Kn ks ∧ Oc os ∧ (0 ≤ f ∧ f ≤ 100) ∧
  ∀ p es S', S p = none → Sub S S' → S' p = some (.lst es) → es.length = os.length + 1 → (∀ n, n ≤ os.length → ∃ x, es[n]? = some (.tup [.int (Lp ks os f n), x])) → Q (.ref p) S'
theorem stL_few {ks : List (List Int)} {os : List Int} {n : Nat} {f : Int} (K : Kn ks) : (stL ks os n f).length ≤ 1000 := by
  have := stp_len os n f ks 0
  have := K.few
  simp only [stL, List.length_cons]
  omega
theorem p_prices_in : ∀ ds S Q, sp_prices_in ds S Q → t_prices_in sp_steps_at (endsD Q) (startD 11 ds) S := by
  rintro ds S Q ⟨ks, os, f, rfl, K, O, hf, h⟩
  have ho := O.few
  have big := big_line
  simp [t_prices_in, startD]
  refine ⟨by omega, by omega, fun p hp => ?_⟩
  refine for_at (items := intsFrom ((os.length : Int) - 1) (-1) os.length) (guard := fun _ => True) (S1 := put S p (.lst [.tup [.int 0, .non]]))
    (fun R r => ⟨_, rfl, _, _, rfl, by simp [tI]; omega, by
      have : ((os.map D.int).length - 1 - -1 : Int).toNat = os.length := by simp
      simpa [tI] using r⟩)
    (fun i ρ1 S2 => i ≤ os.length ∧ ∃ es, ρ1 = [some (tK ks), some (tI os), some (.int f), some (.ref p), none, none, none, none, none, none, none] ∧ S2 = put S p (.lst es) ∧ EsOk ks os f i es)
    ⟨Nat.zero_le _, _, rfl, rfl, rfl, fun j hj => ⟨.non, by rw [Nat.le_zero.mp hj]; rfl⟩⟩ ?_ ?_
  · rintro i d ρ1 S2 e ⟨_, es, rfl, rfl, el, ee⟩
    obtain ⟨hi, rfl⟩ := intsFrom_some e
    have at_eq : ((os.length : Int) - 1 + (i : Nat) * (-1)) = ((os.length - (i + 1) : Nat) : Int) := by omega
    rw [at_eq]
    generalize hn : os.length - (i + 1) = n at *
    have hn' : n < os.length := by omega
    refine ⟨trivial, _, rfl, ?_⟩
    simp
    refine ⟨_, rfl, _, rfl, _, rfl, _, rfl, ks, os, n, f, rfl, K, hn', fun q hq => ⟨_, .inl put_same, ?_⟩⟩
    have pq : p ≠ q := by rintro rfl; rw [put_same] at hq; cases hq
    have few := stL_few (os := os) (n := n) (f := f) K
    have es_at : ∀ r ∈ stL ks os n f, ∃ x, es[os.length - r.2.1]? = some (.tup [.int ((tabL ks os f i).getD (os.length - r.2.1) 0), x]) := fun r hr => by
      obtain ⟨_, h2, h3⟩ := stL_mem K hn' hr
      exact ee _ (by omega)
    refine ⟨St, stL ks os n f, stE, fun _ => true, fun r => .tup [.int (vl os (tabL ks os f i) r), .int (r.2.1 : Int), r.2.2], rfl, fun S2 u => .inl (u _ _ put_same), fun r hr S2 u => ⟨_, rfl, ?_⟩, by omega, fun q2 hq2 => ?_⟩
    · obtain ⟨_, h2, h3⟩ := stL_mem K hn' hr
      obtain ⟨x, hx⟩ := es_at r hr
      have at_es : S2 p = some (.lst es) := u _ _ (by rw [put_ne pq, put_same])
      simp [wipeD, setAll, tI, aLen, aSub]
      have idx : ((os.length : Int) - (r.2.1 : Int)) = ((os.length - r.2.1 : Nat) : Int) := by omega
      rw [idx]
      refine ix_lst at_es (by rw [at_nat]; exact hx) (ix_tup (at_zero _ _) ?_)
      simp [aAdd, vl]
      omega
    · have tn : ∀ r ∈ stL ks os n f, vl os (tabL ks os f i) r = vl os (tabL ks os f i) r := fun _ _ => rfl
      generalize ht : tabL ks os f i = t at *
      simp only [filter_yes]
      generalize hA : put (put S p (DO.lst es)) q (DO.lst (List.map stE (stL ks os n f))) = A at *
      have Ap : A p = some (.lst es) := by rw [← hA, put_ne pq, put_same]
      have pq2 : p ≠ q2 := by rintro rfl; rw [Ap] at hq2; cases hq2
      refine min_at (items := (stL ks os n f).map fun r => .tup [.int (vl os t r), .int (r.2.1 : Int), r.2.2]) (guard := _) (S1 := _) (fun R r => ⟨_, rfl, _, .inl put_same, r⟩) (stL ks os n f) (fun r => .tup [.int (vl os t r), .int (r.2.1 : Int), r.2.2]) (fun r => vl os t r) rfl
        (fun S2 u => .inl (u _ _ put_same)) (fun r hr S2 u => by simp [wipeD]; exact ix_tup (at_zero _ _) (by simp)) (by omega) stL_ne ?_
      generalize hm : minI ((stL ks os n f).map fun r => vl os t r) = m
      refine ⟨ty_lst (xs := es) (by rw [put_ne pq2]; exact Ap), ?_⟩
      refine lcP_at (items := (stL ks os n f).map fun r => .tup [.int (vl os t r), .int (r.2.1 : Int), r.2.2]) (guard := _) (S1 := _) (fun R r => ⟨_, rfl, _, .inl put_same, r⟩) (stL ks os n f) (fun r => .tup [.int (vl os t r), .int (r.2.1 : Int), r.2.2]) (fun r => decide (vl os t r = m)) (fun r => .tup [.int (r.2.1 : Int), r.2.2]) rfl
        (fun S2 u => .inl (u _ _ put_same)) (fun r hr S2 u => ⟨_, rfl, ?_⟩) (by omega) fun q3 hq3 => ?_
      · simp [wipeD]
        refine ix_tup (at_zero _ _) (aEq_int ?_)
        have cut := cut_from [D.int (vl os t r), D.int (r.2.1 : Int), r.2.2] 1
        by_cases c : vl os t r = m <;> simp [c, aSl]
        simpa [c] using cut
      · have mem : m ∈ (stL ks os n f).map fun r => vl os t r := by
          rw [← hm]
          exact minI_mem _ (by simp [stL_ne])
        obtain ⟨r0, hr0, e0⟩ := List.mem_map.mp mem
        have ne : (stL ks os n f).filter (fun r => decide (vl os t r = m)) ≠ [] := List.ne_nil_of_mem (List.mem_filter.mpr ⟨hr0, by simpa using e0⟩)
        obtain ⟨r1, rs, er⟩ := List.exists_cons_of_ne_nil ne
        rw [er, List.map_cons]
        have pq3 : p ≠ q3 := by
          rintro rfl
          rw [put_ne pq2, Ap] at hq3
          cases hq3
        have Bp : (put (put A q2 (DO.lst ((stL ks os n f).map fun r => D.tup [D.int (vl os t r), D.int (r.2.1 : Int), r.2.2]))) q3 (DO.lst (D.tup [D.int (r1.2.1 : Int), r1.2.2] :: rs.map fun r => D.tup [D.int (r.2.1 : Int), r.2.2]))) p = some (.lst es) := by
          rw [put_ne pq3, put_ne pq2]
          exact Ap
        refine ix_lst put_same (at_zero _ _) ⟨by omega, app_lst Bp (by omega) ?_⟩
        refine ⟨_, by simp, put S p (.lst (es ++ [.tup [.int m, .tup [.int (r1.2.1 : Int), r1.2.2]]])), ?_, by omega, rfl, _, rfl, by simp [el], fun j hj => ?_⟩
        · intro a o ea
          by_cases ap : a = p
          · subst ap
            rw [put_same] at ea ⊢
            exact ea
          · rw [put_ne ap] at ea ⊢
            have aq3 : a ≠ q3 := by
              rintro rfl
              have : A a = none := by
                by_cases z : a = q2
                · subst z; exact hq2
                · rwa [put_ne z] at hq3
              rw [← hA] at this
              by_cases z : a = q
              · subst z
                rw [put_ne ap, ea] at hq
                cases hq
              · rw [put_ne z, put_ne ap, ea] at this
                cases this
            have aq2 : a ≠ q2 := by
              rintro rfl
              rw [← hA] at hq2
              by_cases z : a = q
              · subst z
                rw [put_ne ap, ea] at hq
                cases hq
              · rw [put_ne z, put_ne ap, ea] at hq2
                cases hq2
            have aq : a ≠ q := by
              rintro rfl
              rw [put_ne ap, ea] at hq
              cases hq
            rw [put_ne aq3, put_ne aq2, ← hA, put_ne aq, put_ne ap]
            exact ea
        · by_cases c : j ≤ i
          · obtain ⟨x, hx⟩ := ee j c
            refine ⟨x, ?_⟩
            rw [List.getElem?_append_left (by omega), hx, tab_pre ks os f (i := j) (j := i) (m := i + 1) c (by omega), ht]
          · obtain rfl : j = i + 1 := by omega
            refine ⟨_, by rw [List.getElem?_append_right (by omega), el, Nat.sub_self, tab_new, hn, ht, ← hm]; rfl⟩
  · rintro ρ1 S2 ⟨_, es, rfl, rfl, el, ee⟩
    rw [intsFrom_len] at el ee
    refine ⟨trivial, ?_⟩
    simp
    refine ⟨_, .inl put_same, fun q hq => ?_⟩
    refine rtS (h q es.reverse _ ?_ (fun a o e => ?_) put_same (by simp [el]) fun n hn => ?_)
    · exact (Sub.new hp).free hq
    · have n1 : a ≠ p := by rintro rfl; rw [hp] at e; cases e
      have n2 : a ≠ q := by rintro rfl; rw [put_ne n1, e] at hq; cases hq
      rw [put_ne n2, put_ne n1, e]
    · obtain ⟨x, hx⟩ := ee (os.length - n) (by omega)
      refine ⟨x, ?_⟩
      rw [List.getElem?_reverse (by omega), el]
      have : os.length + 1 - 1 - n = os.length - n := by omega
      rw [this]
      exact hx
end DW.K48
namespace DW.K48
open PySem PySem.Spec PyProof.Rows L2
def sp_least_price : DC := fun ds S Q => ∃ ks os f, ds = [tK ks, tI os, .int f] ∧ Kn ks ∧ Oc os ∧ (0 ≤ f ∧ f ≤ 100) ∧ Q (.int (Lp ks os f 0)) S
def paper (ks : List (List Int)) (os : List Int) (f : Int) : List Int := (List.range (os.length + 1)).map (Lp ks os f)
def sp_price_paper : DC := fun ds S Q => ∃ ks os f b, ds = [tK ks, tI os, .int f, .int b] ∧ Kn ks ∧ Oc os ∧ (0 ≤ f ∧ f ≤ 100) ∧ (0 ≤ b ∧ b ≤ 1000000) ∧ Q (if b ≤ Lp ks os f 0 then tI (paper ks os f) else .non) S
theorem p_least_price : ∀ ds S Q, sp_least_price ds S Q → t_least_price sp_need_all sp_prices_in (endsD Q) (startD 3 ds) S := by
  rintro ds S Q ⟨ks, os, f, rfl, K, O, hf, h⟩
  simp [t_least_price, startD]
  refine ⟨ks, os, f, rfl, K, O, hf, ks, os, f, rfl, K, O, hf, fun p es S' hp u e el ee => ?_⟩
  obtain ⟨x, hx⟩ := ee 0 (Nat.zero_le _)
  refine ix_lst e (by rw [show (0 : Int) = ((0 : Nat) : Int) from rfl, at_nat]; exact hx) (ix_tup (at_zero _ _) ⟨S, u, h⟩)
theorem p_price_paper : ∀ ds S Q, sp_price_paper ds S Q → t_price_paper sp_need_all sp_is_whole sp_prices_in (endsD Q) (startD 7 ds) S := by
  rintro ds S Q ⟨ks, os, f, b, rfl, K, O, hf, hb, h⟩
  have ho := O.few
  have big := big_line
  simp [t_price_paper, startD]
  refine ⟨ks, os, f, rfl, K, O, hf, ?_⟩
  simp [sp_is_whole, tyD, whole, hb.1, hb.2]
  refine ⟨ks, os, f, rfl, K, O, hf, fun p es S' hp u e el ee => ?_⟩
  obtain ⟨x, hx⟩ := ee 0 (Nat.zero_le _)
  refine ix_lst e (by rw [show (0 : Int) = ((0 : Nat) : Int) from rfl, at_nat]; exact hx) (ix_tup (at_zero _ _) ?_)
  simp only [aCmp, fGe]
  by_cases c : b ≤ Lp ks os f 0
  · rw [if_pos c] at h
    simp [c]
    have es_eq : ∃ xs : List D, es = (List.range (os.length + 1)).map fun n => D.tup [.int (Lp ks os f n), xs.getD n .non] := by
      refine ⟨es.map fun d => match d with | .tup [_, x] => x | _ => .non, List.ext_getElem? fun n => ?_⟩
      by_cases hn : n ≤ os.length
      · obtain ⟨x, hx⟩ := ee n hn
        rw [hx, List.getElem?_map, List.getElem?_range (by omega)]
        simp [List.getD_eq_getElem?_getD, hx]
      · rw [List.getElem?_eq_none (by omega), List.getElem?_eq_none (by simp; omega)]
    obtain ⟨xs, rfl⟩ := es_eq
    refine lcP_at (items := (List.range (os.length + 1)).map fun n => D.tup [.int (Lp ks os f n), xs.getD n .non]) (guard := fun S => S p = some (.lst ((List.range (os.length + 1)).map fun n => D.tup [.int (Lp ks os f n), xs.getD n .non])) ∨ S p = some (.rls ((List.range (os.length + 1)).map fun n => D.tup [.int (Lp ks os f n), xs.getD n .non]))) (S1 := S') (fun R r => ⟨_, rfl, _, .inl e, r⟩)
      (List.range (os.length + 1)) (fun n => D.tup [.int (Lp ks os f n), xs.getD n .non]) (fun _ => true) (fun n => .int (Lp ks os f n)) rfl (fun S2 v => .inl (v _ _ e)) (fun n hn S2 v => ⟨_, rfl, ?_⟩) (by simp; omega) fun q hq => ?_
    · simp [wipeD, setAll]
    · rw [filter_yes]
      refine .inr ⟨q, _, rfl, .inl put_same, S, ?_, ?_⟩
      · rw [if_pos rfl, del_put hq]
        exact u
      · simpa [tI, paper, List.map_map, Function.comp_def] using h
  · rw [if_neg c] at h
    simp [c]
    exact ⟨S, u, h⟩
/-! is_price_paper -/
def okAt (ks : List (List Int)) (os : List Int) (f : Int) (vs : List Int) (n : Nat) : Bool := (stL ks os n f).all fun r => decide (vs.getD n 0 ≤ r.1 + vs.getD r.2.1 0)
def paperB (ks : List (List Int)) (os : List Int) (f b : Int) (vs : List Int) : Bool := !(decide (vs.getD 0 0 < b) || decide (vs.getD os.length 0 > 0)) && (List.range os.length).all (okAt ks os f vs)
/-- no paper by its form -/
def badV (S : Sto) (n : Nat) (d : D) : Prop := (tyD S d).isSome = true ∧ (tupLen d ((n : Int) + 1) ((n : Int) + 1) = false ∨ ∃ xs, d = .tup xs ∧ xs.length = n + 1 ∧ (∀ x ∈ xs, (tyD S x).isSome = true) ∧ (xs.all fun x => whole x 0 1000000) = false)
def sp_is_price_paper : DC := fun ds S Q => ∃ ks os f b d, ds = [tK ks, tI os, .int f, .int b, d] ∧ Kn ks ∧ Oc os ∧ (0 ≤ f ∧ f ≤ 100) ∧ (0 ≤ b ∧ b ≤ 1000000) ∧
  ((badV S os.length d ∧ Q (.bl false) S) ∨ ∃ vs, d = tI vs ∧ vs.length = os.length + 1 ∧ (∀ v ∈ vs, 0 ≤ v ∧ v ≤ 1000000) ∧ Q (.bl (paperB ks os f b vs)) S)
theorem p_is_price_paper : ∀ ds S Q, sp_is_price_paper ds S Q → t_is_price_paper sp_need_all sp_is_whole sp_is_tuple_of sp_steps_at (endsD Q) (startD 12 ds) S := by
  rintro ds S Q ⟨ks, os, f, b, d, rfl, K, O, hf, hb, h⟩
  have ho := O.few
  have big := big_line
  simp [t_is_price_paper, startD]
  refine ⟨ks, os, f, rfl, K, O, hf, ?_⟩
  simp [sp_is_whole, tyD, whole, hb.1, hb.2, aLen, tI, aAdd, sp_is_tuple_of]
  have hok : (tyD S d).isSome = true := by
    rcases h with ⟨⟨h, _⟩, _⟩ | ⟨vs, rfl, _⟩
    · exact h
    · rfl
  refine ⟨hok, ?_⟩
  rcases h with ⟨⟨_, hbad⟩, h⟩ | ⟨vs, rfl, vl, vr, h⟩
  · rcases hbad with hbad | ⟨xs, rfl, xl, xt, xw⟩
    · exact .inl ⟨hbad, rtS h⟩
    · refine .inr ⟨by simp [tupLen, xl], ?_⟩
      refine all_at (items := xs) (guard := fun _ => True) (S1 := S) (fun R r => ⟨_, rfl, r⟩) (fun x => whole x 0 1000000) (fun _ _ => trivial) (fun x hx S2 u => ?_) (by omega) ?_
      · simp [wipeD, sp_is_whole]
        exact tyD_subS u (xt x hx)
      · exact .inl ⟨by rw [xw], rtS h⟩
  · refine .inr ⟨by simp [tupLen, tI, vl], ?_⟩
    refine all_at (items := vs.map .int) (guard := fun _ => True) (S1 := S) (fun R r => ⟨_, rfl, r⟩) (fun x => whole x 0 1000000) (fun _ _ => trivial) (fun x hx S2 u => ?_) (by simp; omega) ?_
    · simp [wipeD, sp_is_whole]
      obtain ⟨v, hv, rfl⟩ := List.mem_map.mp hx
      rfl
    · refine .inr ⟨?_, ?_⟩
      · congr 1
        rw [List.all_eq_true]
        intro x hx
        obtain ⟨v, hv, rfl⟩ := List.mem_map.mp hx
        simp [whole]
        exact vr v hv
      have vat : ∀ n, n ≤ os.length → atI (vs.map D.int) ((n : Nat) : Int) = some (.int (vs.getD n 0)) := fun n hn => by
        rw [at_nat, List.getElem?_map, List.getD_eq_getElem?_getD, List.getElem?_eq_getElem (by omega)]
        rfl
      have vlast : atI (vs.map D.int) (-1) = some (.int (vs.getD os.length 0)) := by
        rw [at_last _ (by intro z; rw [List.map_eq_nil_iff] at z; subst z; simp at vl), List.length_map, vl, Nat.add_sub_cancel, ← at_nat]
        exact vat _ (Nat.le_refl _)
      refine ix_tup (vat 0 (Nat.zero_le _)) ?_
      simp only [aCmp, fLt]
      unfold paperB at h
      by_cases c1 : vs.getD 0 0 < b
      · simp only [c1, decide_true, Bool.true_or, Bool.not_true, Bool.false_and] at h ⊢
        exact .inr ⟨trivial, rtS h⟩
      · simp only [c1, decide_false, Bool.false_or] at h ⊢
        refine .inl ⟨trivial, ix_tup vlast ?_⟩
        simp only [aCmp, fGt]
        by_cases c2 : vs.getD os.length 0 > 0
        · simp only [c2, decide_true, Bool.not_true, Bool.false_and] at h ⊢
          exact .inr ⟨trivial, rtS h⟩
        · simp only [c2, decide_false, Bool.not_false, Bool.true_and] at h ⊢
          refine .inl ⟨trivial, ?_⟩
          refine for_at (items := intsFrom 0 1 os.length) (guard := fun _ => True) (S1 := S) (fun R r => ⟨_, rfl, (os.length : Int), by simp, by omega, by omega, by simpa using r⟩)
            (fun i ρ1 S2 => i ≤ os.length ∧ ρ1 = [some (tK ks), some (D.tup (os.map D.int)), some (.int f), some (.int b), some (tI vs), some (.int ((os.length : Int) + 1)), none, none, none, none, none, none] ∧ S2 = S ∧ ∀ n, n < i → okAt ks os f vs n = true)
            ⟨Nat.zero_le _, rfl, rfl, fun n hn => by omega⟩ ?_ ?_
          · rintro i d ρ1 S2 e ⟨_, rfl, rfl, hi⟩
            obtain ⟨hlt, rfl⟩ := intsFrom_some e
            have iz : (0 : Int) + (i : Nat) * 1 = (i : Int) := by omega
            rw [iz]
            refine ⟨trivial, _, rfl, ?_⟩
            simp
            refine ⟨ks, os, i, f, rfl, K, hlt, fun q hq => ?_⟩
            have few := stL_few (os := os) (n := i) (f := f) K
            refine any_gen (items := (stL ks os i f).map stE) (guard := _) (S1 := _) (fun R r => ⟨_, rfl, _, .inl put_same, r⟩) (stL ks os i f) stE (fun r => decide (vs.getD i 0 > r.1 + vs.getD r.2.1 0)) rfl (fun S3 u => .inl (u _ _ put_same)) (fun r hr S3 u => ⟨_, rfl, ?_⟩) (by omega) ?_
            · obtain ⟨_, h2, h3⟩ := stL_mem K hlt hr
              simp [wipeD, setAll]
              refine ix_tup (vat i (by omega)) (ix_tup (vat r.2.1 h3) ?_)
              simp [aAdd, aCmp, fGt]
            · have any_ok : ((stL ks os i f).any fun r => decide (vs.getD i 0 > r.1 + vs.getD r.2.1 0)) = !okAt ks os f vs i := by
                unfold okAt
                rw [List.any_eq_not_all_not]
                congr 2
                funext r
                generalize vs.getD i 0 = a
                generalize r.1 + vs.getD r.2.1 0 = b'
                by_cases c : a ≤ b'
                · rw [decide_eq_false (by omega), decide_eq_true c]; rfl
                · rw [decide_eq_true (by omega), decide_eq_false c]; rfl
              rw [any_ok]
              cases c : okAt ks os f vs i with
              | true =>
                refine .inl ⟨rfl, _, by simp, S2, Sub.new hq, by omega, rfl, rfl, fun n hn => ?_⟩
                by_cases z : n = i
                · rw [z]; exact c
                · exact hi n (by omega)
              | false =>
                refine .inr ⟨rfl, S2, Sub.new hq, ?_⟩
                have : (List.range os.length).all (okAt ks os f vs) = false := by
                  rw [List.all_eq_false]
                  exact ⟨i, List.mem_range.mpr hlt, by simp [c]⟩
                rwa [this] at h
          · rintro ρ1 S2 ⟨_, rfl, rfl, hi⟩
            rw [intsFrom_len] at hi
            refine ⟨trivial, ?_⟩
            simp
            have : (List.range os.length).all (okAt ks os f vs) = true := by
              rw [List.all_eq_true]
              exact fun n hn => hi n (List.mem_range.mp hn)
            rw [this] at h
            exact rtS h
end DW.K48
namespace DW.K48
open PySem PySem.Spec PyProof.Rows L2
theorem t_cup : t__law_cup = r_cup 167 431 4607 2077503101 301 := rfl
theorem t_roll : t__law_roll = r_roll 31387 8311 2147483399 489 2147483563 797 := rfl
theorem t_some : t__law_some = r_some := rfl
theorem t_same : t__law_same = r_same dNo := rfl
def sp_file : DC := fun ds S Q => ∃ c m, ds = [.ref c, .int m] ∧ cupAt S c ∧ 0 ≤ m ∧ m ≤ 1000 ∧ ∀ os S', (os.length : Int) ≤ m → (∀ o ∈ os, 0 ≤ o ∧ o ≤ 255) → Drawn c S S' → Q (tI os) S'
theorem p_file : ∀ ds S Q, sp_file ds S Q → t__law_file sp_roll sp_some (endsD Q) (startD 4 ds) S := by
  rintro ds S Q ⟨c, m, rfl, cup, h0, h1, h⟩
  have big := big_line
  simp [t__law_file, startD]
  refine ⟨c, 256, rfl, cup, by decide, by decide, fun b S1 hb0 hb1 D1 => ?_⟩
  simp [e_lc, e_rng1, aAdd]
  refine ⟨c, _, rfl, D1.cup, by omega, by omega, fun r S2 hr0 hr1 D2 => ?_⟩
  simp
  refine ⟨by omega, by omega, ?_⟩
  refine tup_draw D2.cup isByte (fun _ _ => trivial) (fun d hd S3 D3 => ⟨_, rfl, fun R hR => ?_⟩) (by rw [intsFrom_len]; omega) fun ys S3 hl hA D3 => ?_
  · simp [wipeD]
    refine ⟨c, 256, rfl, D3.cup, by decide, by decide, fun x S4 hx0 hx1 D4 => ?_⟩
    refine ⟨by omega, fun p hp => ?_⟩
    refine ⟨c, .ref p, _, rfl, (D4.new hp).cup, .inr ⟨p, rfl, put_same⟩, fun q e => ?_, by simp, by simp, fun y hy S5 D5 => hR y S5 ((D4.new hp).trans D5) ?_⟩
    · cases e
      exact (D4.free hp).2
    · simp at hy
      rcases hy with rfl | rfl
      · exact ⟨b, rfl, by omega, by omega⟩
      · exact ⟨x, rfl, by omega, by omega⟩
  · obtain ⟨os, rfl, hb⟩ := bytes_of hA
    rw [List.length_map, intsFrom_len] at hl
    exact rtS (h os S3 (by omega) hb (D1.trans (D2.trans D3)))
end DW.K48
namespace DW.K48
open PySem PySem.Spec PyProof.Rows L2
def isBs (n : Nat) (d : D) : Prop := ∃ os : List Int, d = tI os ∧ os.length ≤ n ∧ ∀ o ∈ os, 0 ≤ o ∧ o ≤ 255
def sp_octets : DC := fun ds S Q => ∃ c m, ds = [.ref c, .int m] ∧ cupAt S c ∧ 1 ≤ m ∧ m ≤ 100 ∧ ∀ os S', (os.length : Int) ≤ 4 * m → (∀ o ∈ os, 0 ≤ o ∧ o ≤ 255) → Drawn c S S' → Q (tI os) S'
theorem p_octets : ∀ ds S Q, sp_octets ds S Q → t__law_octets sp_roll sp_some sp_file (endsD Q) (startD 5 ds) S := by
  rintro ds S Q ⟨c, m, rfl, cup, h0, h1, h⟩
  have big := big_line
  simp [t__law_octets, startD, e_for, e_rng1]
  refine ⟨c, 4, rfl, cup, by decide, by decide, fun n S1 hn0 hn1 D1 => ?_⟩
  simp
  refine ⟨by omega, by omega, ?_⟩
  refine for_b (fun i ρ1 S2 => i ≤ 3 ∧ ∃ os : List Int, ρ1 = [some (.ref c), some (.int m), some (tI os), none, none] ∧ Drawn c S S2 ∧ os.length ≤ 500 * 2 ^ i ∧ ∀ o ∈ os, 0 ≤ o ∧ o ≤ 255)
    ⟨by omega, [], rfl, D1, by simp, by simp⟩ ?_ ?_
  · rintro i d ρ1 S2 e ⟨_, os, rfl, D2, hl, hb⟩
    obtain ⟨hi, rfl⟩ := intsFrom_some e
    refine ⟨trivial, _, rfl, ?_⟩
    simp [e_lc, e_rng1]
    refine ⟨c, m, rfl, D2.cup, by omega, by omega, fun o1 S3 l1 b1 D3 => ?_⟩
    refine ⟨c, 6, rfl, D3.cup, by decide, by decide, fun o2 S4 l2 b2 D4 => ?_⟩
    refine ⟨by decide, by decide, by simp; omega, ?_⟩
    simp [tI, aSl, aFdiv]
    refine ⟨by omega, by omega, ?_⟩
    refine tup_draw D4.cup isByte (fun _ _ => trivial) (fun d hd S5 D5 => ⟨_, rfl, fun R hR => ?_⟩) (by rw [intsFrom_len]; omega) fun ys S5 hl5 hA D5 => ?_
    · simp [wipeD]
      exact ⟨c, 256, rfl, D5.cup, by decide, by decide, fun x S4 hx0 hx1 D4 => hR _ _ D4 ⟨x, rfl, hx0, by omega⟩⟩
    · obtain ⟨o4, rfl, b4⟩ := bytes_of hA
      rw [List.length_map, intsFrom_len] at hl5
      obtain ⟨o3, e3, s3, l3⟩ := cut_ints os (some (-9)) none
      rw [e3]
      refine ⟨by omega, fun p hp => ?_⟩
      have p2 : 1 ≤ 2 ^ i := Nat.one_le_two_pow
      have rep : o2.map D.int ++ (o2.map D.int ++ o2.map D.int) = (o2 ++ o2 ++ o2).map D.int := by simp
      refine ⟨c, .ref p, _, rfl, (D5.new hp).cup, .inr ⟨p, rfl, put_same⟩, fun q e => ?_, by simp, by simp, fun y hy S6 D6 => ?_⟩
      · cases e
        exact (D5.free hp).2
      · have D26 := D3.trans (D4.trans ((D5.new hp).trans D6))
        have yb : isBs (500 * 2 ^ i) y := by
          simp only [List.mem_cons, List.not_mem_nil, or_false] at hy
          rcases hy with rfl | rfl | rfl | rfl
          · exact ⟨o1, rfl, by omega, b1⟩
          · refine ⟨o2 ++ o2 ++ o2, congrArg D.tup rep, by simp; omega, fun o ho => ?_⟩
            simp at ho
            exact b2 o ho
          · exact ⟨o3, rfl, by omega, fun o ho => hb o (s3 o ho)⟩
          · exact ⟨o4, rfl, by omega, b4⟩
        obtain ⟨oy, rfl, ly, by'⟩ := yb
        have p3 : 2 ^ i ≤ 4 := by
          have : i ≤ 2 := by omega
          exact Nat.le_trans (Nat.pow_le_pow_right (by decide) this) (by decide)
        simp [aAdd, tI]
        refine ⟨by omega, [some (.ref c), some (.int m), some (tI (os ++ oy)), none, none], by simp [tI], S6, Sub.refl, by omega, os ++ oy, rfl, D2.trans D26, ?_, fun o ho => ?_⟩
        · rw [List.length_append, Nat.pow_succ]
          omega
        · rcases List.mem_append.mp ho with ho | ho
          · exact hb o ho
          · exact by' o ho
  · rintro ρ1 S2 ⟨_, os, rfl, D2, hl, hb⟩
    refine ⟨trivial, ?_⟩
    have mul : aMul2 (.int 4) (.int m) = fun S Q => mulOk 4 m ∧ Q (.int (4 * m)) S := rfl
    have mok : mulOk 4 m := .inl ⟨by omega, by omega⟩
    simp [mul, mok, aSl, tI]
    have : (4 * m) = ((4 * m).toNat : Int) := by omega
    rw [this, cut_to, ← List.map_take]
    exact rtS (h (os.take (4 * m).toNat) S2 (by simp; omega) (fun o ho => hb o (List.mem_of_mem_take ho)) D2)
end DW.K48
namespace DW.K48
open PySem PySem.Spec PyProof.Rows L2
theorem nks_ints : ∀ ns : List Int, ∃ ks, D.nks (ns.map .int) = some ks ∧ NestedKey.depth (.tup ks) ≤ 1
  | [] => ⟨[], rfl, by simp [NestedKey.depth, NestedKey.depthAll]⟩
  | n :: ns => by
    obtain ⟨ks, h1, h2⟩ := nks_ints ns
    refine ⟨.num n :: ks, by simp [D.nks, D.nk, h1], ?_⟩
    simp [NestedKey.depth, NestedKey.depthAll] at h2 ⊢
    omega
theorem nk_ints (ns : List Int) : ∃ k, (tI ns).nk = some k ∧ k.depth ≤ 8 := by
  obtain ⟨ks, h1, h2⟩ := nks_ints ns
  exact ⟨.tup ks, by simp [tI, D.nk, h1], by omega⟩
theorem tI_tk (ns : List Int) : isTK (tI ns) := by
  obtain ⟨k, h1, h2⟩ := nk_ints ns
  exact ⟨_, k, rfl, h1, h2⟩
/-- the dict of known chunks -/
def kv (ks : List (List Int)) : List (D × D) := ks.map fun k => (tI k, .int 1)
theorem look_kv (ks : List (List Int)) (k : List Int) : (lookD (kv ks) (tI k)).isSome = decide (k ∈ ks) := by
  induction ks with
  | nil => rfl
  | cons x ks ih =>
    unfold kv lookD at ih ⊢
    rw [List.map_cons, List.find?_cons]
    by_cases h : x = k
    · subst h
      simp
    · have : ¬ tI x = tI k := fun e => h (tI_inj e)
      simp only [this, decide_false]
      rw [ih]
      simp [Ne.symm h]
theorem put_kv (ks : List (List Int)) (k : List Int) : putD (kv ks) (tI k) (.int 1) = kv (if k ∈ ks then ks else ks ++ [k]) := by
  unfold putD
  rw [look_kv]
  by_cases h : k ∈ ks
  · rw [if_pos (by simpa using h), if_pos h]
    unfold kv
    rw [List.map_map]
    refine List.map_congr_left fun x hx => ?_
    simp only [Function.comp]
    split
    · next e => simp
    · rfl
  · rw [if_neg (by simpa using h), if_neg h]
    simp [kv]
structure KnG (n : Nat) (ks : List (List Int)) : Prop where
  few : ks.length ≤ n
  nd : ks.Nodup
  ok : ∀ k ∈ ks, k ≠ [] ∧ k.length ≤ 10 ∧ ∀ x ∈ k, 0 ≤ x ∧ x ≤ 255
def sp_known : DC := fun ds S Q => ∃ c os, ds = [.ref c, tI os] ∧ cupAt S c ∧ Oc os ∧ ∀ ks S', Kn ks → Drawn c S S' → Q (tK ks) S'
theorem p_known : ∀ ds S Q, sp_known ds S Q → t__law_known sp_roll sp_some sp_file (endsD Q) (startD 6 ds) S := by
  rintro ds S Q ⟨c, os, rfl, cup, O, h⟩
  have big := big_line
  have ho := O.few
  simp [t__law_known, startD, e_for, e_rng1, aLen]
  intro p hp
  have D0 := (Drawn.refl cup).new hp (o := .dic [])
  have pc := ((Drawn.refl cup).free hp).2
  refine ⟨c, 4, rfl, D0.cup, by decide, by decide, fun n S1 hn0 hn1 D1 => ?_⟩
  simp
  refine ⟨by omega, by omega, ?_⟩
  refine for_b (fun i ρ1 S2 => ∃ ks, ρ1 = [some (.ref c), some (tI os), some (.ref p), none, none, none] ∧ Drawn c S S2 ∧ S2 p = some (.dic (kv ks)) ∧ KnG i ks)
    ⟨[], rfl, D0.trans D1, D1.2 p _ pc put_same, ⟨Nat.le_refl _, List.nodup_nil, fun k hk => by cases hk⟩⟩ ?_ ?_
  · rintro i d ρ1 S2 e ⟨ks, rfl, D2, e2, G⟩
    obtain ⟨hi, rfl⟩ := intsFrom_some e
    refine ⟨trivial, _, rfl, ?_⟩
    simp [tI, aLen, aAdd]
    refine ⟨c, _, rfl, D2.cup, by omega, by omega, fun a S3 a0 a1 D3 => ?_⟩
    simp [aAdd]
    refine ⟨c, 4, rfl, D3.cup, by decide, by decide, fun r S4 r0 r1 D4 => ?_⟩
    simp [aAdd, aSl]
    refine ⟨c, 4, rfl, D4.cup, by decide, by decide, fun o2 S5 l2 b2 D5 => ?_⟩
    obtain ⟨a, rfl⟩ : ∃ k : Nat, a = k := ⟨a.toNat, by omega⟩
    obtain ⟨r, rfl⟩ : ∃ k : Nat, r = k := ⟨r.toNat, by omega⟩
    have cut : cutD (os.map D.int) (some (a : Int)) (some ((a : Int) + 1 + (r : Int))) = ((os.drop a).take (1 + r)).map D.int := by
      have := cut_nat (os.map D.int) a (a + 1 + r)
      have e : a + 1 + r - a = 1 + r := by omega
      rw [e] at this
      simpa [List.map_take, List.map_drop] using this
    rw [cut]
    refine ⟨by omega, fun q hq => ?_⟩
    refine ⟨c, .ref q, _, rfl, (D5.new hq).cup, .inr ⟨q, rfl, put_same⟩, fun q' e => ?_, by simp, by simp, fun y hy S6 D6 => ?_⟩
    · cases e
      exact (D5.free hq).2
    · have D26 := D3.trans (D4.trans ((D5.new hq).trans D6))
      have yb : isBs 10 y := by
        simp only [List.mem_cons, List.not_mem_nil, or_false] at hy
        rcases hy with rfl | rfl
        · exact ⟨(os.drop a).take (1 + r), rfl, by simp; omega, fun o ho => O.ok o (List.mem_of_mem_drop (List.mem_of_mem_take ho))⟩
        · exact ⟨o2, rfl, by omega, b2⟩
      obtain ⟨k, rfl, lk, bk⟩ := yb
      have e6 : S6 p = some (.dic (kv ks)) := D26.2 p _ pc e2
      refine ⟨ty_dic e6, aNe_cl (cl_tI _ k) rfl ?_⟩
      have gi : G = G := rfl
      by_cases ck : k = []
      · subst ck
        simp [tI]
        intro q2 hq2
        have pq2 : p ≠ q2 := by rintro rfl; rw [e6] at hq2; cases hq2
        have q2c := ((D2.trans D26).free hq2).2
        refine ⟨p, q2, kv ks, [], rfl, rfl, pq2, by rw [put_ne pq2]; exact e6, put_same, ?_, ?_, ?_⟩
        · have := G.few
          simp [kv]; omega
        · exact .inr ⟨fun x hx => by obtain ⟨z, _, rfl⟩ := List.mem_map.mp hx; exact ⟨_, rfl⟩, fun x hx => by (cases hx), .inr (by simp)⟩
        · rw [if_pos rfl, upd_gone hq2 pq2]
          exact ⟨[some (.ref c), some (tI os), some (.ref p), none, none, none], by simp [tI], _, Sub.refl, rfl, (D2.trans D26).set hp pc, ks, put_same, ⟨by have := G.few; omega, G.nd, G.ok⟩⟩
      · have : ¬ D.tup (k.map D.int) = D.tup [] := fun z => ck (tI_inj (a := k) (b := []) z)
        simp [this, tI, ck, e_dict1]
        intro q2 hq2
        have pq2 : p ≠ q2 := by rintro rfl; rw [e6] at hq2; cases hq2
        refine ⟨put_same, tI_tk k, ?_⟩
        rw [put_put]
        refine ⟨p, q2, kv ks, [(tI k, .int 1)], rfl, rfl, pq2, by rw [put_ne pq2]; exact e6, put_same, ?_, ?_, ?_⟩
        · have := G.few
          simp [kv]; omega
        · exact .inr ⟨fun x hx => by obtain ⟨z, _, rfl⟩ := List.mem_map.mp hx; exact ⟨_, rfl⟩, fun x hx => by rw [List.mem_singleton.mp hx]; exact ⟨_, rfl⟩, .inr (by simp)⟩
        · rw [if_pos rfl, upd_gone hq2 pq2]
          have mg : mergeD (kv ks) [(tI k, .int 1)] = kv (if k ∈ ks then ks else ks ++ [k]) := put_kv ks k
          rw [mg]
          refine ⟨[some (.ref c), some (tI os), some (.ref p), none, none, none], by simp [tI], _, Sub.refl, rfl, (D2.trans D26).set hp pc, _, put_same, ?_⟩
          by_cases cm : k ∈ ks
          · rw [if_pos cm]
            exact ⟨by have := G.few; omega, G.nd, G.ok⟩
          · rw [if_neg cm]
            refine ⟨by have := G.few; simp; omega, ?_, fun x hx => ?_⟩
            · rw [List.nodup_append]
              refine ⟨G.nd, by simp, fun a ha b hb => ?_⟩
              rw [List.mem_singleton.mp hb]
              rintro rfl
              exact cm ha
            · rcases List.mem_append.mp hx with hx | hx
              · exact G.ok x hx
              · rw [List.mem_singleton.mp hx]
                exact ⟨ck, lk, bk⟩
  · rintro ρ1 S2 ⟨ks, rfl, D2, e2, G⟩
    refine ⟨trivial, ?_⟩
    simp [aList, e2]
    intro l hl
    have G3 := G.few
    rw [intsFrom_len] at G3
    have lc := (D2.free hl).2
    have S_l := (D2.free hl).1
    refine .inr ⟨l, _, rfl, .inl put_same, rtS ?_⟩
    rw [if_pos rfl, del_put hl]
    have := h ks S2 ⟨by omega, G.nd, fun k hk => ⟨(G.ok k hk).1, by have := (G.ok k hk).2.1; omega, (G.ok k hk).2.2⟩⟩ D2
    simpa [tK, kv, List.map_map, Function.comp_def] using this
end DW.K48
namespace DW.K48
open PySem PySem.Spec PyProof.Rows L2
def stD2 (r : St) : D := .tup [.int r.1, .int (r.2.1 : Int)]
theorem stp_filter (os : List Int) (n : Nat) (f : Int) : ∀ (l : List (List Int)) (i : Nat), (stp os n f i l).map stD2 = (l.filter (hit os n)).map fun k => .tup [.int f, .int ((n + k.length : Nat) : Int)]
  | [], _ => rfl
  | k :: l, i => by
    have := stp_filter os n f l (i + 1)
    simp only [stp, List.map_append, this]
    cases c : hit os n k <;> simp [c, stD2]
def sp_lsteps : DC := fun ds S Q => ∃ ks os n f, ds = [tK ks, tI os, .int ((n : Nat) : Int), .int f] ∧ Kn ks ∧ n < os.length ∧ ∀ p S', S p = none → Sub S S' → S' p = some (.lst ((stL ks os n f).map stD2)) → Q (.ref p) S'
theorem p_lsteps : ∀ ds S Q, sp_lsteps ds S Q → t__law_steps (endsD Q) (startD 5 ds) S := by
  rintro ds S Q ⟨ks, os, n, f, rfl, K, hn, h⟩
  have big := big_line
  have few := K.few
  simp [t__law_steps, startD, aAdd, e_lcP, e_seq]
  refine ⟨by omega, by omega, fun p hp => ?_⟩
  rw [show tK ks = D.tup (ks.map tI) from rfl, seqR_tup]
  refine lcP_b ks tI (hit os n) (fun k => .tup [.int f, .int ((n + k.length : Nat) : Int)]) rfl (fun _ _ => trivial) (fun k hk S2 u => ⟨_, rfl, ?_⟩) (by omega) fun q hq => ?_
  · simp [wipeD, tI, aLen, aAdd, aSl]
    have cut : cutD (os.map D.int) (some (n : Int)) (some ((n : Int) + (k.length : Int))) = ((os.drop n).take k.length).map D.int := by
      have := cut_nat (os.map D.int) n (n + k.length)
      rw [Nat.add_sub_cancel_left] at this
      simpa [List.map_take, List.map_drop] using this
    rw [cut]
    refine aEq_cl (cl_tI _ _) (cl_tI _ _) ?_
    have dec : decide (D.tup (((os.drop n).take k.length).map D.int) = D.tup (k.map D.int)) = hit os n k := by
      unfold hit
      exact decide_eq_decide.mpr tI_eq
    rw [dec]
    cases hit os n k <;> simp
    omega
  · have pq : p ≠ q := by rintro rfl; rw [put_same] at hq; cases hq
    refine ⟨[.tup [.int 1, .int ((n : Int) + 1)]], (by rw [put_ne pq, put_same]), _, put_same, ?_, fun r hr => ?_⟩
    · have := List.length_filter_le (hit os n) ks
      simp; omega
    · refine rtS (h r _ ?_ (((Sub.new hp).trans (Sub.new hq)).trans (Sub.new hr)) ?_)
      · exact ((Sub.new hp).trans (Sub.new hq)).free hr
      · rw [put_same]
        simp [stL, stp_filter, stD2]
/-! _law_least -/
def lkv (ks : List (List Int)) (os : List Int) (f : Int) (i : Nat) : List (D × D) := (List.range (i + 1)).map fun j => (D.int ((os.length - j : Nat) : Int), D.int (Lp ks os f (os.length - j)))
theorem lkv_leaf (ks : List (List Int)) (os : List Int) (f : Int) (i : Nat) : ∀ kv ∈ lkv ks os f i, isLeaf kv.1 := fun kv h => by
  obtain ⟨j, _, rfl⟩ := List.mem_map.mp h
  exact leaf_int _
theorem find_range (P : Nat → Bool) (m j : Nat) (hj : j < m) (hp : P j = true) (hu : ∀ k, k < m → P k = true → k = j) : (List.range m).find? P = some j := by
  rw [List.find?_eq_some_iff_getElem]
  refine ⟨hp, j, by simpa using hj, by simp, fun k hk => ?_⟩
  cases c : P ((List.range m)[k]'(by simp; omega)) with
  | false => rfl
  | true =>
    have := hu _ (by simp; omega) c
    simp at this
    omega
theorem lkv_look (ks : List (List Int)) (os : List Int) (f : Int) {i n : Nat} (hi : i ≤ os.length) (h1 : os.length - i ≤ n) (h2 : n ≤ os.length) : lookD (lkv ks os f i) (.int (n : Int)) = some (.int (Lp ks os f n)) := by
  unfold lookD lkv
  rw [List.find?_map]
  have := find_range ((fun kv => decide (kv.1 = D.int (n : Int))) ∘ fun j => (D.int ((os.length - j : Nat) : Int), D.int (Lp ks os f (os.length - j)))) (i + 1) (os.length - n) (by omega) (by
      simp only [Function.comp]
      refine decide_eq_true ?_
      congr 1
      omega) (fun k hk e => by
      simp only [Function.comp] at e
      have e := D.int.inj (of_decide_eq_true e)
      omega)
  rw [this]
  simp only [Option.map_some]
  congr 3
  omega
theorem lkv_none (ks : List (List Int)) (os : List Int) (f : Int) {i n : Nat} (hi : i ≤ os.length) (h1 : n < os.length - i) : lookD (lkv ks os f i) (.int (n : Int)) = none := by
  unfold lookD lkv
  rw [List.find?_map, List.find?_eq_none.mpr]
  · rfl
  · intro k hk e
    have hk := List.mem_range.mp hk
    simp only [Function.comp] at e
    have e := D.int.inj (of_decide_eq_true e)
    omega
def sp_least : DC := fun ds S Q => ∃ ks os f, ds = [tK ks, tI os, .int f] ∧ Kn ks ∧ Oc os ∧ ∀ p kvs S', S p = none → Sub S S' → S' p = some (.dic kvs) → (∀ kv ∈ kvs, isLeaf kv.1) → lookD kvs (.int 0) = some (.int (Lp ks os f 0)) → Q (.ref p) S'
theorem p_least : ∀ ds S Q, sp_least ds S Q → t__law_least sp_lsteps (endsD Q) (startD 8 ds) S := by
  rintro ds S Q ⟨ks, os, f, rfl, K, O, h⟩
  have big := big_line
  have ho := O.few
  simp [t__law_least, startD, aLen, tI, e_dict1, e_for, e_rng1]
  intro p hp
  refine ⟨put_same, leaf_int _, ?_⟩
  refine ⟨by omega, ?_⟩
  rw [put_put]
  refine for_b (fun i ρ1 S2 => i ≤ os.length ∧ ρ1 = [some (tK ks), some (tI os), some (.int f), some (.ref p), none, none, none, none] ∧ S2 = put S p (.dic (lkv ks os f i)))
    ⟨Nat.zero_le _, rfl, by simp [lkv, Lp_end]⟩ ?_ ?_
  · rintro i d ρ1 S2 e ⟨_, rfl, rfl⟩
    obtain ⟨hi, rfl⟩ := intsFrom_some e
    refine ⟨trivial, _, rfl, ?_⟩
    have at_eq : ((os.length : Int) - 1 - (i : Int)) = ((os.length - (i + 1) : Nat) : Int) := by omega
    simp [aSub, aLen, tI, e_lcP, e_seq]
    rw [at_eq]
    generalize hn : os.length - (i + 1) = n at *
    have hn' : n < os.length := by omega
    refine ⟨ks, os, n, f, rfl, K, hn', fun q S3 hq u e3 => seqR_lst e3 ?_⟩
    have e3p : S3 p = some (.dic (lkv ks os f i)) := u _ _ put_same
    have few := stL_few (os := os) (n := n) (f := f) K
    refine lcP_b (stL ks os n f) stD2 (fun _ => true) (fun r => .int (r.1 + Lp ks os f r.2.1)) rfl (fun S4 v => .inl (v _ _ e3)) (fun r hr S4 v => ⟨_, rfl, ?_⟩) (by omega) fun q2 hq2 => ?_
    · obtain ⟨_, h2, h3⟩ := stL_mem K hn' hr
      simp [wipeD, setAll]
      refine ix_dic (v _ _ e3p) (.inl ⟨leaf_int _, lkv_leaf _ _ _ _⟩) (lkv_look ks os f (by omega) (by omega) h3) ?_
      simp [aAdd]
    · rw [filter_yes]
      refine minl_at (ns := (stL ks os n f).map fun r => r.1 + Lp ks os f r.2.1) (by rw [put_same, List.map_map]; rfl) (by simp [stL_ne]) ?_
      rw [del_put hq2, ← Lp_at K hn']
      refine set_dic e3p (.inl ⟨leaf_int _, lkv_leaf _ _ _ _⟩) (by simp [lkv]; omega) ?_
      refine ⟨[some (tK ks), some (tI os), some (.int f), some (.ref p), none, none, none, none], by simp [tI], put S p (.dic (lkv ks os f (i + 1))), ?_, by omega, rfl, rfl⟩
      have pd : putD (lkv ks os f i) (.int n) (.int (Lp ks os f n)) = lkv ks os f (i + 1) := by
        unfold putD
        rw [lkv_none ks os f (by omega) (by omega)]
        simp only [Option.isSome_none, Bool.false_eq_true, if_false]
        unfold lkv
        rw [List.range_succ (n := i + 1), List.map_append, List.map_singleton, hn]
      rw [pd]
      intro a o ea
      by_cases ap : a = p
      · subst ap
        rw [put_same] at ea ⊢
        exact ea
      · rw [put_ne ap] at ea ⊢
        exact u _ _ (by rw [put_ne ap]; exact ea)
  · rintro ρ1 S2 ⟨_, rfl, rfl⟩
    refine ⟨trivial, ?_⟩
    rw [intsFrom_len]
    simp
    refine rtS (h p _ _ hp (Sub.new hp) put_same (lkv_leaf _ _ _ _) ?_)
    exact lkv_look ks os f (n := 0) (Nat.le_refl _) (by omega) (Nat.zero_le _)
end DW.K48
namespace DW.K48
open PySem PySem.Spec PyProof.Rows L2
def sp_lpaper : DC := fun ds S Q => ∃ ks os f b vs, ds = [tK ks, tI os, .int f, .int b, tI vs] ∧ Kn ks ∧ Oc os ∧ vs.length = os.length + 1 ∧ (∀ v ∈ vs, 0 ≤ v) ∧ Q (.bl (paperB ks os f b vs)) S
theorem p_lpaper : ∀ ds S Q, sp_lpaper ds S Q → t__law_is_paper sp_lsteps (endsD Q) (startD 8 ds) S := by
  rintro ds S Q ⟨ks, os, f, b, vs, rfl, K, O, vl, v0, h⟩
  have ho := O.few
  have big := big_line
  have vat : ∀ n, n ≤ os.length → atI (vs.map D.int) ((n : Nat) : Int) = some (.int (vs.getD n 0)) := fun n hn => by
    rw [at_nat, List.getElem?_map, List.getD_eq_getElem?_getD, List.getElem?_eq_getElem (by omega)]
    rfl
  have vlast : atI (vs.map D.int) (-1) = some (.int (vs.getD os.length 0)) := by
    rw [at_last _ (by intro z; rw [List.map_eq_nil_iff] at z; subst z; simp at vl), List.length_map, vl, Nat.add_sub_cancel, ← at_nat]
    exact vat _ (Nat.le_refl _)
  have vge : 0 ≤ vs.getD os.length 0 := by
    rw [List.getD_eq_getElem?_getD, List.getElem?_eq_getElem (by omega)]
    exact v0 _ (List.getElem_mem _)
  simp [t__law_is_paper, startD, tI]
  refine ix_tup (vat 0 (Nat.zero_le _)) ?_
  simp only [aCmp, fLt]
  unfold paperB at h
  by_cases c1 : vs.getD 0 0 < b
  · simp only [c1, decide_true, Bool.true_or, Bool.not_true, Bool.false_and] at h ⊢
    exact .inr ⟨trivial, rtS h⟩
  · simp only [c1, decide_false, Bool.false_or] at h ⊢
    refine .inl ⟨trivial, ix_tup vlast (aNe_int ?_)⟩
    by_cases c2 : vs.getD os.length 0 > 0
    · have c3 : ¬ vs.getD os.length 0 = 0 := by omega
      simp only [c2, decide_true, Bool.not_true, Bool.false_and] at h
      simp only [c3, decide_false, Bool.not_false]
      exact .inr ⟨trivial, rtS h⟩
    · have c3 : vs.getD os.length 0 = 0 := by omega
      simp only [c2, decide_false, Bool.not_false, Bool.true_and] at h
      simp only [c3, decide_true, Bool.not_true]
      refine .inl ⟨trivial, ?_⟩
      simp [e_for, e_rng1, aLen]
      refine ⟨by omega, ?_⟩
      refine for_b (fun i ρ1 S2 => i ≤ os.length ∧ ρ1 = [some (tK ks), some (tI os), some (.int f), some (.int b), some (tI vs), none, none, none] ∧ S2 = S ∧ ∀ n, n < i → okAt ks os f vs n = true)
        ⟨Nat.zero_le _, rfl, rfl, fun n hn => by omega⟩ ?_ ?_
      · rintro i d ρ1 S2 e ⟨_, rfl, rfl, hi⟩
        obtain ⟨hlt, rfl⟩ := intsFrom_some e
        have iz : (0 : Int) + (i : Nat) * 1 = (i : Int) := by omega
        rw [iz]
        refine ⟨trivial, _, rfl, ?_⟩
        simp [e_lcP, e_seq]
        refine ⟨ks, os, i, f, rfl, K, hlt, fun q S3 hq u e3 => seqR_lst e3 ?_⟩
        have few := stL_few (os := os) (n := i) (f := f) K
        refine lcP_b (stL ks os i f) stD2 (fun r => decide (vs.getD i 0 > r.1 + vs.getD r.2.1 0)) (fun _ => .int 1) rfl (fun S4 v => .inl (v _ _ e3)) (fun r hr S4 v => ⟨_, rfl, ?_⟩) (by omega) fun q2 hq2 => ?_
        · obtain ⟨_, h2, h3⟩ := stL_mem K hlt hr
          simp [wipeD, setAll, tI]
          refine ix_tup (vat i (by omega)) (ix_tup (vat r.2.1 h3) ?_)
          simp [aAdd, aCmp, fGt]
          by_cases c : r.1 + vs[r.2.1]?.getD 0 < vs[i]?.getD 0
          · simp [c]
          · simp [c]
            omega
        · intro q3 hq3
          have q23 : q2 ≠ q3 := by rintro rfl; rw [put_same] at hq3; cases hq3
          have cl1 : ∀ l : List St, D.cls 59 (l.map fun _ => D.int 1) = true := fun l => by rw [D.cls_all]; simp [D.cl]
          refine aNe_lst (xs := (((stL ks os i f).filter fun r => decide (vs.getD i 0 > r.1 + vs.getD r.2.1 0)).map fun _ => D.int 1)) (ys := []) (by rw [put_ne q23, put_same]) put_same (cl1 _) rfl ?_
          have any_ok : (((stL ks os i f).filter fun r => decide (vs.getD i 0 > r.1 + vs.getD r.2.1 0)).map fun _ => D.int 1) = [] ↔ okAt ks os f vs i = true := by
            rw [List.map_eq_nil_iff, List.filter_eq_nil_iff]
            unfold okAt
            rw [List.all_eq_true]
            refine forall_congr' fun r => forall_congr' fun hr => ?_
            generalize vs.getD i 0 = a
            generalize r.1 + vs.getD r.2.1 0 = b'
            simp
          cases c : okAt ks os f vs i with
          | true =>
            have := any_ok.mpr c
            rw [decide_eq_true this]
            refine .inl ⟨rfl, [some (tK ks), some (tI os), some (.int f), some (.int b), some (tI vs), none, none, none], by simp [tI], S2, ?_, by omega, rfl, rfl, fun n hn => ?_⟩
            · exact u.trans ((Sub.new hq2).trans (Sub.new hq3))
            · by_cases z : n = i
              · rw [z]; exact c
              · exact hi n (by omega)
          | false =>
            have : ¬ (((stL ks os i f).filter fun r => decide (vs.getD i 0 > r.1 + vs.getD r.2.1 0)).map fun _ => D.int 1) = [] := fun z => by
              rw [any_ok.mp z] at c
              cases c
            rw [decide_eq_false this]
            refine .inr ⟨rfl, S2, u.trans ((Sub.new hq2).trans (Sub.new hq3)), ?_⟩
            have : (List.range os.length).all (okAt ks os f vs) = false := by
              rw [List.all_eq_false]
              exact ⟨i, List.mem_range.mpr hlt, by simp [c]⟩
            rwa [this] at h
      · rintro ρ1 S2 ⟨_, rfl, rfl, hi⟩
        rw [intsFrom_len] at hi
        refine ⟨trivial, ?_⟩
        simp
        have : (List.range os.length).all (okAt ks os f vs) = true := by
          rw [List.all_eq_true]
          exact fun n hn => hi n (List.mem_range.mp hn)
        rw [this] at h
        exact rtS h
end DW.K48
namespace DW.K48
open PySem PySem.Spec PyProof.Rows L2
/-- what stays through _law_right -/
abbrev hd6 (c : Addr) (m : Int) (os : List Int) (f : Int) (ks : List (List Int)) (L : Int) (r : REnv) : REnv := some (.ref c) :: some (.int m) :: some (tI os) :: some (.int f) :: some (tK ks) :: some (.int L) :: r
section
variable {c : Addr} {m : Int} {os : List Int} {f : Int} {ks : List (List Int)} {L : Int} {E : DEnds} {S : Sto}
theorem isp_bad {b : Int} {d : D} {Q : DQ} (K : Kn ks) (O : Oc os) (hf : 0 ≤ f ∧ f ≤ 100) (hb : 0 ≤ b ∧ b ≤ 1000000) (h : badV S os.length d) (q : Q (.bl false) S) : sp_is_price_paper [tK ks, tI os, .int f, .int b, d] S Q := ⟨ks, os, f, b, d, rfl, K, O, hf, hb, .inl ⟨h, q⟩⟩
theorem isp_ok {b : Int} {vs : List Int} {Q : DQ} (K : Kn ks) (O : Oc os) (hf : 0 ≤ f ∧ f ≤ 100) (hb : 0 ≤ b ∧ b ≤ 1000000) (hl : vs.length = os.length + 1) (hv : ∀ v ∈ vs, 0 ≤ v ∧ v ≤ 1000000) (q : Q (.bl (paperB ks os f b vs)) S) : sp_is_price_paper [tK ks, tI os, .int f, .int b, tI vs] S Q := ⟨ks, os, f, b, _, rfl, K, O, hf, hb, .inr ⟨vs, rfl, hl, hv, q⟩⟩
abbrev T3 := t__law_right_3 sp_roll sp_octets sp_known sp_least (sp_same 9) sp_least_price sp_price_paper sp_lpaper sp_some sp_is_price_paper
abbrev T4 := t__law_right_4 sp_roll sp_octets sp_known sp_least (sp_same 9) sp_least_price sp_price_paper sp_lpaper sp_some sp_is_price_paper
abbrev T2 := t__law_right_2 sp_roll sp_octets sp_known sp_least (sp_same 9) sp_least_price sp_price_paper sp_lpaper sp_some sp_is_price_paper
abbrev T5 := t__law_right_5 sp_roll sp_octets sp_known sp_least (sp_same 9) sp_least_price sp_price_paper sp_lpaper sp_some sp_is_price_paper
theorem c3 (K : Kn ks) (O : Oc os) (hf : 0 ≤ f ∧ f ≤ 100) {x6 x7 x8 x9 x10 x11 x12 x14 x15 : Option D} {p : Addr} {items : List D} (e : S p = some (.lst items)) (hl : items.length ≤ 1000) (hb : ∀ d ∈ items, ∀ S2, Sub S S2 → badV S2 os.length d)
    (nx : ∀ r S', r.length = 10 → Sub S S' → E.nx (hd6 c m os f ks L r) S') : T3 E (hd6 c m os f ks L [x6, x7, x8, x9, x10, x11, x12, some (.ref p), x14, x15]) S := by
  have big := big_line
  simp [T3, t__law_right_3, e_lcP, e_seq]
  refine seqR_lst e ?_
  refine lcP_b items id (fun _ => false) id (by simp) (fun S2 u => .inl (u _ _ e)) (fun d hd S2 u => ⟨_, rfl, ?_⟩) (by omega) fun q hq => ?_
  · simp [wipeD]
    exact isp_bad K O hf (by decide) (hb d hd S2 u) (by simp [aNotB])
  · intro q2 hq2
    have n12 : q ≠ q2 := by rintro rfl; rw [put_same] at hq2; cases hq2
    refine aNe_lst (xs := []) (ys := []) (by rw [put_ne n12, put_same]; simp) put_same rfl rfl (.inl ⟨rfl, ?_⟩)
    exact nx _ _ rfl ((Sub.new hq).trans (Sub.new hq2))
theorem badV_ne {d : D} {n : Nat} (h1 : (tyD S d).isSome = true) (h2 : tupLen d ((n : Int) + 1) ((n : Int) + 1) = false) : badV S n d := ⟨h1, .inl h2⟩
theorem ten6 {R : DQ} : aPow (.int 10) (.int 6) S R = R (.int 1000000) S := by simp [aPow]
theorem c4 (K : Kn ks) (O : Oc os) (hf : 0 ≤ f ∧ f ≤ 100) {bs : List Int} {a : Nat} (hbl : bs.length = os.length + 1) (ha : a ≤ os.length) {x6 x7 x10 x11 x12 x13 x14 x15 : Option D}
    (nx : ∀ r S', r.length = 10 → Sub S S' → E.nx (hd6 c m os f ks L r) S') : T4 E (hd6 c m os f ks L [x6, x7, some (tI bs), some (.int a), x10, x11, x12, x13, x14, x15]) S := by
  have big := big_line
  have ho := O.few
  simp [T4, t__law_right_4, e_lcP, e_seq, tI, aAdd, aSl, aList, ten6]
  intro l hl
  refine ⟨by omega, by omega, by omega, fun p hp => ?_⟩
  have lp : l ≠ p := by rintro rfl; rw [put_same] at hp; cases hp
  refine ⟨by omega, ?_⟩
  rw [seqR_tup]
  have c1 : cutD (bs.map D.int) (some 1) none = (bs.drop 1).map D.int := by
    have := cut_from (bs.map D.int) 1
    rw [← List.map_drop] at this
    exact this
  have ca : cutD (bs.map D.int) none (some (a : Int)) = (bs.take a).map D.int := by rw [cut_to, ← List.map_take]
  have cb : cutD (bs.map D.int) (some ((a : Int) + 1)) none = (bs.drop (a + 1)).map D.int := by
    have := cut_from (bs.map D.int) (a + 1)
    rw [← List.map_drop] at this
    exact this
  rw [c1]
  refine lcP_b [D.int (-1), D.int 1000001, D.bl true, D.non, D.str (Str.ofString "0")] id (fun _ => true) (fun d => .tup ((bs.take a).map D.int ++ [d] ++ (bs.drop (a + 1)).map D.int)) rfl (fun _ _ => trivial) (fun d hd S2 u => ⟨_, rfl, ?_⟩) (by simp; omega) fun q hq => ?_
  · simp [wipeD, aSl, aAdd, ca, cb]
    omega
  · have lq : l ≠ q := by
      rintro rfl
      rw [put_ne lp, put_same] at hq
      cases hq
    have pq : p ≠ q := by rintro rfl; rw [put_same] at hq; cases hq
    simp only [filter_yes]
    refine ⟨_, by rw [put_ne pq]; exact put_same, _, put_same, by simp; omega, fun r hr => ?_⟩
    have lr : l ≠ r := by
      rintro rfl
      rw [put_ne lq, put_ne lp, put_same] at hr
      cases hr
    have u0 := ((Sub.new hl (o := .lst (bs.map D.int))).trans (Sub.new hp (o := .lst [D.non, D.tup [], D.ref l, D.tup (bs.map D.int ++ [D.int 0]), D.tup ((bs.drop 1).map D.int), D.int 5]))).trans ((Sub.new hq (o := .lst ([D.int (-1), D.int 1000001, D.bl true, D.non, D.str (Str.ofString "0")].map fun d => D.tup ((bs.take a).map D.int ++ [d] ++ (bs.drop (a + 1)).map D.int)))).trans (Sub.new hr (o := .lst ([D.non, D.tup [], D.ref l, D.tup (bs.map D.int ++ [D.int 0]), D.tup ((bs.drop 1).map D.int), D.int 5] ++ [D.int (-1), D.int 1000001, D.bl true, D.non, D.str (Str.ofString "0")].map fun d => D.tup ((bs.take a).map D.int ++ [d] ++ (bs.drop (a + 1)).map D.int)))))
    refine c3 K O hf put_same (by simp) (fun d hd S2 u => ?_) fun r' S' hr' u => nx _ _ hr' (u0.trans u)
    have el : S2 l = some (.lst (bs.map D.int)) := u _ _ (by rw [put_ne lr, put_ne lq, put_ne lp, put_same])
    rcases List.mem_append.mp hd with hd | hd
    · simp only [List.mem_cons, List.not_mem_nil, or_false] at hd
      rcases hd with rfl | rfl | rfl | rfl | rfl | rfl
      · exact badV_ne rfl rfl
      · exact badV_ne rfl (by simp [tupLen]; omega)
      · exact badV_ne (by rw [ty_lst el]; rfl) rfl
      · exact badV_ne rfl (by simp [tupLen, hbl]; omega)
      · exact badV_ne rfl (by simp [tupLen, hbl]; omega)
      · exact badV_ne rfl rfl
    · obtain ⟨d0, hd0, rfl⟩ := List.mem_map.mp hd
      refine ⟨rfl, .inr ⟨_, rfl, by simp; omega, fun x hx => ?_, ?_⟩⟩
      · have isI : ∀ (ns : List Int), x ∈ ns.map D.int → (tyD S2 x).isSome = true := fun ns h => by
          obtain ⟨i, _, rfl⟩ := List.mem_map.mp h
          rfl
        rcases List.mem_append.mp hx with hx | hx
        · rcases List.mem_append.mp hx with hx | hx
          · exact isI _ hx
          · rw [List.mem_singleton.mp hx]
            simp only [List.mem_cons, List.not_mem_nil, or_false] at hd0
            rcases hd0 with rfl | rfl | rfl | rfl | rfl <;> rfl
        · exact isI _ hx
      · rw [List.all_eq_false]
        refine ⟨d0, by simp, ?_⟩
        simp only [List.mem_cons, List.not_mem_nil, or_false] at hd0
        rcases hd0 with rfl | rfl | rfl | rfl | rfl <;> simp [whole]
end
end DW.K48
namespace DW.K48
open PySem PySem.Spec PyProof.Rows L2
section
variable {c : Addr} {m : Int} {os : List Int} {f : Int} {ks : List (List Int)} {L : Int} {E : DEnds} {S : Sto}
structure Val (os : List Int) (vs : List Int) : Prop where
  len : vs.length = os.length + 1
  rng : ∀ v ∈ vs, 0 ≤ v ∧ v ≤ 1000000
theorem paper_sound (K : Kn ks) (hf : 0 ≤ f) {b : Int} {vs : List Int} (V : Val os vs) (h : paperB ks os f b vs = true) : b ≤ Lp ks os f 0 := by
  unfold paperB at h
  simp only [Bool.and_eq_true, Bool.not_eq_true', Bool.or_eq_false_iff, decide_eq_false_iff_not] at h
  obtain ⟨⟨h1, h2⟩, h3⟩ := h
  have := Lp_sound (os := os) (f := f) K (fun n => vs.getD n 0) (by omega) (fun n hn r hr => by
    have := List.all_eq_true.mp h3 n (List.mem_range.mpr hn)
    exact of_decide_eq_true (List.all_eq_true.mp this r hr)) os.length 0 (by omega)
  omega
theorem c2 (K : Kn ks) (O : Oc os) (hf : 0 ≤ f ∧ f ≤ 100) {b : Int} (hb : 0 ≤ b ∧ b ≤ 1000000) (hL : L = Lp ks os f 0) {vs : List Int} (V : Val os vs) {x7 x8 x9 x10 x12 x13 x14 x15 : Option D}
    (nx : E.nx (hd6 c m os f ks L [some (.int b), x7, x8, x9, x10, some (tI vs), some (.bl (paperB ks os f b vs)), x13, x14, x15]) S) : T2 E (hd6 c m os f ks L [some (.int b), x7, x8, x9, x10, some (tI vs), x12, x13, x14, x15]) S := by
  simp [T2, t__law_right_2]
  refine ⟨ks, os, f, b, vs, rfl, K, O, V.len, fun v hv => (V.rng v hv).1, ?_⟩
  simp [t__law_right_1]
  refine isp_ok K O hf hb V.len V.rng ⟨_, rfl, trivial, ?_⟩
  simp [aCmp, fLt]
  cases e : paperB ks os f b vs with
  | false =>
    rw [e] at nx
    simpa using nx
  | true =>
    have := paper_sound K hf.1 V e
    rw [e] at nx
    have nl : ¬ L < b := by omega
    simp [nl]
    exact ⟨by omega, nx⟩
theorem c5 (K : Kn ks) (O : Oc os) (h9 : os.length ≤ 900) (hf : 0 ≤ f ∧ f ≤ 100) {b : Int} (hb : 0 ≤ b ∧ b ≤ 1000000) (hL : L = Lp ks os f 0) {bs : List Int} {a : Nat} {mr : Int} (V : Val os bs) (ha : a ≤ os.length) {x7 x11 x12 x13 x14 x15 : Option D}
    (nx : ∀ r S', r.length = 10 → Sub S S' → E.nx (hd6 c m os f ks L r) S') : T5 E (hd6 c m os f ks L [some (.int b), x7, some (tI bs), some (.int a), some (.int mr), x11, x12, x13, x14, x15]) S := by
  have big := big_line
  have ho := O.few
  have hbl := V.len
  simp [T5, t__law_right_5, e_for, e_seq, tI, aAdd, aSl, ten6]
  have ca : cutD (bs.map D.int) none (some (a : Int)) = (bs.take a).map D.int := by rw [cut_to, ← List.map_take]
  have cb : cutD (bs.map D.int) (some ((a : Int) + 1)) none = (bs.drop (a + 1)).map D.int := by
    have := cut_from (bs.map D.int) (a + 1)
    rw [← List.map_drop] at this
    exact this
  have atb : atI (bs.map D.int) (a : Int) = some (.int (bs.getD a 0)) := by
    rw [at_nat, List.getElem?_map, List.getD_eq_getElem?_getD, List.getElem?_eq_getElem (by omega)]
    rfl
  rw [ca]
  refine ix_tup atb ?_
  simp [aMin, aMax]
  have cl : cutD (bs.map D.int) none (some (-1)) = bs.dropLast.map D.int := by
    rw [cut_but, List.map_dropLast]
  refine ⟨_, _, ⟨rfl, rfl⟩, _, _, ⟨rfl, rfl⟩, by omega, by omega, by rw [cb]; simp; omega, by omega, ?_⟩
  simp only [aLen]
  refine ⟨by simp; omega, by simp; omega, by simp, by omega, by rw [cl]; simp; omega, by omega, ?_⟩
  rw [seqR_tup]
  have vals : ∀ d ∈ [D.tup (bs.map D.int), D.tup (List.take a (bs.map D.int) ++ D.int (max 0 (min 1000000 (bs[a]?.getD 0 + mr))) :: cutD (bs.map D.int) (some ((a : Int) + 1)) none), D.tup (List.replicate (((bs.map D.int).length : Nat) : Int).toNat [D.int 0]).flatten, D.tup (cutD (bs.map D.int) none (some (-1)) ++ [D.int 1])], ∃ vs, d = tI vs ∧ Val os vs := by
    intro d hd
    simp only [List.mem_cons, List.not_mem_nil, or_false] at hd
    rcases hd with rfl | rfl | rfl | rfl
    · exact ⟨bs, rfl, V⟩
    · refine ⟨bs.take a ++ max 0 (min 1000000 (bs[a]?.getD 0 + mr)) :: bs.drop (a + 1), by rw [cb, ← List.map_take]; simp [tI], ⟨by simp; omega, fun v hv => ?_⟩⟩
      rcases List.mem_append.mp hv with hv | hv
      · exact V.rng v (List.mem_of_mem_take hv)
      · rcases List.mem_cons.mp hv with rfl | hv
        · omega
        · exact V.rng v (List.mem_of_mem_drop hv)
    · refine ⟨List.replicate (os.length + 1) 0, ?_, ⟨by simp, fun v hv => ?_⟩⟩
      · rw [List.length_map, hbl, Int.toNat_natCast]
        simp [tI]
      · rw [List.eq_of_mem_replicate hv]
        decide
    · refine ⟨bs.dropLast ++ [1], by rw [cl]; simp [tI], ⟨by simp; omega, fun v hv => ?_⟩⟩
      rcases List.mem_append.mp hv with hv | hv
      · exact V.rng v ((List.dropLast_sublist bs).subset hv)
      · rw [List.mem_singleton.mp hv]
        decide
  refine for_b (fun i ρ1 S2 => ∃ y11 y12 y13 y14 y15, ρ1 = hd6 c m os f ks L [some (.int b), x7, some (tI bs), some (.int a), some (.int mr), y11, y12, y13, y14, y15] ∧ S2 = S) ⟨_, _, _, _, _, rfl, rfl⟩ ?_ ?_
  · rintro i d ρ1 S2 e ⟨y11, y12, y13, y14, y15, rfl, rfl⟩
    obtain ⟨vs, rfl, W⟩ := vals d (List.mem_of_getElem? e)
    refine ⟨trivial, _, rfl, ?_⟩
    exact c2 K O hf hb hL W ⟨_, _, RSub.refl, Sub.refl, _, _, _, _, _, rfl, rfl⟩
  · rintro ρ1 S2 ⟨y11, y12, y13, y14, y15, rfl, rfl⟩
    exact ⟨trivial, c4 K O hf hbl ha nx⟩
abbrev T6 := t__law_right_6 sp_roll sp_octets sp_known sp_least (sp_same 9) sp_least_price sp_price_paper sp_lpaper sp_some sp_is_price_paper
abbrev T7 := t__law_right_7 sp_roll sp_octets sp_known sp_least (sp_same 9) sp_least_price sp_price_paper sp_lpaper sp_some sp_is_price_paper
abbrev T9 := t__law_right_9 sp_roll sp_octets sp_known sp_least (sp_same 9) sp_least_price sp_price_paper sp_lpaper sp_some sp_is_price_paper
theorem c6 (K : Kn ks) (O : Oc os) (h9 : os.length ≤ 900) (hf : 0 ≤ f ∧ f ≤ 100) {b : Int} (hb : 0 ≤ b ∧ b ≤ 1000000) (hL : L = Lp ks os f 0) {bs : List Int} (V : Val os bs) (cup : cupAt S c) {x7 x9 x10 x11 x12 x13 x14 x15 : Option D}
    (nx : ∀ r S', r.length = 10 → Drawn c S S' → E.nx (hd6 c m os f ks L r) S') : T6 E (hd6 c m os f ks L [some (.int b), x7, some (tI bs), x9, x10, x11, x12, x13, x14, x15]) S := by
  have big := big_line
  have hbl := V.len
  simp [T6, t__law_right_6, tI, aLen]
  refine ⟨c, _, rfl, cup, by omega, by omega, fun a S1 a0 a1 D1 => ?_⟩
  refine ⟨by omega, fun p hp => ?_⟩
  refine ⟨c, .ref p, _, rfl, (D1.new hp).cup, .inr ⟨p, rfl, put_same⟩, fun q e => ?_, by simp, by simp, fun y hy S2 D2 => ?_⟩
  · cases e
    exact (D1.free hp).2
  · have Dt := (D1.new hp).trans D2
    obtain ⟨a, rfl⟩ : ∃ k : Nat, a = k := ⟨a.toNat, by omega⟩
    obtain ⟨mr, rfl⟩ : ∃ mr : Int, y = .int mr := by
      simp at hy
      rcases hy with rfl | rfl | rfl <;> exact ⟨_, rfl⟩
    refine ⟨by omega, _, _, ⟨rfl, rfl⟩, ?_⟩
    exact c5 K O h9 hf hb hL V (by omega) fun r S' hr u => nx r S' hr (Dt.sub u)
end
end DW.K48
namespace DW.K48
open PySem PySem.Spec PyProof.Rows L2
section
variable {c : Addr} {m : Int} {os : List Int} {f : Int} {ks : List (List Int)} {L : Int} {E : DEnds} {S : Sto}
theorem paper_val (K : Kn ks) (O : Oc os) (hf : 0 ≤ f) : Val os (paper ks os f) := by
  have ho := O.few
  refine ⟨by simp [paper], fun v hv => ?_⟩
  obtain ⟨n, hn, rfl⟩ := List.mem_map.mp hv
  have hn := List.mem_range.mp hn
  have := Lp_bd (os := os) (f := f) K hf (os.length - n) n (by omega)
  omega
theorem paper_get (n : Nat) (h : n ≤ os.length) : (paper ks os f).getD n 0 = Lp ks os f n := by
  unfold paper
  rw [List.getD_eq_getElem?_getD, List.getElem?_map, List.getElem?_range (by omega)]
  rfl
theorem paper_ok (K : Kn ks) {b : Int} (hb : b ≤ Lp ks os f 0) : paperB ks os f b (paper ks os f) = true := by
  unfold paperB
  rw [paper_get 0 (Nat.zero_le _), paper_get os.length (Nat.le_refl _), Lp_end]
  simp only [Bool.and_eq_true, Bool.not_eq_true', Bool.or_eq_false_iff, decide_eq_false_iff_not]
  refine ⟨⟨by omega, by omega⟩, List.all_eq_true.mpr fun n hn => List.all_eq_true.mpr fun r hr => ?_⟩
  have hn := List.mem_range.mp hn
  obtain ⟨_, h2, h3⟩ := stL_mem K hn hr
  rw [paper_get n (by omega), paper_get r.2.1 h3]
  exact decide_eq_true (Lp_le K hn hr)
theorem c9 (K : Kn ks) (O : Oc os) (h9 : os.length ≤ 900) (hf : 0 ≤ f ∧ f ≤ 100) {b : Int} (hb : 0 ≤ b ∧ b ≤ 1000000) (hL : L = Lp ks os f 0) (cup : cupAt S c) {x7 x8 x9 x10 x11 x12 x13 x14 x15 : Option D}
    (nx : ∀ r S', r.length = 10 → Drawn c S S' → E.nx (hd6 c m os f ks L r) S') : T9 E (hd6 c m os f ks L [some (.int b), x7, x8, x9, x10, x11, x12, x13, x14, x15]) S := by
  have big := big_line
  have PV := paper_val K O hf.1
  simp [T9, t__law_right_9]
  refine ⟨ks, os, f, b, rfl, K, O, hf, hb, ?_⟩
  rw [← hL]
  by_cases le : b ≤ L
  · have nl : ¬ L < b := by omega
    rw [if_pos le]
    simp [t__law_right_8, aIsN, aNotN, aCmp, fLt, tI, nl]
    refine aNe_bl ?_
    simp [aIsI, tyD, isIt]
    refine ⟨ks, os, f, b, _, rfl, K, O, PV.len, fun v hv => (PV.rng v hv).1, ?_⟩
    rw [paper_ok K (by omega)]
    simp [t__law_right_7, aNotN]
    exact c6 K O h9 hf hb hL PV cup nx
  · have lt : L < b := by omega
    rw [if_neg le]
    simp [t__law_right_8, aIsN, aNotN, aCmp, fLt, lt]
    refine aNe_bl ?_
    simp [t__law_right_7, aNotN]
    refine aNe_cl (cl_tI _ os) rfl ?_
    by_cases eo : os = []
    · subst eo
      simp [tI]
      exact ⟨by omega, c6 (bs := [0]) K O h9 hf hb hL ⟨rfl, by simp⟩ cup nx⟩
    · have ne : ¬ tI os = D.tup [] := fun z => eo (tI_inj (b := []) z)
      simp [ne]
      refine ⟨by omega, fun p hp => ⟨by omega, fun q hq => ?_⟩⟩
      have pq : p ≠ q := by rintro rfl; rw [put_same] at hq; cases hq
      simp [tI, aLen]
      refine ⟨_, put_same, by omega, by omega, by simp; omega, fun r hr => ?_⟩
      have pr : p ≠ r := by
        rintro rfl
        rw [put_ne pq, put_same] at hr
        cases hr
      refine add_lst (xs := [.int b]) (by rw [put_ne pr, put_ne pq, put_same]) put_same (by simp; omega) fun s hs => ?_
      refine tupl_at put_same ?_
      rw [del_put hs]
      have D3 := (((Drawn.refl cup).new hp (o := .lst [.int b])).new hq (o := .lst [.int 0])).new hr (o := .lst (List.replicate ((os.length : Nat) : Int).toNat [D.int 0]).flatten)
      have := c6 (bs := b :: List.replicate os.length 0) (S := put (put (put S p (.lst [.int b])) q (.lst [.int 0])) r (.lst (List.replicate ((os.length : Nat) : Int).toNat [D.int 0]).flatten)) (x7 := some .non) (x9 := x9) (x10 := x10) (x11 := x11) (x12 := x12) (x13 := x13) (x14 := x14) (x15 := x15) K O h9 hf hb hL ⟨by simp, fun v hv => by
        rcases List.mem_cons.mp hv with rfl | hv
        · exact hb
        · rw [List.eq_of_mem_replicate hv]; decide⟩ D3.cup fun r S' hr D => nx r S' hr (D3.trans D)
      have eb : [D.int b] ++ (List.replicate ((os.length : Nat) : Int).toNat [D.int 0]).flatten = (b :: List.replicate os.length 0).map D.int := by simp
      rw [eb]
      exact this
end
def sp_right : DC := fun ds S Q => ∃ c m, ds = [.ref c, .int m] ∧ cupAt S c ∧ 1 ≤ m ∧ m ≤ 20 ∧ ∀ S', Drawn c S S' → Q (.bl true) S'
theorem p_right : ∀ ds S Q, sp_right ds S Q → t__law_right sp_roll sp_octets sp_known sp_least (sp_same 9) sp_least_price sp_price_paper sp_lpaper sp_some sp_is_price_paper (endsD Q) (startD 16 ds) S := by
  rintro ds S Q ⟨c, m, rfl, cup, m1, m2, h⟩
  have big := big_line
  simp [t__law_right, startD]
  refine ⟨c, m, rfl, cup, m1, by omega, fun os S1 l1 b1 D1 => ?_⟩
  simp
  refine ⟨c, 4, rfl, D1.cup, by decide, by decide, fun f S2 f0 f1 D2 => ?_⟩
  have O : Oc os := ⟨by omega, b1⟩
  refine ⟨by omega, _, _, ⟨rfl, rfl⟩, ?_⟩
  simp [t__law_right_14]
  refine ⟨c, os, rfl, D2.cup, O, fun ks S3 K D3 => ?_⟩
  simp [t__law_right_13]
  refine ⟨ks, os, f, rfl, K, O, fun p kvs S4 hp u4 e4 lf lk => ix_dic e4 (.inl ⟨leaf_int _, lf⟩) lk ?_⟩
  have D34 := D3.sub u4
  have hf : 0 ≤ f ∧ f ≤ 100 := by omega
  have h9 : os.length ≤ 900 := by omega
  obtain ⟨L0, Ln⟩ := Lp_bd (os := os) (f := f) K hf.1 os.length 0 (by omega)
  generalize hL : Lp ks os f 0 = L at *
  simp [t__law_right_12]
  refine ⟨ks, os, f, rfl, K, O, hf, ?_⟩
  rw [hL]
  refine ⟨.int L, rfl, trivial, ?_⟩
  simp [t__law_right_11, e_for, e_seq, aMax, aAdd, aSub, ten6]
  refine ⟨_, _, ⟨rfl, rfl⟩, by omega, ?_⟩
  rw [seqR_tup]
  have bds : ∀ d ∈ [D.int 0, D.int L, D.int (L + 1), D.int (max 0 (L - 1)), D.int 1000000], ∃ b : Int, d = .int b ∧ 0 ≤ b ∧ b ≤ 1000000 := by
    intro d hd
    simp only [List.mem_cons, List.not_mem_nil, or_false] at hd
    rcases hd with rfl | rfl | rfl | rfl | rfl <;> exact ⟨_, rfl, by omega, by omega⟩
  refine for_b (fun i ρ1 S5 => ∃ r, r.length = 10 ∧ ρ1 = hd6 c m os f ks L r ∧ Drawn c S S5) ⟨_, rfl, rfl, D1.trans (D2.trans D34)⟩ ?_ ?_
  · rintro i d ρ1 S5 e ⟨r, hr, rfl, D5⟩
    obtain ⟨b, rfl, hb⟩ := bds d (List.mem_of_getElem? e)
    obtain ⟨r0, r1, r2, r3, r4, r5, r6, r7, r8, r9, rfl⟩ : ∃ r0 r1 r2 r3 r4 r5 r6 r7 r8 r9, r = [r0, r1, r2, r3, r4, r5, r6, r7, r8, r9] := by
      match r, hr with
      | [r0, r1, r2, r3, r4, r5, r6, r7, r8, r9], _ => exact ⟨r0, r1, r2, r3, r4, r5, r6, r7, r8, r9, rfl⟩
    refine ⟨trivial, _, rfl, ?_⟩
    exact c9 K O h9 hf hb hL.symm D5.cup fun r S' hr D => ⟨_, _, RSub.refl, Sub.refl, r, hr, rfl, D5.trans D⟩
  · rintro ρ1 S5 ⟨r, hr, rfl, D5⟩
    refine ⟨trivial, ?_⟩
    simp [t__law_right_10]
    exact rtS (h S5 D5)
/-! law -/
theorem Kn_nil : Kn [] := ⟨by decide, List.nodup_nil, fun k h => by cases h⟩
theorem Lp_nil {os : List Int} {f : Int} : ∀ (j n : Nat), n + j = os.length → Lp [] os f n = j := by
  intro j
  induction j with
  | zero =>
    intro n e
    have : n = os.length := by omega
    subst this
    rw [Lp_end]
    rfl
  | succ j ih =>
    intro n e
    rw [Lp_at Kn_nil (by omega)]
    simp [stL, stp, minI]
    rw [ih (n + 1) (by omega)]
    omega
theorem Kn_two : Kn [[1, 2, 3], [3, 4]] := ⟨by decide, by decide, by decide⟩
def sp_law : DC := fun ds S Q => ∃ (a : Addr) (ns : List Int), ds = [.ref a] ∧ S a = some (.rls (ns.map .int)) ∧ ns.length ≤ 1000 ∧ (∀ n ∈ ns, n.natAbs.log2 < 1999999) ∧ ∀ S', Q (.bl true) S'
theorem p_law : ∀ ds S Q, sp_law ds S Q → t_law sp_cup sp_right sp_is_price_paper sp_octets sp_price_paper (endsD Q) (startD 6 ds) S := by
  rintro ds S Q ⟨a, ns, rfl, hs, hl, hb, h⟩
  have big := big_line
  simp [t_law, startD, e_for, e_seq]
  refine ⟨a, ns, rfl, hs, hl, hb, fun c S1 hc u1 cup => ?_⟩
  refine ⟨by omega, ?_⟩
  rw [seqR_tup]
  refine for_b (fun i ρ1 S2 => ∃ y, ρ1 = [some (.ref a), some (.ref c), y, none, none, none] ∧ cupAt S2 c) ⟨_, rfl, cup⟩ ?_ ?_
  · rintro i d ρ1 S2 e ⟨y, rfl, cup2⟩
    have md : ∃ m : Int, d = .int m ∧ 1 ≤ m ∧ m ≤ 20 := by
      have := List.mem_of_getElem? e
      simp only [List.mem_cons, List.not_mem_nil, or_false] at this
      rcases this with rfl | rfl | rfl | rfl <;> exact ⟨_, rfl, by decide, by decide⟩
    obtain ⟨m, rfl, m1, m2⟩ := md
    refine ⟨trivial, _, rfl, ?_⟩
    simp
    exact ⟨c, m, rfl, cup2, m1, m2, fun S' D => .inr ⟨rfl, _, RSub.refl, _, Sub.refl, ⟨_, rfl⟩, D.cup⟩⟩
  · rintro ρ1 S2 ⟨y, rfl, cup2⟩
    refine ⟨trivial, ?_⟩
    simp
    refine ⟨by omega, by omega, by omega, ?_⟩
    refine isp_ok (ks := [[1, 2, 3], [3, 4]]) (os := [3, 4]) (f := 1) (b := 2) (vs := [2, 1, 0]) Kn_two ⟨by decide, by decide⟩ (by decide) (by decide) rfl (by decide) ?_
    rw [show paperB [[1, 2, 3], [3, 4]] [3, 4] 1 2 [2, 1, 0] = false by decide]
    refine .inl ⟨rfl, by omega, ?_⟩
    refine isp_ok (ks := []) (os := []) (f := 5) (b := 3) (vs := [3]) Kn_nil ⟨by decide, by decide⟩ (by decide) (by decide) rfl (by decide) ?_
    rw [show paperB [] [] 5 3 [3] = false by decide]
    refine .inl ⟨rfl, ?_⟩
    refine ⟨c, 20, rfl, cup2, by decide, by decide, fun os S3 l3 b3 D3 => ?_⟩
    have O : Oc os := ⟨by omega, b3⟩
    simp [aLen, tI, e_lcP, e_rng1, aAdd]
    refine ⟨by omega, by omega, ?_⟩
    refine lcP_b (List.range (os.length + 1)) (fun n => D.int (0 + (n : Nat) * 1)) (fun _ => true) (fun n => D.int ((os.length : Int) - n)) (by rw [intsFrom_map]) (fun _ _ => trivial) (fun n hn S4 u => ⟨_, rfl, ?_⟩) (by simp; omega) fun q hq => ?_
    · simp [wipeD, aSub]
    · rw [filter_yes]
      refine tupl_at put_same ?_
      rw [del_put hq]
      have pe : (List.range (os.length + 1)).map (fun n : Nat => D.int ((os.length : Int) - (n : Int))) = (paper [] os 5).map D.int := by
        unfold paper
        rw [List.map_map]
        refine List.map_congr_left fun n hn => ?_
        have hn := List.mem_range.mp hn
        simp only [Function.comp]
        rw [Lp_nil (os.length - n) n (by omega)]
        congr 1
        omega
      rw [pe]
      have L0 : Lp [] os 5 0 = os.length := Lp_nil os.length 0 (by omega)
      have V := paper_val (f := 5) Kn_nil O (by decide)
      refine isp_ok (ks := []) (os := os) (f := 5) (vs := paper [] os 5) Kn_nil O (by decide) ⟨by omega, by omega⟩ V.len V.rng ?_
      rw [paper_ok Kn_nil (by omega)]
      refine .inr ⟨rfl, ?_⟩
      refine ⟨[], os, 5, _, rfl, Kn_nil, O, by decide, ⟨by omega, by omega⟩, ?_⟩
      rw [if_neg (by omega)]
      exact ⟨rfl, rtS (h S3)⟩
end DW.K48
namespace DW.K48
open PySem PySem.Spec PyProof.Rows L2
/-! the walk, printed by gen.py -/
def top (i : Nat) : Stmt := PySem.Challenge.pw_layersheld_k48_whole_price_papers.main.body.getD i (.Pass ⟨0, 0, 0, 0⟩)
structure Txt (K : PySem.W.Frag) (mg : Str → Option Value) : Prop where
  b_abs : mg "abs" = none
  b_all : mg "all" = none
  b_any : mg "any" = none
  b_bool : mg "bool" = none
  b_enumerate : mg "enumerate" = none
  b_int : mg "int" = none
  b_isinstance : mg "isinstance" = none
  b_len : mg "len" = none
  b_list : mg "list" = none
  b_max : mg "max" = none
  b_min : mg "min" = none
  b_range : mg "range" = none
  b_set : mg "set" = none
  b_str : mg "str" = none
  b_tuple : mg "tuple" = none
  g_BOUND : ∃ t, mg "BOUND" = some (.int 1000000 t)
  g_FRAME : ∃ t, mg "FRAME" = some (.int 100 t)
  g_KNOWN : ∃ t, mg "KNOWN" = some (.int 64 t)
  g_OCTETS : ∃ t, mg "OCTETS" = some (.int 5000 t)
  g_SIZE : ∃ t, mg "SIZE" = some (.int 512 t)
theorem z_BOUND : Z "BOUND" := z_of
theorem z_FRAME : Z "FRAME" := z_of
theorem z_KNOWN : Z "KNOWN" := z_of
theorem z_OCTETS : Z "OCTETS" := z_of
theorem z_SIZE : Z "SIZE" := z_of
theorem z__law_cup : Z "_law_cup" := z_of
theorem z__law_file : Z "_law_file" := z_of
theorem z__law_is_paper : Z "_law_is_paper" := z_of
theorem z__law_known : Z "_law_known" := z_of
theorem z__law_least : Z "_law_least" := z_of
theorem z__law_octets : Z "_law_octets" := z_of
theorem z__law_right : Z "_law_right" := z_of
theorem z__law_roll : Z "_law_roll" := z_of
theorem z__law_same : Z "_law_same" := z_of
theorem z__law_some : Z "_law_some" := z_of
theorem z__law_steps : Z "_law_steps" := z_of
theorem z_abs : Z "abs" := z_of
theorem z_all : Z "all" := z_of
theorem z_any : Z "any" := z_of
theorem z_at : Z "at" := z_of
theorem z_back : Z "back" := z_of
theorem z_bad : Z "bad" := z_of
theorem z_base : Z "base" := z_of
theorem z_bool : Z "bool" := z_of
theorem z_bound : Z "bound" := z_of
theorem z_cell : Z "cell" := z_of
theorem z_chunk : Z "chunk" := z_of
theorem z_cup : Z "cup" := z_of
theorem z_deep : Z "deep" := z_of
theorem z_due : Z "due" := z_of
theorem z_enumerate : Z "enumerate" := z_of
theorem z_fits_known : Z "fits_known" := z_of
theorem z_fits_octets : Z "fits_octets" := z_of
theorem z_found : Z "found" := z_of
theorem z_frame : Z "frame" := z_of
theorem z_high : Z "high" := z_of
theorem z_index : Z "index" := z_of
theorem z_int : Z "int" := z_of
theorem z_is_price_paper : Z "is_price_paper" := z_of
theorem z_is_tuple_of : Z "is_tuple_of" := z_of
theorem z_is_whole : Z "is_whole" := z_of
theorem z_isinstance : Z "isinstance" := z_of
theorem z_known : Z "known" := z_of
theorem z_least : Z "least" := z_of
theorem z_least_price : Z "least_price" := z_of
theorem z_len : Z "len" := z_of
theorem z_list : Z "list" := z_of
theorem z_low : Z "low" := z_of
theorem z_many : Z "many" := z_of
theorem z_max : Z "max" := z_of
theorem z_min : Z "min" := z_of
theorem z_more : Z "more" := z_of
theorem z_most : Z "most" := z_of
theorem z_need_all : Z "need_all" := z_of
theorem z_need_known : Z "need_known" := z_of
theorem z_octets : Z "octets" := z_of
theorem z_odd : Z "odd" := z_of
theorem z_odds : Z "odds" := z_of
theorem z_one : Z "one" := z_of
theorem z_paper : Z "paper" := z_of
theorem z_price : Z "price" := z_of
theorem z_price_paper : Z "price_paper" := z_of
theorem z_prices_in : Z "prices_in" := z_of
theorem z_range : Z "range" := z_of
theorem z_row : Z "row" := z_of
theorem z_rows : Z "rows" := z_of
theorem z_script : Z "script" := z_of
theorem z_set : Z "set" := z_of
theorem z_size : Z "size" := z_of
theorem z_steps_at : Z "steps_at" := z_of
theorem z_str : Z "str" := z_of
theorem z_table : Z "table" := z_of
theorem z_there : Z "there" := z_of
theorem z_things : Z "things" := z_of
theorem z_told : Z "told" := z_of
theorem z_tuple : Z "tuple" := z_of
theorem z_value : Z "value" := z_of
theorem bt_abs : bootBuiltins "abs" = some (.builtin "abs") := by kernel_rfl
theorem bt_all : bootBuiltins "all" = some (.builtin "all") := by kernel_rfl
theorem bt_any : bootBuiltins "any" = some (.builtin "any") := by kernel_rfl
theorem bt_bool : bootBuiltins "bool" = some (.type "bool") := by kernel_rfl
theorem bt_int : bootBuiltins "int" = some (.type "int") := by kernel_rfl
theorem bt_isinstance : bootBuiltins "isinstance" = some (.builtin "isinstance") := by kernel_rfl
theorem bt_len : bootBuiltins "len" = some (.builtin "len") := by kernel_rfl
theorem bt_list : bootBuiltins "list" = some (.type "list") := by kernel_rfl
theorem bt_max : bootBuiltins "max" = some (.builtin "max") := by kernel_rfl
theorem bt_min : bootBuiltins "min" = some (.builtin "min") := by kernel_rfl
theorem bt_set : bootBuiltins "set" = some (.type "set") := by kernel_rfl
theorem bt_str : bootBuiltins "str" = some (.type "str") := by kernel_rfl
theorem bt_tuple : bootBuiltins "tuple" = some (.type "tuple") := by kernel_rfl
section
variable {P : Program} {w : World} {K : PySem.W.Frag} {mg : Str → Option Value} {base : Heap}
abbrev s_is_whole : Stmt := top 6
abbrev N_is_whole : List Str := ["value", "low", "high"]
theorem sc_is_whole : FnScope N_is_whole ["value", "low", "high"] (defScope s_is_whole) := ⟨rfl, rfl, rfl, by decide +kernel, rfl, by decide +kernel, by decide +kernel⟩
theorem h_is_whole {k : Nat} {sp : DC} (T : Txt K mg) (D : Def K mg "is_whole" s_is_whole ["value", "low", "high"]) (len : ∀ ds S Q, sp ds S Q → ds.length = 3)
    (hq : ∀ ds S Q, sp ds S Q → t_is_whole (endsD Q) (startD 3 ds) S) : Here P w K mg base (k + 1) "is_whole" ["value", "low", "high"] sp :=
  d_here (t := t_is_whole) D sc_is_whole len (fun f cdv A outer s H E hr => by
    have hu := hr.units
    unfold t_is_whole
    refine bd_one ?_
    ·
      exact (sd_ret (ed_and (kB z_isinstance cd_isI T.b_isinstance bt_isinstance (kcons (kl 0 z_value) (kcons (kty z_int T.b_int bt_int) ad_nil))) (ed_and (ed_not (kB z_isinstance cd_isI T.b_isinstance bt_isinstance (kcons (kl 0 z_value) (kcons (kty z_bool T.b_bool bt_bool) ad_nil)))) (ed_one (kchain od_le od_le (kl 1 z_low) (kl 0 z_value) (kl 2 z_high))))))
  ) hq
abbrev s_is_tuple_of : Stmt := top 7
abbrev N_is_tuple_of : List Str := ["value", "low", "high"]
theorem sc_is_tuple_of : FnScope N_is_tuple_of ["value", "low", "high"] (defScope s_is_tuple_of) := ⟨rfl, rfl, rfl, by decide +kernel, rfl, by decide +kernel, by decide +kernel⟩
theorem h_is_tuple_of {k : Nat} {sp : DC} (T : Txt K mg) (D : Def K mg "is_tuple_of" s_is_tuple_of ["value", "low", "high"]) (len : ∀ ds S Q, sp ds S Q → ds.length = 3)
    (hq : ∀ ds S Q, sp ds S Q → t_is_tuple_of (endsD Q) (startD 3 ds) S) : Here P w K mg base (k + 1) "is_tuple_of" ["value", "low", "high"] sp :=
  d_here (t := t_is_tuple_of) D sc_is_tuple_of len (fun f cdv A outer s H E hr => by
    have hu := hr.units
    unfold t_is_tuple_of
    refine bd_one ?_
    ·
      exact (sd_ret (ed_and (kB z_isinstance cd_isI T.b_isinstance bt_isinstance (kcons (kl 0 z_value) (kcons (kty z_tuple T.b_tuple bt_tuple) ad_nil))) (ed_one (kchain od_le od_le (kl 1 z_low) (kB z_len cd_len T.b_len bt_len (kcons (kl 0 z_value) ad_nil)) (kl 2 z_high)))))
  ) hq
abbrev s_fits_octets : Stmt := top 8
abbrev N_fits_octets : List Str := ["value", "most", "one"]
theorem sc_fits_octets : FnScope N_fits_octets ["value", "most"] (defScope s_fits_octets) := ⟨rfl, rfl, rfl, by decide +kernel, rfl, by decide +kernel, by decide +kernel⟩
theorem h_fits_octets {k : Nat} {sp sp_is_whole sp_is_tuple_of : DC} (T : Txt K mg) (D : Def K mg "fits_octets" s_fits_octets ["value", "most"]) (h_is_whole : Here P w K mg base k "is_whole" ["value", "low", "high"] sp_is_whole) (h_is_tuple_of : Here P w K mg base k "is_tuple_of" ["value", "low", "high"] sp_is_tuple_of) (len : ∀ ds S Q, sp ds S Q → ds.length = 2)
    (hq : ∀ ds S Q, sp ds S Q → t_fits_octets sp_is_whole sp_is_tuple_of (endsD Q) (startD 3 ds) S) : Here P w K mg base (k + 1) "fits_octets" ["value", "most"] sp :=
  d_here (t := t_fits_octets sp_is_whole sp_is_tuple_of) D sc_fits_octets len (fun f cdv A outer s H E hr => by
    have hu := hr.units
    unfold t_fits_octets
    refine bd_one ?_
    ·
      exact (sd_ret (ed_and (kH z_is_tuple_of h_is_tuple_of hr (kcons (kl 0 z_value) (kcons ed_int (kcons (kl 1 z_most) ad_nil)))) (ed_one (kB z_all (cd_all true (by kernel_rfl)) T.b_all bt_all (kcons (kLP [("one", 2)] sc_fits_octets.nd (id_seq (kl 0 z_value)) (fun _ _ _ _ _ => (gl 2 sc_fits_octets.nd)) (fun _ _ _ _ _ => td_nil) (fun _ _ _ _ _ => (kH z_is_whole h_is_whole hr (kcons (kl 2 z_one) (kcons ed_int (kcons ed_int ad_nil)))))) ad_nil)))))
  ) hq
abbrev s_fits_known : Stmt := top 15
abbrev N_fits_known : List Str := ["value", "one"]
theorem sc_fits_known : FnScope N_fits_known ["value"] (defScope s_fits_known) := ⟨rfl, rfl, rfl, by decide +kernel, rfl, by decide +kernel, by decide +kernel⟩
theorem h_fits_known {k : Nat} {sp sp_fits_octets sp_is_tuple_of : DC} (T : Txt K mg) (D : Def K mg "fits_known" s_fits_known ["value"]) (h_fits_octets : Here P w K mg base k "fits_octets" ["value", "most"] sp_fits_octets) (h_is_tuple_of : Here P w K mg base k "is_tuple_of" ["value", "low", "high"] sp_is_tuple_of) (len : ∀ ds S Q, sp ds S Q → ds.length = 1)
    (hq : ∀ ds S Q, sp ds S Q → t_fits_known sp_fits_octets sp_is_tuple_of (endsD Q) (startD 2 ds) S) : Here P w K mg base (k + 1) "fits_known" ["value"] sp :=
  d_here (t := t_fits_known sp_fits_octets sp_is_tuple_of) D sc_fits_known len (fun f cdv A outer s H E hr => by
    have hu := hr.units
    unfold t_fits_known
    refine bd_cons ?_ ?_
    ·
      refine sd_if (wd_or (td_not (kval (kH z_is_tuple_of h_is_tuple_of hr (kcons (kl 0 z_value) (kcons ed_int (kcons (kgI z_KNOWN T.g_KNOWN) ad_nil)))))) (wd_or1 (td_not (kval (kB z_all (cd_all true (by kernel_rfl)) T.b_all bt_all (kcons (kLP [("one", 1)] sc_fits_known.nd (id_seq (kl 0 z_value)) (fun _ _ _ _ _ => (gl 1 sc_fits_known.nd)) (fun _ _ _ _ _ => td_nil) (fun _ _ _ _ _ => (ed_and (kH z_fits_octets h_fits_octets hr (kcons (kl 1 z_one) (kcons (kgI z_SIZE T.g_SIZE) ad_nil))) (ed_one (kcmp (od_ne hu) (kl 1 z_one) (ed_tup ad_nil)))))) ad_nil)))))).pt ?_ ?_
      ·
        refine bd_one ?_
        ·
          exact (sd_ret ed_bl)
      ·
        exact bd_nil
    refine bd_one ?_
    ·
      exact (sd_ret (kcmp (od_eq hu) (kLS z_len z_set hu T.b_len T.b_set (kl 0 z_value)) (kB z_len cd_len T.b_len bt_len (kcons (kl 0 z_value) ad_nil))))
  ) hq
abbrev s_need_known : Stmt := top 16
abbrev N_need_known : List Str := ["known"]
theorem sc_need_known : FnScope N_need_known ["known"] (defScope s_need_known) := ⟨rfl, rfl, rfl, by decide +kernel, rfl, by decide +kernel, by decide +kernel⟩
theorem h_need_known {k : Nat} {sp sp_fits_known : DC} (T : Txt K mg) (D : Def K mg "need_known" s_need_known ["known"]) (h_fits_known : Here P w K mg base k "fits_known" ["value"] sp_fits_known) (len : ∀ ds S Q, sp ds S Q → ds.length = 1)
    (hq : ∀ ds S Q, sp ds S Q → t_need_known sp_fits_known (endsD Q) (startD 1 ds) S) : Here P w K mg base (k + 1) "need_known" ["known"] sp :=
  d_here (t := t_need_known sp_fits_known) D sc_need_known len (fun f cdv A outer s H E hr => by
    have hu := hr.units
    unfold t_need_known
    refine bd_one ?_
    ·
      refine sd_if (td_not (kval (kH z_fits_known h_fits_known hr (kcons (kl 0 z_known) ad_nil)))) ?_ ?_
      ·
        exact bd_never
      ·
        exact bd_nil
  ) hq
abbrev s_steps_at : Stmt := top 17
abbrev N_steps_at : List Str := ["known", "octets", "at", "frame", "rows", "index", "chunk"]
theorem sc_steps_at : FnScope N_steps_at ["known", "octets", "at", "frame"] (defScope s_steps_at) := ⟨rfl, rfl, rfl, by decide +kernel, rfl, by decide +kernel, by decide +kernel⟩
theorem h_steps_at {k : Nat} {sp : DC} (T : Txt K mg) (D : Def K mg "steps_at" s_steps_at ["known", "octets", "at", "frame"]) (len : ∀ ds S Q, sp ds S Q → ds.length = 4)
    (hq : ∀ ds S Q, sp ds S Q → t_steps_at (endsD Q) (startD 7 ds) S) : Here P w K mg base (k + 1) "steps_at" ["known", "octets", "at", "frame"] sp :=
  d_here (t := t_steps_at) D sc_steps_at len (fun f cdv A outer s H E hr => by
    have hu := hr.units
    unfold t_steps_at
    refine bd_cons ?_ ?_
    ·
      exact (sl 4 (ed_lst (kcons (ed_tup (kcons ed_int (kcons (ed_op od_add (kl 2 z_at) ed_int) (kcons ed_non ad_nil)))) ad_nil)) sc_steps_at.nd)
    refine bd_cons ?_ ?_
    ·
      refine sF PassesOwn.never (iE z_enumerate T.b_enumerate (kcons (kl 0 z_known) ad_nil)) (gtup (gcons (gl 5 sc_steps_at.nd) (gcons (gl 6 sc_steps_at.nd) gnil))) ?_
      ·
        refine bd_one ?_
        ·
          refine sd_if (kcmpT (od_eq hu) (ed_slice (kl 1 z_octets) (pd_some (kl 2 z_at)) (pd_some (ed_op od_add (kl 2 z_at) (kB z_len cd_len T.b_len bt_len (kcons (kl 6 z_chunk) ad_nil))))) (kl 6 z_chunk)) ?_ ?_
          ·
            refine bd_one ?_
            ·
              exact (sE (kbm (.inl rfl) F.plainAttrs_list F.slot_list_append F.type_list_append md_append (kl 4 z_rows) (kcons (ed_tup (kcons (kl 3 z_frame) (kcons (ed_op od_add (kl 2 z_at) (kB z_len cd_len T.b_len bt_len (kcons (kl 6 z_chunk) ad_nil))) (kcons (kl 5 z_index) ad_nil)))) ad_nil)))
          ·
            exact bd_nil
    refine bd_one ?_
    ·
      exact (sd_ret (kl 4 z_rows))
  ) hq
abbrev s_prices_in : Stmt := top 18
abbrev N_prices_in : List Str := ["known", "octets", "frame", "found", "at", "rows", "least", "price", "there", "index", "row"]
theorem sc_prices_in : FnScope N_prices_in ["known", "octets", "frame"] (defScope s_prices_in) := ⟨rfl, rfl, rfl, by decide +kernel, rfl, by decide +kernel, by decide +kernel⟩
theorem h_prices_in {k : Nat} {sp sp_steps_at : DC} (T : Txt K mg) (D : Def K mg "prices_in" s_prices_in ["known", "octets", "frame"]) (h_steps_at : Here P w K mg base k "steps_at" ["known", "octets", "at", "frame"] sp_steps_at) (len : ∀ ds S Q, sp ds S Q → ds.length = 3)
    (hq : ∀ ds S Q, sp ds S Q → t_prices_in sp_steps_at (endsD Q) (startD 11 ds) S) : Here P w K mg base (k + 1) "prices_in" ["known", "octets", "frame"] sp :=
  d_here (t := t_prices_in sp_steps_at) D sc_prices_in len (fun f cdv A outer s H E hr => by
    have hu := hr.units
    unfold t_prices_in
    refine bd_cons ?_ ?_
    ·
      exact (sc 3 (ed_lst (kcons (ed_tup (kcons ed_int (kcons ed_non ad_nil))) ad_nil)) sc_prices_in.nd)
    refine bd_cons ?_ ?_
    ·
      refine sF PassesOwn.never (iR3 z_range T.b_range (kcons (ed_op od_sub (kB z_len cd_len T.b_len bt_len (kcons (kc 1 z_octets) ad_nil)) ed_int) (kcons ed_negI (kcons ed_negI ad_nil)))) (gl 4 sc_prices_in.nd) ?_
      ·
        refine bd_cons ?_ ?_
        ·
          exact (sLP 5 [("price", 7), ("there", 8), ("index", 9)] sc_prices_in.nd (id_seq (kH z_steps_at h_steps_at hr (kcons (kl 0 z_known) (kcons (kc 1 z_octets) (kcons (kl 4 z_at) (kcons (kl 2 z_frame) ad_nil)))))) (fun _ _ _ _ _ => (gtup (gcons (gl 7 sc_prices_in.nd) (gcons (gl 8 sc_prices_in.nd) (gcons (gl 9 sc_prices_in.nd) gnil))))) (fun _ _ _ _ _ => td_nil) (fun _ _ _ _ _ => (ed_tup (kcons (ed_op od_add (kl 7 z_price) (kix hu (kix hu (kc 3 z_found) (ed_op od_sub (kB z_len cd_len T.b_len bt_len (kcons (kc 1 z_octets) ad_nil)) (kl 8 z_there))) ed_int)) (kcons (kl 8 z_there) (kcons (kl 9 z_index) ad_nil))))))
        refine bd_cons ?_ ?_
        ·
          exact (sc 6 (kB z_min (cd_min true (by kernel_rfl)) T.b_min bt_min (kcons (kLP [("row", 10)] sc_prices_in.nd (id_seq (kl 5 z_rows)) (fun _ _ _ _ _ => (gl 10 sc_prices_in.nd)) (fun _ _ _ _ _ => td_nil) (fun _ _ _ _ _ => (kix hu (kl 10 z_row) ed_int))) ad_nil)) sc_prices_in.nd)
        refine bd_one ?_
        ·
          exact (sE (kbm (.inl rfl) F.plainAttrs_list F.slot_list_append F.type_list_append md_append (kc 3 z_found) (kcons (ed_tup (kcons (kc 6 z_least) (kcons (kix hu (kLP [("row", 10)] sc_prices_in.nd (id_seq (kl 5 z_rows)) (fun _ _ _ _ _ => (gl 10 sc_prices_in.nd)) (fun _ _ _ _ _ => (td_one (kcmpT (od_eq hu) (kix hu (kl 10 z_row) ed_int) (kc 6 z_least)))) (fun _ _ _ _ _ => (ed_slice (kl 10 z_row) (pd_some ed_int) pd_none))) ed_int) ad_nil))) ad_nil)))
    refine bd_one ?_
    ·
      exact (sd_ret (ed_revL (kc 3 z_found)))
  ) hq
abbrev s_need_all : Stmt := top 19
abbrev N_need_all : List Str := ["known", "octets", "frame"]
theorem sc_need_all : FnScope N_need_all ["known", "octets", "frame"] (defScope s_need_all) := ⟨rfl, rfl, rfl, by decide +kernel, rfl, by decide +kernel, by decide +kernel⟩
theorem h_need_all {k : Nat} {sp sp_need_known sp_fits_octets sp_is_whole : DC} (T : Txt K mg) (D : Def K mg "need_all" s_need_all ["known", "octets", "frame"]) (h_need_known : Here P w K mg base k "need_known" ["known"] sp_need_known) (h_fits_octets : Here P w K mg base k "fits_octets" ["value", "most"] sp_fits_octets) (h_is_whole : Here P w K mg base k "is_whole" ["value", "low", "high"] sp_is_whole) (len : ∀ ds S Q, sp ds S Q → ds.length = 3)
    (hq : ∀ ds S Q, sp ds S Q → t_need_all sp_need_known sp_fits_octets sp_is_whole (endsD Q) (startD 3 ds) S) : Here P w K mg base (k + 1) "need_all" ["known", "octets", "frame"] sp :=
  d_here (t := t_need_all sp_need_known sp_fits_octets sp_is_whole) D sc_need_all len (fun f cdv A outer s H E hr => by
    have hu := hr.units
    unfold t_need_all
    refine bd_cons ?_ ?_
    ·
      exact (sE (kH z_need_known h_need_known hr (kcons (kl 0 z_known) ad_nil)))
    refine bd_cons ?_ ?_
    ·
      refine sd_if (td_not (kval (kH z_fits_octets h_fits_octets hr (kcons (kl 1 z_octets) (kcons (kgI z_OCTETS T.g_OCTETS) ad_nil))))) ?_ ?_
      ·
        exact bd_never
      ·
        exact bd_nil
    refine bd_one ?_
    ·
      refine sd_if (td_not (kval (kH z_is_whole h_is_whole hr (kcons (kl 2 z_frame) (kcons ed_int (kcons (kgI z_FRAME T.g_FRAME) ad_nil)))))) ?_ ?_
      ·
        exact bd_never
      ·
        exact bd_nil
  ) hq
abbrev s_least_price : Stmt := top 20
abbrev N_least_price : List Str := ["known", "octets", "frame"]
theorem sc_least_price : FnScope N_least_price ["known", "octets", "frame"] (defScope s_least_price) := ⟨rfl, rfl, rfl, by decide +kernel, rfl, by decide +kernel, by decide +kernel⟩
theorem h_least_price {k : Nat} {sp sp_need_all sp_prices_in : DC} (T : Txt K mg) (D : Def K mg "least_price" s_least_price ["known", "octets", "frame"]) (h_need_all : Here P w K mg base k "need_all" ["known", "octets", "frame"] sp_need_all) (h_prices_in : Here P w K mg base k "prices_in" ["known", "octets", "frame"] sp_prices_in) (len : ∀ ds S Q, sp ds S Q → ds.length = 3)
    (hq : ∀ ds S Q, sp ds S Q → t_least_price sp_need_all sp_prices_in (endsD Q) (startD 3 ds) S) : Here P w K mg base (k + 1) "least_price" ["known", "octets", "frame"] sp :=
  d_here (t := t_least_price sp_need_all sp_prices_in) D sc_least_price len (fun f cdv A outer s H E hr => by
    have hu := hr.units
    unfold t_least_price
    refine bd_cons ?_ ?_
    ·
      exact (sE (kH z_need_all h_need_all hr (kcons (kl 0 z_known) (kcons (kl 1 z_octets) (kcons (kl 2 z_frame) ad_nil)))))
    refine bd_one ?_
    ·
      exact (sd_ret (kix hu (kix hu (kH z_prices_in h_prices_in hr (kcons (kl 0 z_known) (kcons (kl 1 z_octets) (kcons (kl 2 z_frame) ad_nil)))) ed_int) ed_int))
  ) hq
abbrev s_price_paper : Stmt := top 21
abbrev N_price_paper : List Str := ["known", "octets", "frame", "bound", "table", "price", "step"]
theorem sc_price_paper : FnScope N_price_paper ["known", "octets", "frame", "bound"] (defScope s_price_paper) := ⟨rfl, rfl, rfl, by decide +kernel, rfl, by decide +kernel, by decide +kernel⟩
theorem h_price_paper {k : Nat} {sp sp_need_all sp_is_whole sp_prices_in : DC} (T : Txt K mg) (D : Def K mg "price_paper" s_price_paper ["known", "octets", "frame", "bound"]) (h_need_all : Here P w K mg base k "need_all" ["known", "octets", "frame"] sp_need_all) (h_is_whole : Here P w K mg base k "is_whole" ["value", "low", "high"] sp_is_whole) (h_prices_in : Here P w K mg base k "prices_in" ["known", "octets", "frame"] sp_prices_in) (len : ∀ ds S Q, sp ds S Q → ds.length = 4)
    (hq : ∀ ds S Q, sp ds S Q → t_price_paper sp_need_all sp_is_whole sp_prices_in (endsD Q) (startD 7 ds) S) : Here P w K mg base (k + 1) "price_paper" ["known", "octets", "frame", "bound"] sp :=
  d_here (t := t_price_paper sp_need_all sp_is_whole sp_prices_in) D sc_price_paper len (fun f cdv A outer s H E hr => by
    have hu := hr.units
    unfold t_price_paper
    refine bd_cons ?_ ?_
    ·
      exact (sE (kH z_need_all h_need_all hr (kcons (kl 0 z_known) (kcons (kl 1 z_octets) (kcons (kl 2 z_frame) ad_nil)))))
    refine bd_cons ?_ ?_
    ·
      refine sd_if (td_not (kval (kH z_is_whole h_is_whole hr (kcons (kl 3 z_bound) (kcons ed_int (kcons (kgI z_BOUND T.g_BOUND) ad_nil)))))) ?_ ?_
      ·
        exact bd_never
      ·
        exact bd_nil
    refine bd_cons ?_ ?_
    ·
      exact (sl 4 (kH z_prices_in h_prices_in hr (kcons (kl 0 z_known) (kcons (kl 1 z_octets) (kcons (kl 2 z_frame) ad_nil)))) sc_price_paper.nd)
    refine bd_one ?_
    ·
      exact (sd_ret (ed_if (kcmpT od_ge (kix hu (kix hu (kl 4 z_table) ed_int) ed_int) (kl 3 z_bound)) (kT z_tuple (cd_tupl true) T.b_tuple bt_tuple (kcons (kLP [("price", 5), ("step", 6)] sc_price_paper.nd (id_seq (kl 4 z_table)) (fun _ _ _ _ _ => (gtup (gcons (gl 5 sc_price_paper.nd) (gcons (gl 6 sc_price_paper.nd) gnil)))) (fun _ _ _ _ _ => td_nil) (fun _ _ _ _ _ => (kl 5 z_price))) ad_nil)) ed_non))
  ) hq
abbrev s_is_price_paper : Stmt := top 22
abbrev N_is_price_paper : List Str := ["known", "octets", "frame", "bound", "value", "size", "at", "rows", "price", "there", "index", "one"]
theorem sc_is_price_paper : FnScope N_is_price_paper ["known", "octets", "frame", "bound", "value"] (defScope s_is_price_paper) := ⟨rfl, rfl, rfl, by decide +kernel, rfl, by decide +kernel, by decide +kernel⟩
theorem h_is_price_paper {k : Nat} {sp sp_need_all sp_is_whole sp_is_tuple_of sp_steps_at : DC} (T : Txt K mg) (D : Def K mg "is_price_paper" s_is_price_paper ["known", "octets", "frame", "bound", "value"]) (h_need_all : Here P w K mg base k "need_all" ["known", "octets", "frame"] sp_need_all) (h_is_whole : Here P w K mg base k "is_whole" ["value", "low", "high"] sp_is_whole) (h_is_tuple_of : Here P w K mg base k "is_tuple_of" ["value", "low", "high"] sp_is_tuple_of) (h_steps_at : Here P w K mg base k "steps_at" ["known", "octets", "at", "frame"] sp_steps_at) (len : ∀ ds S Q, sp ds S Q → ds.length = 5)
    (hq : ∀ ds S Q, sp ds S Q → t_is_price_paper sp_need_all sp_is_whole sp_is_tuple_of sp_steps_at (endsD Q) (startD 12 ds) S) : Here P w K mg base (k + 1) "is_price_paper" ["known", "octets", "frame", "bound", "value"] sp :=
  d_here (t := t_is_price_paper sp_need_all sp_is_whole sp_is_tuple_of sp_steps_at) D sc_is_price_paper len (fun f cdv A outer s H E hr => by
    have hu := hr.units
    unfold t_is_price_paper
    refine bd_cons ?_ ?_
    ·
      exact (sE (kH z_need_all h_need_all hr (kcons (kl 0 z_known) (kcons (kl 1 z_octets) (kcons (kl 2 z_frame) ad_nil)))))
    refine bd_cons ?_ ?_
    ·
      refine sd_if (td_not (kval (kH z_is_whole h_is_whole hr (kcons (kl 3 z_bound) (kcons ed_int (kcons (kgI z_BOUND T.g_BOUND) ad_nil)))))) ?_ ?_
      ·
        exact bd_never
      ·
        exact bd_nil
    refine bd_cons ?_ ?_
    ·
      exact (sl 5 (ed_op od_add (kB z_len cd_len T.b_len bt_len (kcons (kl 1 z_octets) ad_nil)) ed_int) sc_is_price_paper.nd)
    refine bd_cons ?_ ?_
    ·
      refine sd_if (wd_or (td_not (kval (kH z_is_tuple_of h_is_tuple_of hr (kcons (kc 4 z_value) (kcons (kl 5 z_size) (kcons (kl 5 z_size) ad_nil)))))) (wd_or1 (td_not (kval (kB z_all (cd_all true (by kernel_rfl)) T.b_all bt_all (kcons (kLP [("one", 11)] sc_is_price_paper.nd (id_seq (kc 4 z_value)) (fun _ _ _ _ _ => (gl 11 sc_is_price_paper.nd)) (fun _ _ _ _ _ => td_nil) (fun _ _ _ _ _ => (kH z_is_whole h_is_whole hr (kcons (kl 11 z_one) (kcons ed_int (kcons (kgI z_BOUND T.g_BOUND) ad_nil)))))) ad_nil)))))).pt ?_ ?_
      ·
        refine bd_one ?_
        ·
          exact (sd_ret ed_bl)
      ·
        exact bd_nil
    refine bd_cons ?_ ?_
    ·
      refine sd_if (wd_or (kcmpT od_lt (kix hu (kc 4 z_value) ed_int) (kl 3 z_bound)) (wd_or1 (kcmpT od_gt (kix hu (kc 4 z_value) ed_negI) ed_int))).pt ?_ ?_
      ·
        refine bd_one ?_
        ·
          exact (sd_ret ed_bl)
      ·
        exact bd_nil
    refine bd_cons ?_ ?_
    ·
      refine sF PassesOwn.never (iR1 z_range T.b_range (kcons (kB z_len cd_len T.b_len bt_len (kcons (kl 1 z_octets) ad_nil)) ad_nil)) (gc 6 sc_is_price_paper.nd) ?_
      ·
        refine bd_cons ?_ ?_
        ·
          exact (sl 7 (kH z_steps_at h_steps_at hr (kcons (kl 0 z_known) (kcons (kl 1 z_octets) (kcons (kc 6 z_at) (kcons (kl 2 z_frame) ad_nil))))) sc_is_price_paper.nd)
        refine bd_one ?_
        ·
          refine sd_if (kval (kB z_any (cd_any true (by kernel_rfl)) T.b_any bt_any (kcons (kLP [("price", 8), ("there", 9), ("index", 10)] sc_is_price_paper.nd (id_seq (kl 7 z_rows)) (fun _ _ _ _ _ => (gtup (gcons (gl 8 sc_is_price_paper.nd) (gcons (gl 9 sc_is_price_paper.nd) (gcons (gl 10 sc_is_price_paper.nd) gnil))))) (fun _ _ _ _ _ => td_nil) (fun _ _ _ _ _ => (kcmp od_gt (kix hu (kc 4 z_value) (kc 6 z_at)) (ed_op od_add (kl 8 z_price) (kix hu (kc 4 z_value) (kl 9 z_there)))))) ad_nil))) ?_ ?_
          ·
            refine bd_one ?_
            ·
              exact (sd_ret ed_bl)
          ·
            exact bd_nil
    refine bd_one ?_
    ·
      exact (sd_ret ed_bl)
  ) hq
abbrev s__law_cup : Stmt := top 24
abbrev N__law_cup : List Str := ["script", "cell"]
theorem sc__law_cup : FnScope N__law_cup ["script"] (defScope s__law_cup) := ⟨rfl, rfl, rfl, by decide +kernel, rfl, by decide +kernel, by decide +kernel⟩
theorem h__law_cup {k : Nat} {sp : DC} (T : Txt K mg) (D : Def K mg "_law_cup" s__law_cup ["script"]) (len : ∀ ds S Q, sp ds S Q → ds.length = 1)
    (hq : ∀ ds S Q, sp ds S Q → t__law_cup (endsD Q) (startD 2 ds) S) : Here P w K mg base (k + 1) "_law_cup" ["script"] sp :=
  d_here (t := t__law_cup) D sc__law_cup len (fun f cdv A outer s H E hr => by
    have hu := hr.units
    unfold t__law_cup
    refine bd_cons ?_ ?_
    ·
      exact (sl 1 (kB z_abs cd_abs T.b_abs bt_abs (kcons (kix hu (ed_op od_add (kT z_list (cd_list (by kernel_rfl)) T.b_list bt_list (kcons (kl 0 z_script) ad_nil)) (ed_lst (kcons ed_int ad_nil))) ed_int) ad_nil)) sc__law_cup.nd)
    refine bd_one ?_
    ·
      exact (sd_ret (ed_lst (kcons (ed_if (kcmpT od_ge (kl 1 z_cell) (ed_op od_pow ed_int ed_int)) (ed_op od_fdiv (kl 1 z_cell) ed_int) ed_int) (kcons (ed_op od_add (ed_op od_mod (kT z_int cd_int T.b_int bt_int (kcons (ed_op od_add (ed_op od_mul2 (kl 1 z_cell) ed_int) ed_int) ad_nil)) ed_int) ed_int) ad_nil))))
  ) hq
abbrev s__law_roll : Stmt := top 25
abbrev N__law_roll : List Str := ["cup", "many", "found", "deep"]
theorem sc__law_roll : FnScope N__law_roll ["cup", "many"] (defScope s__law_roll) := ⟨rfl, rfl, rfl, by decide +kernel, rfl, by decide +kernel, by decide +kernel⟩
theorem h__law_roll {k : Nat} {sp : DC} (T : Txt K mg) (D : Def K mg "_law_roll" s__law_roll ["cup", "many"]) (len : ∀ ds S Q, sp ds S Q → ds.length = 2)
    (hq : ∀ ds S Q, sp ds S Q → t__law_roll (endsD Q) (startD 4 ds) S) : Here P w K mg base (k + 1) "_law_roll" ["cup", "many"] sp :=
  d_here (t := t__law_roll) D sc__law_roll len (fun f cdv A outer s H E hr => by
    have hu := hr.units
    unfold t__law_roll
    refine bd_cons ?_ ?_
    ·
      refine sd_if (kcmpT od_gt (kix hu (kl 0 z_cup) ed_int) ed_int) ?_ ?_
      ·
        refine bd_cons ?_ ?_
        ·
          exact (sl 2 (ed_op od_mod (kT z_int cd_int T.b_int bt_int (kcons (kix hu (kl 0 z_cup) ed_int) ad_nil)) (kl 1 z_many)) sc__law_roll.nd)
        refine bd_cons ?_ ?_
        ·
          exact (sU hu (kl 0 z_cup) ed_int (ed_op od_fdiv (kix hu (kl 0 z_cup) ed_int) (kl 1 z_many)))
        refine bd_one ?_
        ·
          exact (sd_ret (kl 2 z_found))
      ·
        exact bd_nil
    refine bd_cons ?_ ?_
    ·
      exact (sU hu (kl 0 z_cup) ed_int (ed_op od_mod (kT z_int cd_int T.b_int bt_int (kcons (ed_op od_add (ed_op od_mul2 (kix hu (kl 0 z_cup) ed_int) ed_int) ed_int) ad_nil)) ed_int))
    refine bd_cons ?_ ?_
    ·
      exact (sl 3 (ed_op od_mod (kT z_int cd_int T.b_int bt_int (kcons (ed_op od_mul2 (kix hu (kl 0 z_cup) ed_int) (ed_op od_add (kix hu (kl 0 z_cup) ed_int) ed_int)) ad_nil)) ed_int) sc__law_roll.nd)
    refine bd_one ?_
    ·
      exact (sd_ret (ed_op od_mod (kT z_int cd_int T.b_int bt_int (kcons (ed_op od_fdiv (kl 3 z_deep) ed_int) ad_nil)) (kl 1 z_many)))
  ) hq
abbrev s__law_same : Stmt := top 26
abbrev N__law_same : List Str := ["told", "due", "at"]
theorem sc__law_same : FnScope N__law_same ["told", "due"] (defScope s__law_same) := ⟨rfl, rfl, rfl, by decide +kernel, rfl, by decide +kernel, by decide +kernel⟩
theorem h__law_same {k : Nat} {sp sp__law_same : DC} (T : Txt K mg) (D : Def K mg "_law_same" s__law_same ["told", "due"]) (h__law_same : Here P w K mg base k "_law_same" ["told", "due"] sp__law_same) (len : ∀ ds S Q, sp ds S Q → ds.length = 2)
    (hq : ∀ ds S Q, sp ds S Q → t__law_same sp__law_same (endsD Q) (startD 3 ds) S) : Here P w K mg base (k + 1) "_law_same" ["told", "due"] sp :=
  d_here (t := t__law_same sp__law_same) D sc__law_same len (fun f cdv A outer s H E hr => by
    have hu := hr.units
    unfold t__law_same
    refine bd_cons ?_ ?_
    ·
      refine sd_if (kval (kB z_isinstance cd_isI T.b_isinstance bt_isinstance (kcons (kc 1 z_due) (kcons (kty z_tuple T.b_tuple bt_tuple) ad_nil)))) ?_ ?_
      ·
        refine bd_cons ?_ ?_
        ·
          refine sd_if (wd_or (td_not (kval (kB z_isinstance cd_isI T.b_isinstance bt_isinstance (kcons (kc 0 z_told) (kcons (kty z_tuple T.b_tuple bt_tuple) ad_nil))))) (wd_or1 (kcmpT (od_ne hu) (kB z_len cd_len T.b_len bt_len (kcons (kc 0 z_told) ad_nil)) (kB z_len cd_len T.b_len bt_len (kcons (kc 1 z_due) ad_nil))))).pt ?_ ?_
          ·
            refine bd_one ?_
            ·
              exact (sd_ret ed_bl)
          ·
            exact bd_nil
        refine bd_one ?_
        ·
          exact (sd_ret (kB z_all (cd_all true (by kernel_rfl)) T.b_all bt_all (kcons (kLP [("at", 2)] sc__law_same.nd (iR1 z_range T.b_range (kcons (kB z_len cd_len T.b_len bt_len (kcons (kc 1 z_due) ad_nil)) ad_nil)) (fun _ _ _ _ _ => (gl 2 sc__law_same.nd)) (fun _ _ _ _ _ => td_nil) (fun _ _ _ _ _ => (kH z__law_same h__law_same hr (kcons (kix hu (kc 0 z_told) (kl 2 z_at)) (kcons (kix hu (kc 1 z_due) (kl 2 z_at)) ad_nil))))) ad_nil)))
      ·
        exact bd_nil
    refine bd_cons ?_ ?_
    ·
      refine sd_if (kcmpT od_isN (kc 1 z_due) ed_non) ?_ ?_
      ·
        refine bd_one ?_
        ·
          exact (sd_ret (kcmp od_isN (kc 0 z_told) ed_non))
      ·
        exact bd_nil
    refine bd_cons ?_ ?_
    ·
      refine sd_if (kval (kB z_isinstance cd_isI T.b_isinstance bt_isinstance (kcons (kc 1 z_due) (kcons (kty z_bool T.b_bool bt_bool) ad_nil)))) ?_ ?_
      ·
        refine bd_one ?_
        ·
          exact (sd_ret (ed_if (kval (kc 1 z_due)) (kcmp od_isB (kc 0 z_told) ed_bl) (kcmp od_isB (kc 0 z_told) ed_bl)))
      ·
        exact bd_nil
    refine bd_cons ?_ ?_
    ·
      refine sd_if (kval (kB z_isinstance cd_isI T.b_isinstance bt_isinstance (kcons (kc 1 z_due) (kcons (kty z_int T.b_int bt_int) ad_nil)))) ?_ ?_
      ·
        refine bd_one ?_
        ·
          exact (sd_ret (ed_and (kB z_isinstance cd_isI T.b_isinstance bt_isinstance (kcons (kc 0 z_told) (kcons (kty z_int T.b_int bt_int) ad_nil))) (ed_and (ed_not (kB z_isinstance cd_isI T.b_isinstance bt_isinstance (kcons (kc 0 z_told) (kcons (kty z_bool T.b_bool bt_bool) ad_nil)))) (ed_one (kcmp (od_eq hu) (kT z_int cd_int T.b_int bt_int (kcons (kc 0 z_told) ad_nil)) (kc 1 z_due))))))
      ·
        exact bd_nil
    refine bd_one ?_
    ·
      exact (sd_ret (ed_and (kB z_isinstance cd_isI T.b_isinstance bt_isinstance (kcons (kc 0 z_told) (kcons (kty z_str T.b_str bt_str) ad_nil))) (ed_one (kcmp (od_eq hu) ed_no (kc 1 z_due)))))
  ) hq
abbrev s__law_some : Stmt := top 27
abbrev N__law_some : List Str := ["cup", "things"]
theorem sc__law_some : FnScope N__law_some ["cup", "things"] (defScope s__law_some) := ⟨rfl, rfl, rfl, by decide +kernel, rfl, by decide +kernel, by decide +kernel⟩
theorem h__law_some {k : Nat} {sp sp__law_roll : DC} (T : Txt K mg) (D : Def K mg "_law_some" s__law_some ["cup", "things"]) (h__law_roll : Here P w K mg base k "_law_roll" ["cup", "many"] sp__law_roll) (len : ∀ ds S Q, sp ds S Q → ds.length = 2)
    (hq : ∀ ds S Q, sp ds S Q → t__law_some sp__law_roll (endsD Q) (startD 2 ds) S) : Here P w K mg base (k + 1) "_law_some" ["cup", "things"] sp :=
  d_here (t := t__law_some sp__law_roll) D sc__law_some len (fun f cdv A outer s H E hr => by
    have hu := hr.units
    unfold t__law_some
    refine bd_one ?_
    ·
      exact (sd_ret (kix hu (kl 1 z_things) (kH z__law_roll h__law_roll hr (kcons (kl 0 z_cup) (kcons (kB z_len cd_len T.b_len bt_len (kcons (kl 1 z_things) ad_nil)) ad_nil)))))
  ) hq
abbrev s__law_file : Stmt := top 28
abbrev N__law_file : List Str := ["cup", "most", "base", "octet"]
theorem sc__law_file : FnScope N__law_file ["cup", "most"] (defScope s__law_file) := ⟨rfl, rfl, rfl, by decide +kernel, rfl, by decide +kernel, by decide +kernel⟩
theorem h__law_file {k : Nat} {sp sp__law_roll sp__law_some : DC} (T : Txt K mg) (D : Def K mg "_law_file" s__law_file ["cup", "most"]) (h__law_roll : Here P w K mg base k "_law_roll" ["cup", "many"] sp__law_roll) (h__law_some : Here P w K mg base k "_law_some" ["cup", "things"] sp__law_some) (len : ∀ ds S Q, sp ds S Q → ds.length = 2)
    (hq : ∀ ds S Q, sp ds S Q → t__law_file sp__law_roll sp__law_some (endsD Q) (startD 4 ds) S) : Here P w K mg base (k + 1) "_law_file" ["cup", "most"] sp :=
  d_here (t := t__law_file sp__law_roll sp__law_some) D sc__law_file len (fun f cdv A outer s H E hr => by
    have hu := hr.units
    unfold t__law_file
    refine bd_cons ?_ ?_
    ·
      exact (sc 2 (kH z__law_roll h__law_roll hr (kcons (kc 0 z_cup) (kcons ed_int ad_nil))) sc__law_file.nd)
    refine bd_one ?_
    ·
      exact (sd_ret (kT z_tuple (cd_tupl true) T.b_tuple bt_tuple (kcons (kLC [("octet", 3)] sc__law_file.nd (iR1 z_range T.b_range (kcons (kH z__law_roll h__law_roll hr (kcons (kc 0 z_cup) (kcons (ed_op od_add (kl 1 z_most) ed_int) ad_nil))) ad_nil)) (fun _ _ _ _ _ => (gl 3 sc__law_file.nd)) (fun _ _ _ _ _ => td_nil) (fun _ _ _ _ _ => (kH z__law_some h__law_some hr (kcons (kc 0 z_cup) (kcons (ed_lst (kcons (kc 2 z_base) (kcons (kc 2 z_base) (kcons (kH z__law_roll h__law_roll hr (kcons (kc 0 z_cup) (kcons ed_int ad_nil))) ad_nil)))) ad_nil))))) ad_nil)))
  ) hq
abbrev s__law_octets : Stmt := top 29
abbrev N__law_octets : List Str := ["cup", "most", "found", "turn", "at"]
theorem sc__law_octets : FnScope N__law_octets ["cup", "most"] (defScope s__law_octets) := ⟨rfl, rfl, rfl, by decide +kernel, rfl, by decide +kernel, by decide +kernel⟩
theorem h__law_octets {k : Nat} {sp sp__law_roll sp__law_some sp__law_file : DC} (T : Txt K mg) (D : Def K mg "_law_octets" s__law_octets ["cup", "most"]) (h__law_roll : Here P w K mg base k "_law_roll" ["cup", "many"] sp__law_roll) (h__law_some : Here P w K mg base k "_law_some" ["cup", "things"] sp__law_some) (h__law_file : Here P w K mg base k "_law_file" ["cup", "most"] sp__law_file) (len : ∀ ds S Q, sp ds S Q → ds.length = 2)
    (hq : ∀ ds S Q, sp ds S Q → t__law_octets sp__law_roll sp__law_some sp__law_file (endsD Q) (startD 5 ds) S) : Here P w K mg base (k + 1) "_law_octets" ["cup", "most"] sp :=
  d_here (t := t__law_octets sp__law_roll sp__law_some sp__law_file) D sc__law_octets len (fun f cdv A outer s H E hr => by
    have hu := hr.units
    unfold t__law_octets
    refine bd_cons ?_ ?_
    ·
      exact (sl 2 (ed_tup ad_nil) sc__law_octets.nd)
    refine bd_cons ?_ ?_
    ·
      refine sF PassesOwn.never (iR1 z_range T.b_range (kcons (kH z__law_roll h__law_roll hr (kcons (kc 0 z_cup) (kcons ed_int ad_nil))) ad_nil)) (gl 3 sc__law_octets.nd) ?_
      ·
        refine bd_one ?_
        ·
          exact (sl 2 (ed_op od_add (kl 2 z_found) (kH z__law_some h__law_some hr (kcons (kc 0 z_cup) (kcons (ed_lst (kcons (kH z__law_file h__law_file hr (kcons (kc 0 z_cup) (kcons (kl 1 z_most) ad_nil))) (kcons (ed_op od_mul2 (kH z__law_file h__law_file hr (kcons (kc 0 z_cup) (kcons ed_int ad_nil))) ed_int) (kcons (ed_slice (kl 2 z_found) (pd_some ed_negI) pd_none) (kcons (kT z_tuple (cd_tupl true) T.b_tuple bt_tuple (kcons (kLC [("at", 4)] sc__law_octets.nd (iR1 z_range T.b_range (kcons (ed_op od_fdiv (kl 1 z_most) ed_int) ad_nil)) (fun _ _ _ _ _ => (gl 4 sc__law_octets.nd)) (fun _ _ _ _ _ => td_nil) (fun _ _ _ _ _ => (kH z__law_roll h__law_roll hr (kcons (kc 0 z_cup) (kcons ed_int ad_nil))))) ad_nil)) ad_nil))))) ad_nil)))) sc__law_octets.nd)
    refine bd_one ?_
    ·
      exact (sd_ret (ed_slice (kl 2 z_found) pd_none (pd_some (ed_op od_mul2 ed_int (kl 1 z_most)))))
  ) hq
abbrev s__law_known : Stmt := top 30
abbrev N__law_known : List Str := ["cup", "octets", "found", "turn", "at", "one"]
theorem sc__law_known : FnScope N__law_known ["cup", "octets"] (defScope s__law_known) := ⟨rfl, rfl, rfl, by decide +kernel, rfl, by decide +kernel, by decide +kernel⟩
theorem h__law_known {k : Nat} {sp sp__law_roll sp__law_some sp__law_file : DC} (T : Txt K mg) (D : Def K mg "_law_known" s__law_known ["cup", "octets"]) (h__law_roll : Here P w K mg base k "_law_roll" ["cup", "many"] sp__law_roll) (h__law_some : Here P w K mg base k "_law_some" ["cup", "things"] sp__law_some) (h__law_file : Here P w K mg base k "_law_file" ["cup", "most"] sp__law_file) (len : ∀ ds S Q, sp ds S Q → ds.length = 2)
    (hq : ∀ ds S Q, sp ds S Q → t__law_known sp__law_roll sp__law_some sp__law_file (endsD Q) (startD 6 ds) S) : Here P w K mg base (k + 1) "_law_known" ["cup", "octets"] sp :=
  d_here (t := t__law_known sp__law_roll sp__law_some sp__law_file) D sc__law_known len (fun f cdv A outer s H E hr => by
    have hu := hr.units
    unfold t__law_known
    refine bd_cons ?_ ?_
    ·
      exact (sl 2 ed_dict0 sc__law_known.nd)
    refine bd_cons ?_ ?_
    ·
      refine sF PassesOwn.never (iR1 z_range T.b_range (kcons (kH z__law_roll h__law_roll hr (kcons (kl 0 z_cup) (kcons ed_int ad_nil))) ad_nil)) (gl 3 sc__law_known.nd) ?_
      ·
        refine bd_cons ?_ ?_
        ·
          exact (sl 4 (kH z__law_roll h__law_roll hr (kcons (kl 0 z_cup) (kcons (ed_op od_add (kB z_len cd_len T.b_len bt_len (kcons (kl 1 z_octets) ad_nil)) ed_int) ad_nil))) sc__law_known.nd)
        refine bd_cons ?_ ?_
        ·
          exact (sl 5 (kH z__law_some h__law_some hr (kcons (kl 0 z_cup) (kcons (ed_lst (kcons (ed_slice (kl 1 z_octets) (pd_some (kl 4 z_at)) (pd_some (ed_op od_add (ed_op od_add (kl 4 z_at) ed_int) (kH z__law_roll h__law_roll hr (kcons (kl 0 z_cup) (kcons ed_int ad_nil)))))) (kcons (kH z__law_file h__law_file hr (kcons (kl 0 z_cup) (kcons ed_int ad_nil))) ad_nil))) ad_nil))) sc__law_known.nd)
        refine bd_one ?_
        ·
          exact (sE (kbm (.inr (.inl rfl)) F.plainAttrs_dict F.slot_dict_update F.type_dict_update (md_upd true hu) (kl 2 z_found) (kcons (ed_if (kcmpT (od_ne hu) (kl 5 z_one) (ed_tup ad_nil)) (ed_dict1T hu (kl 5 z_one) ed_int) ed_dict0) ad_nil)))
    refine bd_one ?_
    ·
      exact (sd_ret (kT z_tuple (cd_tupl true) T.b_tuple bt_tuple (kcons (kT z_list (cd_list (by kernel_rfl)) T.b_list bt_list (kcons (kl 2 z_found) ad_nil)) ad_nil)))
  ) hq
abbrev s__law_steps : Stmt := top 31
abbrev N__law_steps : List Str := ["known", "octets", "at", "frame", "chunk"]
theorem sc__law_steps : FnScope N__law_steps ["known", "octets", "at", "frame"] (defScope s__law_steps) := ⟨rfl, rfl, rfl, by decide +kernel, rfl, by decide +kernel, by decide +kernel⟩
theorem h__law_steps {k : Nat} {sp : DC} (T : Txt K mg) (D : Def K mg "_law_steps" s__law_steps ["known", "octets", "at", "frame"]) (len : ∀ ds S Q, sp ds S Q → ds.length = 4)
    (hq : ∀ ds S Q, sp ds S Q → t__law_steps (endsD Q) (startD 5 ds) S) : Here P w K mg base (k + 1) "_law_steps" ["known", "octets", "at", "frame"] sp :=
  d_here (t := t__law_steps) D sc__law_steps len (fun f cdv A outer s H E hr => by
    have hu := hr.units
    unfold t__law_steps
    refine bd_one ?_
    ·
      exact (sd_ret (ed_op od_add (ed_lst (kcons (ed_tup (kcons ed_int (kcons (ed_op od_add (kc 2 z_at) ed_int) ad_nil))) ad_nil)) (kLP [("chunk", 4)] sc__law_steps.nd (id_seq (kl 0 z_known)) (fun _ _ _ _ _ => (gl 4 sc__law_steps.nd)) (fun _ _ _ _ _ => (td_one (kcmpT (od_eq hu) (ed_slice (kc 1 z_octets) (pd_some (kc 2 z_at)) (pd_some (ed_op od_add (kc 2 z_at) (kB z_len cd_len T.b_len bt_len (kcons (kl 4 z_chunk) ad_nil))))) (kl 4 z_chunk)))) (fun _ _ _ _ _ => (ed_tup (kcons (kc 3 z_frame) (kcons (ed_op od_add (kc 2 z_at) (kB z_len cd_len T.b_len bt_len (kcons (kl 4 z_chunk) ad_nil))) ad_nil)))))))
  ) hq
abbrev s__law_least : Stmt := top 32
abbrev N__law_least : List Str := ["known", "octets", "frame", "found", "back", "at", "price", "there"]
theorem sc__law_least : FnScope N__law_least ["known", "octets", "frame"] (defScope s__law_least) := ⟨rfl, rfl, rfl, by decide +kernel, rfl, by decide +kernel, by decide +kernel⟩
theorem h__law_least {k : Nat} {sp sp__law_steps : DC} (T : Txt K mg) (D : Def K mg "_law_least" s__law_least ["known", "octets", "frame"]) (h__law_steps : Here P w K mg base k "_law_steps" ["known", "octets", "at", "frame"] sp__law_steps) (len : ∀ ds S Q, sp ds S Q → ds.length = 3)
    (hq : ∀ ds S Q, sp ds S Q → t__law_least sp__law_steps (endsD Q) (startD 8 ds) S) : Here P w K mg base (k + 1) "_law_least" ["known", "octets", "frame"] sp :=
  d_here (t := t__law_least sp__law_steps) D sc__law_least len (fun f cdv A outer s H E hr => by
    have hu := hr.units
    unfold t__law_least
    refine bd_cons ?_ ?_
    ·
      exact (sc 3 (ed_dict1K (kB z_len cd_len T.b_len bt_len (kcons (kl 1 z_octets) ad_nil)) ed_int) sc__law_least.nd)
    refine bd_cons ?_ ?_
    ·
      refine sF PassesOwn.never (iR1 z_range T.b_range (kcons (kB z_len cd_len T.b_len bt_len (kcons (kl 1 z_octets) ad_nil)) ad_nil)) (gl 4 sc__law_least.nd) ?_
      ·
        refine bd_cons ?_ ?_
        ·
          exact (sl 5 (ed_op od_sub (ed_op od_sub (kB z_len cd_len T.b_len bt_len (kcons (kl 1 z_octets) ad_nil)) ed_int) (kl 4 z_back)) sc__law_least.nd)
        refine bd_one ?_
        ·
          exact (sU hu (kc 3 z_found) (kl 5 z_at) (kB z_min (cd_min true (by kernel_rfl)) T.b_min bt_min (kcons (kLP [("price", 6), ("there", 7)] sc__law_least.nd (id_seq (kH z__law_steps h__law_steps hr (kcons (kl 0 z_known) (kcons (kl 1 z_octets) (kcons (kl 5 z_at) (kcons (kl 2 z_frame) ad_nil)))))) (fun _ _ _ _ _ => (gtup (gcons (gl 6 sc__law_least.nd) (gcons (gl 7 sc__law_least.nd) gnil)))) (fun _ _ _ _ _ => td_nil) (fun _ _ _ _ _ => (ed_op od_add (kl 6 z_price) (kix hu (kc 3 z_found) (kl 7 z_there))))) ad_nil)))
    refine bd_one ?_
    ·
      exact (sd_ret (kc 3 z_found))
  ) hq
abbrev s__law_is_paper : Stmt := top 33
abbrev N__law_is_paper : List Str := ["known", "octets", "frame", "bound", "value", "at", "price", "there"]
theorem sc__law_is_paper : FnScope N__law_is_paper ["known", "octets", "frame", "bound", "value"] (defScope s__law_is_paper) := ⟨rfl, rfl, rfl, by decide +kernel, rfl, by decide +kernel, by decide +kernel⟩
theorem h__law_is_paper {k : Nat} {sp sp__law_steps : DC} (T : Txt K mg) (D : Def K mg "_law_is_paper" s__law_is_paper ["known", "octets", "frame", "bound", "value"]) (h__law_steps : Here P w K mg base k "_law_steps" ["known", "octets", "at", "frame"] sp__law_steps) (len : ∀ ds S Q, sp ds S Q → ds.length = 5)
    (hq : ∀ ds S Q, sp ds S Q → t__law_is_paper sp__law_steps (endsD Q) (startD 8 ds) S) : Here P w K mg base (k + 1) "_law_is_paper" ["known", "octets", "frame", "bound", "value"] sp :=
  d_here (t := t__law_is_paper sp__law_steps) D sc__law_is_paper len (fun f cdv A outer s H E hr => by
    have hu := hr.units
    unfold t__law_is_paper
    refine bd_cons ?_ ?_
    ·
      refine sd_if (wd_or (kcmpT od_lt (kix hu (kc 4 z_value) ed_int) (kl 3 z_bound)) (wd_or1 (kcmpT (od_ne hu) (kix hu (kc 4 z_value) ed_negI) ed_int))).pt ?_ ?_
      ·
        refine bd_one ?_
        ·
          exact (sd_ret ed_bl)
      ·
        exact bd_nil
    refine bd_cons ?_ ?_
    ·
      refine sF PassesOwn.never (iR1 z_range T.b_range (kcons (kB z_len cd_len T.b_len bt_len (kcons (kl 1 z_octets) ad_nil)) ad_nil)) (gc 5 sc__law_is_paper.nd) ?_
      ·
        refine bd_one ?_
        ·
          refine sd_if (kcmpT (od_ne hu) (kLP [("price", 6), ("there", 7)] sc__law_is_paper.nd (id_seq (kH z__law_steps h__law_steps hr (kcons (kl 0 z_known) (kcons (kl 1 z_octets) (kcons (kc 5 z_at) (kcons (kl 2 z_frame) ad_nil)))))) (fun _ _ _ _ _ => (gtup (gcons (gl 6 sc__law_is_paper.nd) (gcons (gl 7 sc__law_is_paper.nd) gnil)))) (fun _ _ _ _ _ => (td_one (kcmpT od_gt (kix hu (kc 4 z_value) (kc 5 z_at)) (ed_op od_add (kl 6 z_price) (kix hu (kc 4 z_value) (kl 7 z_there)))))) (fun _ _ _ _ _ => ed_int)) (ed_lst ad_nil)) ?_ ?_
          ·
            refine bd_one ?_
            ·
              exact (sd_ret ed_bl)
          ·
            exact bd_nil
    refine bd_one ?_
    ·
      exact (sd_ret ed_bl)
  ) hq
abbrev s__law_right : Stmt := top 34
abbrev N__law_right : List Str := ["cup", "most", "octets", "frame", "known", "least", "bound", "paper", "base", "at", "more", "value", "due", "odds", "bad", "odd"]
theorem sc__law_right : FnScope N__law_right ["cup", "most"] (defScope s__law_right) := ⟨rfl, rfl, rfl, by decide +kernel, rfl, by decide +kernel, by decide +kernel⟩
theorem h__law_right {k : Nat} {sp sp__law_roll sp__law_octets sp__law_known sp__law_least sp__law_same sp_least_price sp_price_paper sp__law_is_paper sp__law_some sp_is_price_paper : DC} (T : Txt K mg) (D : Def K mg "_law_right" s__law_right ["cup", "most"]) (h__law_roll : Here P w K mg base k "_law_roll" ["cup", "many"] sp__law_roll) (h__law_octets : Here P w K mg base k "_law_octets" ["cup", "most"] sp__law_octets) (h__law_known : Here P w K mg base k "_law_known" ["cup", "octets"] sp__law_known) (h__law_least : Here P w K mg base k "_law_least" ["known", "octets", "frame"] sp__law_least) (h__law_same : Here P w K mg base k "_law_same" ["told", "due"] sp__law_same) (h_least_price : Here P w K mg base k "least_price" ["known", "octets", "frame"] sp_least_price) (h_price_paper : Here P w K mg base k "price_paper" ["known", "octets", "frame", "bound"] sp_price_paper) (h__law_is_paper : Here P w K mg base k "_law_is_paper" ["known", "octets", "frame", "bound", "value"] sp__law_is_paper) (h__law_some : Here P w K mg base k "_law_some" ["cup", "things"] sp__law_some) (h_is_price_paper : Here P w K mg base k "is_price_paper" ["known", "octets", "frame", "bound", "value"] sp_is_price_paper) (len : ∀ ds S Q, sp ds S Q → ds.length = 2)
    (hq : ∀ ds S Q, sp ds S Q → t__law_right sp__law_roll sp__law_octets sp__law_known sp__law_least sp__law_same sp_least_price sp_price_paper sp__law_is_paper sp__law_some sp_is_price_paper (endsD Q) (startD 16 ds) S) : Here P w K mg base (k + 1) "_law_right" ["cup", "most"] sp :=
  d_here (t := t__law_right sp__law_roll sp__law_octets sp__law_known sp__law_least sp__law_same sp_least_price sp_price_paper sp__law_is_paper sp__law_some sp_is_price_paper) D sc__law_right len (fun f cdv A outer s H E hr => by
    have hu := hr.units
    unfold t__law_right
    refine bd_cons ?_ ?_
    ·
      exact (sA (T := (.tp [2, 3])) (ed_tup (kcons (kH z__law_octets h__law_octets hr (kcons (kl 0 z_cup) (kcons (kl 1 z_most) ad_nil))) (kcons (kH z__law_roll h__law_roll hr (kcons (kl 0 z_cup) (kcons ed_int ad_nil))) ad_nil))) (gtup (gcons (gc 2 sc__law_right.nd) (gcons (gc 3 sc__law_right.nd) gnil))))
    refine bd_cons ?_ ?_
    ·
      exact (sc 4 (kH z__law_known h__law_known hr (kcons (kl 0 z_cup) (kcons (kc 2 z_octets) ad_nil))) sc__law_right.nd)
    refine bd_cons ?_ ?_
    ·
      exact (sl 5 (kix hu (kH z__law_least h__law_least hr (kcons (kc 4 z_known) (kcons (kc 2 z_octets) (kcons (kc 3 z_frame) ad_nil)))) ed_int) sc__law_right.nd)
    refine bd_cons ?_ ?_
    ·
      refine sd_if (td_not (kval (kH z__law_same h__law_same hr (kcons (kH z_least_price h_least_price hr (kcons (kc 4 z_known) (kcons (kc 2 z_octets) (kcons (kc 3 z_frame) ad_nil)))) (kcons (kl 5 z_least) ad_nil))))) ?_ ?_
      ·
        refine bd_one ?_
        ·
          exact (sd_ret ed_bl)
      ·
        exact bd_nil
    refine bd_cons ?_ ?_
    ·
      refine sF PassesOwn.never (id_seq (ed_tup (kcons ed_int (kcons (kl 5 z_least) (kcons (ed_op od_add (kl 5 z_least) ed_int) (kcons (kB z_max (cd_max false (by kernel_rfl)) T.b_max bt_max (kcons ed_int (kcons (ed_op od_sub (kl 5 z_least) ed_int) ad_nil))) (kcons (ed_op od_pow ed_int ed_int) ad_nil))))))) (gl 6 sc__law_right.nd) ?_
      ·
        refine bd_cons ?_ ?_
        ·
          exact (sl 7 (kH z_price_paper h_price_paper hr (kcons (kc 4 z_known) (kcons (kc 2 z_octets) (kcons (kc 3 z_frame) (kcons (kl 6 z_bound) ad_nil))))) sc__law_right.nd)
        refine bd_cons ?_ ?_
        ·
          refine sd_if (wd_or (kcmpT (od_ne hu) (kcmp od_isN (kl 7 z_paper) ed_non) (kcmp od_lt (kl 5 z_least) (kl 6 z_bound))) (wd_or1 (wd_and (kcmpT od_notN (kl 7 z_paper) ed_non) (wd_and1 (wd_or (td_not (kval (kB z_isinstance cd_isI T.b_isinstance bt_isinstance (kcons (kl 7 z_paper) (kcons (kty z_tuple T.b_tuple bt_tuple) ad_nil))))) (wd_or1 (td_not (kval (kH z__law_is_paper h__law_is_paper hr (kcons (kc 4 z_known) (kcons (kc 2 z_octets) (kcons (kc 3 z_frame) (kcons (kl 6 z_bound) (kcons (kl 7 z_paper) ad_nil)))))))))).pt)).pt)).pt ?_ ?_
          ·
            refine bd_one ?_
            ·
              exact (sd_ret ed_bl)
          ·
            exact bd_nil
        refine bd_cons ?_ ?_
        ·
          exact (sc 8 (ed_if (kcmpT od_notN (kl 7 z_paper) ed_non) (kl 7 z_paper) (ed_if (kcmpT (od_ne hu) (kc 2 z_octets) (ed_tup ad_nil)) (kT z_tuple (cd_tupl true) T.b_tuple bt_tuple (kcons (ed_op od_add (ed_lst (kcons (kl 6 z_bound) ad_nil)) (ed_op od_mul2 (ed_lst (kcons ed_int ad_nil)) (kB z_len cd_len T.b_len bt_len (kcons (kc 2 z_octets) ad_nil)))) ad_nil)) (ed_tup (kcons ed_int ad_nil)))) sc__law_right.nd)
        refine bd_cons ?_ ?_
        ·
          exact (sA (T := (.tp [9, 10])) (ed_tup (kcons (kH z__law_roll h__law_roll hr (kcons (kl 0 z_cup) (kcons (kB z_len cd_len T.b_len bt_len (kcons (kc 8 z_base) ad_nil)) ad_nil))) (kcons (kH z__law_some h__law_some hr (kcons (kl 0 z_cup) (kcons (ed_lst (kcons ed_int (kcons ed_negI (kcons ed_int ad_nil)))) ad_nil))) ad_nil))) (gtup (gcons (gc 9 sc__law_right.nd) (gcons (gl 10 sc__law_right.nd) gnil))))
        refine bd_cons ?_ ?_
        ·
          refine sF PassesOwn.never (id_seq (ed_tup (kcons (kc 8 z_base) (kcons (ed_op od_add (ed_op od_add (ed_slice (kc 8 z_base) pd_none (pd_some (kc 9 z_at))) (ed_tup (kcons (kB z_max (cd_max false (by kernel_rfl)) T.b_max bt_max (kcons ed_int (kcons (kB z_min (cd_min false (by kernel_rfl)) T.b_min bt_min (kcons (ed_op od_pow ed_int ed_int) (kcons (ed_op od_add (kix hu (kc 8 z_base) (kc 9 z_at)) (kl 10 z_more)) ad_nil))) ad_nil))) ad_nil))) (ed_slice (kc 8 z_base) (pd_some (ed_op od_add (kc 9 z_at) ed_int)) pd_none)) (kcons (ed_op od_mul2 (ed_tup (kcons ed_int ad_nil)) (kB z_len cd_len T.b_len bt_len (kcons (kc 8 z_base) ad_nil))) (kcons (ed_op od_add (ed_slice (kc 8 z_base) pd_none (pd_some ed_negI)) (ed_tup (kcons ed_int ad_nil))) ad_nil)))))) (gl 11 sc__law_right.nd) ?_
          ·
            refine bd_cons ?_ ?_
            ·
              exact (sl 12 (kH z__law_is_paper h__law_is_paper hr (kcons (kc 4 z_known) (kcons (kc 2 z_octets) (kcons (kc 3 z_frame) (kcons (kl 6 z_bound) (kcons (kl 11 z_value) ad_nil)))))) sc__law_right.nd)
            refine bd_one ?_
            ·
              refine sd_if (wd_or (td_not (kval (kH z__law_same h__law_same hr (kcons (kH z_is_price_paper h_is_price_paper hr (kcons (kc 4 z_known) (kcons (kc 2 z_octets) (kcons (kc 3 z_frame) (kcons (kl 6 z_bound) (kcons (kl 11 z_value) ad_nil)))))) (kcons (kl 12 z_due) ad_nil))))) (wd_or1 (wd_and (kval (kl 12 z_due)) (wd_and1 (kcmpT od_lt (kl 5 z_least) (kl 6 z_bound)))).pt)).pt ?_ ?_
              ·
                refine bd_one ?_
                ·
                  exact (sd_ret ed_bl)
              ·
                exact bd_nil
        refine bd_cons ?_ ?_
        ·
          exact (sl 13 (ed_op od_add (ed_lst (kcons ed_non (kcons (ed_tup ad_nil) (kcons (kT z_list (cd_list (by kernel_rfl)) T.b_list bt_list (kcons (kc 8 z_base) ad_nil)) (kcons (ed_op od_add (kc 8 z_base) (ed_tup (kcons ed_int ad_nil))) (kcons (ed_slice (kc 8 z_base) (pd_some ed_int) pd_none) (kcons ed_int ad_nil))))))) (kLP [("bad", 14)] sc__law_right.nd (id_seq (ed_tup (kcons ed_negI (kcons (ed_op od_add (ed_op od_pow ed_int ed_int) ed_int) (kcons ed_bl (kcons ed_non (kcons ed_str ad_nil))))))) (fun _ _ _ _ _ => (gl 14 sc__law_right.nd)) (fun _ _ _ _ _ => td_nil) (fun _ _ _ _ _ => (ed_op od_add (ed_op od_add (ed_slice (kc 8 z_base) pd_none (pd_some (kc 9 z_at))) (ed_tup (kcons (kl 14 z_bad) ad_nil))) (ed_slice (kc 8 z_base) (pd_some (ed_op od_add (kc 9 z_at) ed_int)) pd_none))))) sc__law_right.nd)
        refine bd_one ?_
        ·
          refine sd_if (kcmpT (od_ne hu) (kLP [("odd", 15)] sc__law_right.nd (id_seq (kl 13 z_odds)) (fun _ _ _ _ _ => (gl 15 sc__law_right.nd)) (fun _ _ _ _ _ => (td_one (kcmpT od_notB (kH z_is_price_paper h_is_price_paper hr (kcons (kc 4 z_known) (kcons (kc 2 z_octets) (kcons (kc 3 z_frame) (kcons ed_int (kcons (kl 15 z_odd) ad_nil)))))) ed_bl))) (fun _ _ _ _ _ => (kl 15 z_odd))) (ed_lst ad_nil)) ?_ ?_
          ·
            refine bd_one ?_
            ·
              exact (sd_ret ed_bl)
          ·
            exact bd_nil
    refine bd_one ?_
    ·
      exact (sd_ret ed_bl)
  ) hq
abbrev s_law : Stmt := top 35
abbrev N_law : List Str := ["script", "cup", "most", "octets", "many", "at"]
theorem sc_law : FnScope N_law ["script"] (defScope s_law) := ⟨rfl, rfl, rfl, by decide +kernel, rfl, by decide +kernel, by decide +kernel⟩
theorem h_law {k : Nat} {sp sp__law_cup sp__law_right sp_is_price_paper sp__law_octets sp_price_paper : DC} (T : Txt K mg) (D : Def K mg "law" s_law ["script"]) (h__law_cup : Here P w K mg base k "_law_cup" ["script"] sp__law_cup) (h__law_right : Here P w K mg base k "_law_right" ["cup", "most"] sp__law_right) (h_is_price_paper : Here P w K mg base k "is_price_paper" ["known", "octets", "frame", "bound", "value"] sp_is_price_paper) (h__law_octets : Here P w K mg base k "_law_octets" ["cup", "most"] sp__law_octets) (h_price_paper : Here P w K mg base k "price_paper" ["known", "octets", "frame", "bound"] sp_price_paper) (len : ∀ ds S Q, sp ds S Q → ds.length = 1)
    (hq : ∀ ds S Q, sp ds S Q → t_law sp__law_cup sp__law_right sp_is_price_paper sp__law_octets sp_price_paper (endsD Q) (startD 6 ds) S) : Here P w K mg base (k + 1) "law" ["script"] sp :=
  d_here (t := t_law sp__law_cup sp__law_right sp_is_price_paper sp__law_octets sp_price_paper) D sc_law len (fun f cdv A outer s H E hr => by
    have hu := hr.units
    unfold t_law
    refine bd_cons ?_ ?_
    ·
      exact (sl 1 (kH z__law_cup h__law_cup hr (kcons (kl 0 z_script) ad_nil)) sc_law.nd)
    refine bd_cons ?_ ?_
    ·
      refine sF PassesOwn.never (id_seq (ed_tup (kcons ed_int (kcons ed_int (kcons ed_int (kcons ed_int ad_nil)))))) (gl 2 sc_law.nd) ?_
      ·
        refine bd_one ?_
        ·
          refine sd_if (td_not (kval (kH z__law_right h__law_right hr (kcons (kl 1 z_cup) (kcons (kl 2 z_most) ad_nil))))) ?_ ?_
          ·
            refine bd_one ?_
            ·
              exact (sd_ret ed_bl)
          ·
            exact bd_nil
    refine bd_cons ?_ ?_
    ·
      refine sd_if (wd_or (kcmpT od_notB (kH z_is_price_paper h_is_price_paper hr (kcons (ed_tup (kcons (ed_tup (kcons ed_int (kcons ed_int (kcons ed_int ad_nil)))) (kcons (ed_tup (kcons ed_int (kcons ed_int ad_nil))) ad_nil))) (kcons (ed_tup (kcons ed_int (kcons ed_int ad_nil))) (kcons ed_int (kcons ed_int (kcons (ed_tup (kcons ed_int (kcons ed_int (kcons ed_int ad_nil)))) ad_nil)))))) ed_bl) (wd_or1 (kcmpT od_notB (kH z_is_price_paper h_is_price_paper hr (kcons (ed_tup ad_nil) (kcons (ed_tup ad_nil) (kcons ed_int (kcons ed_int (kcons (ed_tup (kcons ed_int ad_nil)) ad_nil)))))) ed_bl))).pt ?_ ?_
      ·
        refine bd_one ?_
        ·
          exact (sd_ret ed_bl)
      ·
        exact bd_nil
    refine bd_cons ?_ ?_
    ·
      exact (sl 3 (kH z__law_octets h__law_octets hr (kcons (kl 1 z_cup) (kcons ed_int ad_nil))) sc_law.nd)
    refine bd_cons ?_ ?_
    ·
      exact (sc 4 (kB z_len cd_len T.b_len bt_len (kcons (kl 3 z_octets) ad_nil)) sc_law.nd)
    refine bd_one ?_
    ·
      exact (sd_ret (ed_and (kcmp od_isB (kH z_is_price_paper h_is_price_paper hr (kcons (ed_tup ad_nil) (kcons (kl 3 z_octets) (kcons ed_int (kcons (kc 4 z_many) (kcons (kT z_tuple (cd_tupl true) T.b_tuple bt_tuple (kcons (kLP [("at", 5)] sc_law.nd (iR1 z_range T.b_range (kcons (ed_op od_add (kc 4 z_many) ed_int) ad_nil)) (fun _ _ _ _ _ => (gl 5 sc_law.nd)) (fun _ _ _ _ _ => td_nil) (fun _ _ _ _ _ => (ed_op od_sub (kc 4 z_many) (kl 5 z_at)))) ad_nil)) ad_nil)))))) ed_bl) (ed_one (kcmp od_isN (kH z_price_paper h_price_paper hr (kcons (ed_tup ad_nil) (kcons (kl 3 z_octets) (kcons ed_int (kcons (ed_op od_add (kc 4 z_many) ed_int) ad_nil))))) ed_non))))
  ) hq
end
end DW.K48
namespace DW.K48
open PySem PySem.Spec PyProof.Rows L2
section
variable {P : Program} {w : World} {K : PySem.W.Frag} {mg : Str → Option Value} {base : Heap}
theorem H__law_same (T : Txt K mg) (D : Def K mg "_law_same" s__law_same ["told", "due"]) : ∀ n : Nat, Here P w K mg base (n + 1) "_law_same" ["told", "due"] (sp_same n)
  | 0 => h__law_same T D (d_none D) (fun ds S Q h => by first | (obtain ⟨rfl, _⟩ := h; rfl) | (obtain ⟨_, rfl, _⟩ := h; rfl) | (obtain ⟨_, _, rfl, _⟩ := h; rfl) | (obtain ⟨_, _, _, rfl, _⟩ := h; rfl) | (obtain ⟨_, _, _, _, rfl, _⟩ := h; rfl) | (obtain ⟨_, _, _, _, _, rfl, _⟩ := h; rfl) | (obtain ⟨_, _, _, _, _, _, rfl, _⟩ := h; rfl) | (obtain ⟨_, _, _, _, _, _, _, rfl, _⟩ := h; rfl) | (obtain ⟨_, _, _, _, _, _, _, _, rfl, _⟩ := h; rfl) | (obtain ⟨_, _, _, _, _, _, _, _, _, rfl, _⟩ := h; rfl) | (unfold sp_same at h; split at h; rfl; exact h.elim)) (p_same fun m ds S Q e => by omega)
  | n + 1 => h__law_same T D (H__law_same T D n) (fun ds S Q h => by first | (obtain ⟨rfl, _⟩ := h; rfl) | (obtain ⟨_, rfl, _⟩ := h; rfl) | (obtain ⟨_, _, rfl, _⟩ := h; rfl) | (obtain ⟨_, _, _, rfl, _⟩ := h; rfl) | (obtain ⟨_, _, _, _, rfl, _⟩ := h; rfl) | (obtain ⟨_, _, _, _, _, rfl, _⟩ := h; rfl) | (obtain ⟨_, _, _, _, _, _, rfl, _⟩ := h; rfl) | (obtain ⟨_, _, _, _, _, _, _, rfl, _⟩ := h; rfl) | (obtain ⟨_, _, _, _, _, _, _, _, rfl, _⟩ := h; rfl) | (obtain ⟨_, _, _, _, _, _, _, _, _, rfl, _⟩ := h; rfl) | (unfold sp_same at h; split at h; rfl; exact h.elim)) (p_same fun m ds S Q e h => by cases e; exact h)
structure Defs (K : PySem.W.Frag) (mg : Str → Option Value) : Prop where
  d__law_cup : Def K mg "_law_cup" s__law_cup ["script"]
  d__law_roll : Def K mg "_law_roll" s__law_roll ["cup", "many"]
  d__law_some : Def K mg "_law_some" s__law_some ["cup", "things"]
  d__law_file : Def K mg "_law_file" s__law_file ["cup", "most"]
  d__law_octets : Def K mg "_law_octets" s__law_octets ["cup", "most"]
  d__law_known : Def K mg "_law_known" s__law_known ["cup", "octets"]
  d__law_steps : Def K mg "_law_steps" s__law_steps ["known", "octets", "at", "frame"]
  d__law_least : Def K mg "_law_least" s__law_least ["known", "octets", "frame"]
  d__law_same : Def K mg "_law_same" s__law_same ["told", "due"]
  d_is_whole : Def K mg "is_whole" s_is_whole ["value", "low", "high"]
  d_is_tuple_of : Def K mg "is_tuple_of" s_is_tuple_of ["value", "low", "high"]
  d_fits_octets : Def K mg "fits_octets" s_fits_octets ["value", "most"]
  d_fits_known : Def K mg "fits_known" s_fits_known ["value"]
  d_need_known : Def K mg "need_known" s_need_known ["known"]
  d_need_all : Def K mg "need_all" s_need_all ["known", "octets", "frame"]
  d_steps_at : Def K mg "steps_at" s_steps_at ["known", "octets", "at", "frame"]
  d_prices_in : Def K mg "prices_in" s_prices_in ["known", "octets", "frame"]
  d_least_price : Def K mg "least_price" s_least_price ["known", "octets", "frame"]
  d_price_paper : Def K mg "price_paper" s_price_paper ["known", "octets", "frame", "bound"]
  d__law_is_paper : Def K mg "_law_is_paper" s__law_is_paper ["known", "octets", "frame", "bound", "value"]
  d_is_price_paper : Def K mg "is_price_paper" s_is_price_paper ["known", "octets", "frame", "bound", "value"]
  d__law_right : Def K mg "_law_right" s__law_right ["cup", "most"]
  d_law : Def K mg "law" s_law ["script"]
theorem H__law_cup (T : Txt K mg) (A : Defs K mg) : Here P w K mg base 1 "_law_cup" ["script"] sp_cup :=
  h__law_cup T A.d__law_cup  (fun ds S Q h => by first | (obtain ⟨rfl, _⟩ := h; rfl) | (obtain ⟨_, rfl, _⟩ := h; rfl) | (obtain ⟨_, _, rfl, _⟩ := h; rfl) | (obtain ⟨_, _, _, rfl, _⟩ := h; rfl) | (obtain ⟨_, _, _, _, rfl, _⟩ := h; rfl) | (obtain ⟨_, _, _, _, _, rfl, _⟩ := h; rfl) | (obtain ⟨_, _, _, _, _, _, rfl, _⟩ := h; rfl) | (obtain ⟨_, _, _, _, _, _, _, rfl, _⟩ := h; rfl) | (obtain ⟨_, _, _, _, _, _, _, _, rfl, _⟩ := h; rfl) | (obtain ⟨_, _, _, _, _, _, _, _, _, rfl, _⟩ := h; rfl) | (unfold sp_cup at h; split at h; rfl; exact h.elim)) (p_cup (q := 167) (m := 431) (a := 4607) (M := 2077503101) (b := 301) (by decide) (by decide) (by decide) (by decide) (by decide))
theorem H__law_roll (T : Txt K mg) (A : Defs K mg) : Here P w K mg base 1 "_law_roll" ["cup", "many"] sp_roll :=
  h__law_roll T A.d__law_roll  (fun ds S Q h => by first | (obtain ⟨rfl, _⟩ := h; rfl) | (obtain ⟨_, rfl, _⟩ := h; rfl) | (obtain ⟨_, _, rfl, _⟩ := h; rfl) | (obtain ⟨_, _, _, rfl, _⟩ := h; rfl) | (obtain ⟨_, _, _, _, rfl, _⟩ := h; rfl) | (obtain ⟨_, _, _, _, _, rfl, _⟩ := h; rfl) | (obtain ⟨_, _, _, _, _, _, rfl, _⟩ := h; rfl) | (obtain ⟨_, _, _, _, _, _, _, rfl, _⟩ := h; rfl) | (obtain ⟨_, _, _, _, _, _, _, _, rfl, _⟩ := h; rfl) | (obtain ⟨_, _, _, _, _, _, _, _, _, rfl, _⟩ := h; rfl) | (unfold sp_roll at h; split at h; rfl; exact h.elim)) (p_roll (m := 31387) (a := 8311) (M := 2147483399) (d := 489) (M2 := 2147483563) (q := 797) (by decide) (by decide) (by decide) (by decide) (by decide))
theorem H__law_some (T : Txt K mg) (A : Defs K mg) : Here P w K mg base 2 "_law_some" ["cup", "things"] sp_some :=
  h__law_some T A.d__law_some (H__law_roll T A) (fun ds S Q h => by first | (obtain ⟨rfl, _⟩ := h; rfl) | (obtain ⟨_, rfl, _⟩ := h; rfl) | (obtain ⟨_, _, rfl, _⟩ := h; rfl) | (obtain ⟨_, _, _, rfl, _⟩ := h; rfl) | (obtain ⟨_, _, _, _, rfl, _⟩ := h; rfl) | (obtain ⟨_, _, _, _, _, rfl, _⟩ := h; rfl) | (obtain ⟨_, _, _, _, _, _, rfl, _⟩ := h; rfl) | (obtain ⟨_, _, _, _, _, _, _, rfl, _⟩ := h; rfl) | (obtain ⟨_, _, _, _, _, _, _, _, rfl, _⟩ := h; rfl) | (obtain ⟨_, _, _, _, _, _, _, _, _, rfl, _⟩ := h; rfl) | (unfold sp_some at h; split at h; rfl; exact h.elim)) p_some
theorem H__law_file (T : Txt K mg) (A : Defs K mg) : Here P w K mg base 3 "_law_file" ["cup", "most"] sp_file :=
  h__law_file T A.d__law_file ((H__law_roll T A).mono (by decide)) (H__law_some T A) (fun ds S Q h => by first | (obtain ⟨rfl, _⟩ := h; rfl) | (obtain ⟨_, rfl, _⟩ := h; rfl) | (obtain ⟨_, _, rfl, _⟩ := h; rfl) | (obtain ⟨_, _, _, rfl, _⟩ := h; rfl) | (obtain ⟨_, _, _, _, rfl, _⟩ := h; rfl) | (obtain ⟨_, _, _, _, _, rfl, _⟩ := h; rfl) | (obtain ⟨_, _, _, _, _, _, rfl, _⟩ := h; rfl) | (obtain ⟨_, _, _, _, _, _, _, rfl, _⟩ := h; rfl) | (obtain ⟨_, _, _, _, _, _, _, _, rfl, _⟩ := h; rfl) | (obtain ⟨_, _, _, _, _, _, _, _, _, rfl, _⟩ := h; rfl) | (unfold sp_file at h; split at h; rfl; exact h.elim)) p_file
theorem H__law_octets (T : Txt K mg) (A : Defs K mg) : Here P w K mg base 4 "_law_octets" ["cup", "most"] sp_octets :=
  h__law_octets T A.d__law_octets ((H__law_roll T A).mono (by decide)) ((H__law_some T A).mono (by decide)) (H__law_file T A) (fun ds S Q h => by first | (obtain ⟨rfl, _⟩ := h; rfl) | (obtain ⟨_, rfl, _⟩ := h; rfl) | (obtain ⟨_, _, rfl, _⟩ := h; rfl) | (obtain ⟨_, _, _, rfl, _⟩ := h; rfl) | (obtain ⟨_, _, _, _, rfl, _⟩ := h; rfl) | (obtain ⟨_, _, _, _, _, rfl, _⟩ := h; rfl) | (obtain ⟨_, _, _, _, _, _, rfl, _⟩ := h; rfl) | (obtain ⟨_, _, _, _, _, _, _, rfl, _⟩ := h; rfl) | (obtain ⟨_, _, _, _, _, _, _, _, rfl, _⟩ := h; rfl) | (obtain ⟨_, _, _, _, _, _, _, _, _, rfl, _⟩ := h; rfl) | (unfold sp_octets at h; split at h; rfl; exact h.elim)) p_octets
theorem H__law_known (T : Txt K mg) (A : Defs K mg) : Here P w K mg base 4 "_law_known" ["cup", "octets"] sp_known :=
  h__law_known T A.d__law_known ((H__law_roll T A).mono (by decide)) ((H__law_some T A).mono (by decide)) (H__law_file T A) (fun ds S Q h => by first | (obtain ⟨rfl, _⟩ := h; rfl) | (obtain ⟨_, rfl, _⟩ := h; rfl) | (obtain ⟨_, _, rfl, _⟩ := h; rfl) | (obtain ⟨_, _, _, rfl, _⟩ := h; rfl) | (obtain ⟨_, _, _, _, rfl, _⟩ := h; rfl) | (obtain ⟨_, _, _, _, _, rfl, _⟩ := h; rfl) | (obtain ⟨_, _, _, _, _, _, rfl, _⟩ := h; rfl) | (obtain ⟨_, _, _, _, _, _, _, rfl, _⟩ := h; rfl) | (obtain ⟨_, _, _, _, _, _, _, _, rfl, _⟩ := h; rfl) | (obtain ⟨_, _, _, _, _, _, _, _, _, rfl, _⟩ := h; rfl) | (unfold sp_known at h; split at h; rfl; exact h.elim)) p_known
theorem H__law_steps (T : Txt K mg) (A : Defs K mg) : Here P w K mg base 1 "_law_steps" ["known", "octets", "at", "frame"] sp_lsteps :=
  h__law_steps T A.d__law_steps  (fun ds S Q h => by first | (obtain ⟨rfl, _⟩ := h; rfl) | (obtain ⟨_, rfl, _⟩ := h; rfl) | (obtain ⟨_, _, rfl, _⟩ := h; rfl) | (obtain ⟨_, _, _, rfl, _⟩ := h; rfl) | (obtain ⟨_, _, _, _, rfl, _⟩ := h; rfl) | (obtain ⟨_, _, _, _, _, rfl, _⟩ := h; rfl) | (obtain ⟨_, _, _, _, _, _, rfl, _⟩ := h; rfl) | (obtain ⟨_, _, _, _, _, _, _, rfl, _⟩ := h; rfl) | (obtain ⟨_, _, _, _, _, _, _, _, rfl, _⟩ := h; rfl) | (obtain ⟨_, _, _, _, _, _, _, _, _, rfl, _⟩ := h; rfl) | (unfold sp_lsteps at h; split at h; rfl; exact h.elim)) p_lsteps
theorem H__law_least (T : Txt K mg) (A : Defs K mg) : Here P w K mg base 2 "_law_least" ["known", "octets", "frame"] sp_least :=
  h__law_least T A.d__law_least (H__law_steps T A) (fun ds S Q h => by first | (obtain ⟨rfl, _⟩ := h; rfl) | (obtain ⟨_, rfl, _⟩ := h; rfl) | (obtain ⟨_, _, rfl, _⟩ := h; rfl) | (obtain ⟨_, _, _, rfl, _⟩ := h; rfl) | (obtain ⟨_, _, _, _, rfl, _⟩ := h; rfl) | (obtain ⟨_, _, _, _, _, rfl, _⟩ := h; rfl) | (obtain ⟨_, _, _, _, _, _, rfl, _⟩ := h; rfl) | (obtain ⟨_, _, _, _, _, _, _, rfl, _⟩ := h; rfl) | (obtain ⟨_, _, _, _, _, _, _, _, rfl, _⟩ := h; rfl) | (obtain ⟨_, _, _, _, _, _, _, _, _, rfl, _⟩ := h; rfl) | (unfold sp_least at h; split at h; rfl; exact h.elim)) p_least
theorem H_is_whole (T : Txt K mg) (A : Defs K mg) : Here P w K mg base 1 "is_whole" ["value", "low", "high"] sp_is_whole :=
  h_is_whole T A.d_is_whole  (fun ds S Q h => by first | (obtain ⟨rfl, _⟩ := h; rfl) | (obtain ⟨_, rfl, _⟩ := h; rfl) | (obtain ⟨_, _, rfl, _⟩ := h; rfl) | (obtain ⟨_, _, _, rfl, _⟩ := h; rfl) | (obtain ⟨_, _, _, _, rfl, _⟩ := h; rfl) | (obtain ⟨_, _, _, _, _, rfl, _⟩ := h; rfl) | (obtain ⟨_, _, _, _, _, _, rfl, _⟩ := h; rfl) | (obtain ⟨_, _, _, _, _, _, _, rfl, _⟩ := h; rfl) | (obtain ⟨_, _, _, _, _, _, _, _, rfl, _⟩ := h; rfl) | (obtain ⟨_, _, _, _, _, _, _, _, _, rfl, _⟩ := h; rfl) | (unfold sp_is_whole at h; split at h; rfl; exact h.elim)) p_is_whole
theorem H_is_tuple_of (T : Txt K mg) (A : Defs K mg) : Here P w K mg base 1 "is_tuple_of" ["value", "low", "high"] sp_is_tuple_of :=
  h_is_tuple_of T A.d_is_tuple_of  (fun ds S Q h => by first | (obtain ⟨rfl, _⟩ := h; rfl) | (obtain ⟨_, rfl, _⟩ := h; rfl) | (obtain ⟨_, _, rfl, _⟩ := h; rfl) | (obtain ⟨_, _, _, rfl, _⟩ := h; rfl) | (obtain ⟨_, _, _, _, rfl, _⟩ := h; rfl) | (obtain ⟨_, _, _, _, _, rfl, _⟩ := h; rfl) | (obtain ⟨_, _, _, _, _, _, rfl, _⟩ := h; rfl) | (obtain ⟨_, _, _, _, _, _, _, rfl, _⟩ := h; rfl) | (obtain ⟨_, _, _, _, _, _, _, _, rfl, _⟩ := h; rfl) | (obtain ⟨_, _, _, _, _, _, _, _, _, rfl, _⟩ := h; rfl) | (unfold sp_is_tuple_of at h; split at h; rfl; exact h.elim)) p_is_tuple_of
theorem H_fits_octets (T : Txt K mg) (A : Defs K mg) : Here P w K mg base 2 "fits_octets" ["value", "most"] sp_fits_octets :=
  h_fits_octets T A.d_fits_octets (H_is_whole T A) (H_is_tuple_of T A) (fun ds S Q h => by first | (obtain ⟨rfl, _⟩ := h; rfl) | (obtain ⟨_, rfl, _⟩ := h; rfl) | (obtain ⟨_, _, rfl, _⟩ := h; rfl) | (obtain ⟨_, _, _, rfl, _⟩ := h; rfl) | (obtain ⟨_, _, _, _, rfl, _⟩ := h; rfl) | (obtain ⟨_, _, _, _, _, rfl, _⟩ := h; rfl) | (obtain ⟨_, _, _, _, _, _, rfl, _⟩ := h; rfl) | (obtain ⟨_, _, _, _, _, _, _, rfl, _⟩ := h; rfl) | (obtain ⟨_, _, _, _, _, _, _, _, rfl, _⟩ := h; rfl) | (obtain ⟨_, _, _, _, _, _, _, _, _, rfl, _⟩ := h; rfl) | (unfold sp_fits_octets at h; split at h; rfl; exact h.elim)) p_fits_octets
theorem H_fits_known (T : Txt K mg) (A : Defs K mg) : Here P w K mg base 3 "fits_known" ["value"] sp_fits_known :=
  h_fits_known T A.d_fits_known (H_fits_octets T A) ((H_is_tuple_of T A).mono (by decide)) (fun ds S Q h => by first | (obtain ⟨rfl, _⟩ := h; rfl) | (obtain ⟨_, rfl, _⟩ := h; rfl) | (obtain ⟨_, _, rfl, _⟩ := h; rfl) | (obtain ⟨_, _, _, rfl, _⟩ := h; rfl) | (obtain ⟨_, _, _, _, rfl, _⟩ := h; rfl) | (obtain ⟨_, _, _, _, _, rfl, _⟩ := h; rfl) | (obtain ⟨_, _, _, _, _, _, rfl, _⟩ := h; rfl) | (obtain ⟨_, _, _, _, _, _, _, rfl, _⟩ := h; rfl) | (obtain ⟨_, _, _, _, _, _, _, _, rfl, _⟩ := h; rfl) | (obtain ⟨_, _, _, _, _, _, _, _, _, rfl, _⟩ := h; rfl) | (unfold sp_fits_known at h; split at h; rfl; exact h.elim)) p_fits_known
theorem H_need_known (T : Txt K mg) (A : Defs K mg) : Here P w K mg base 4 "need_known" ["known"] sp_need_known :=
  h_need_known T A.d_need_known (H_fits_known T A) (fun ds S Q h => by first | (obtain ⟨rfl, _⟩ := h; rfl) | (obtain ⟨_, rfl, _⟩ := h; rfl) | (obtain ⟨_, _, rfl, _⟩ := h; rfl) | (obtain ⟨_, _, _, rfl, _⟩ := h; rfl) | (obtain ⟨_, _, _, _, rfl, _⟩ := h; rfl) | (obtain ⟨_, _, _, _, _, rfl, _⟩ := h; rfl) | (obtain ⟨_, _, _, _, _, _, rfl, _⟩ := h; rfl) | (obtain ⟨_, _, _, _, _, _, _, rfl, _⟩ := h; rfl) | (obtain ⟨_, _, _, _, _, _, _, _, rfl, _⟩ := h; rfl) | (obtain ⟨_, _, _, _, _, _, _, _, _, rfl, _⟩ := h; rfl) | (unfold sp_need_known at h; split at h; rfl; exact h.elim)) p_need_known
theorem H_need_all (T : Txt K mg) (A : Defs K mg) : Here P w K mg base 5 "need_all" ["known", "octets", "frame"] sp_need_all :=
  h_need_all T A.d_need_all (H_need_known T A) ((H_fits_octets T A).mono (by decide)) ((H_is_whole T A).mono (by decide)) (fun ds S Q h => by first | (obtain ⟨rfl, _⟩ := h; rfl) | (obtain ⟨_, rfl, _⟩ := h; rfl) | (obtain ⟨_, _, rfl, _⟩ := h; rfl) | (obtain ⟨_, _, _, rfl, _⟩ := h; rfl) | (obtain ⟨_, _, _, _, rfl, _⟩ := h; rfl) | (obtain ⟨_, _, _, _, _, rfl, _⟩ := h; rfl) | (obtain ⟨_, _, _, _, _, _, rfl, _⟩ := h; rfl) | (obtain ⟨_, _, _, _, _, _, _, rfl, _⟩ := h; rfl) | (obtain ⟨_, _, _, _, _, _, _, _, rfl, _⟩ := h; rfl) | (obtain ⟨_, _, _, _, _, _, _, _, _, rfl, _⟩ := h; rfl) | (unfold sp_need_all at h; split at h; rfl; exact h.elim)) p_need_all
theorem H_steps_at (T : Txt K mg) (A : Defs K mg) : Here P w K mg base 1 "steps_at" ["known", "octets", "at", "frame"] sp_steps_at :=
  h_steps_at T A.d_steps_at  (fun ds S Q h => by first | (obtain ⟨rfl, _⟩ := h; rfl) | (obtain ⟨_, rfl, _⟩ := h; rfl) | (obtain ⟨_, _, rfl, _⟩ := h; rfl) | (obtain ⟨_, _, _, rfl, _⟩ := h; rfl) | (obtain ⟨_, _, _, _, rfl, _⟩ := h; rfl) | (obtain ⟨_, _, _, _, _, rfl, _⟩ := h; rfl) | (obtain ⟨_, _, _, _, _, _, rfl, _⟩ := h; rfl) | (obtain ⟨_, _, _, _, _, _, _, rfl, _⟩ := h; rfl) | (obtain ⟨_, _, _, _, _, _, _, _, rfl, _⟩ := h; rfl) | (obtain ⟨_, _, _, _, _, _, _, _, _, rfl, _⟩ := h; rfl) | (unfold sp_steps_at at h; split at h; rfl; exact h.elim)) p_steps_at
theorem H_prices_in (T : Txt K mg) (A : Defs K mg) : Here P w K mg base 2 "prices_in" ["known", "octets", "frame"] sp_prices_in :=
  h_prices_in T A.d_prices_in (H_steps_at T A) (fun ds S Q h => by first | (obtain ⟨rfl, _⟩ := h; rfl) | (obtain ⟨_, rfl, _⟩ := h; rfl) | (obtain ⟨_, _, rfl, _⟩ := h; rfl) | (obtain ⟨_, _, _, rfl, _⟩ := h; rfl) | (obtain ⟨_, _, _, _, rfl, _⟩ := h; rfl) | (obtain ⟨_, _, _, _, _, rfl, _⟩ := h; rfl) | (obtain ⟨_, _, _, _, _, _, rfl, _⟩ := h; rfl) | (obtain ⟨_, _, _, _, _, _, _, rfl, _⟩ := h; rfl) | (obtain ⟨_, _, _, _, _, _, _, _, rfl, _⟩ := h; rfl) | (obtain ⟨_, _, _, _, _, _, _, _, _, rfl, _⟩ := h; rfl) | (unfold sp_prices_in at h; split at h; rfl; exact h.elim)) p_prices_in
theorem H_least_price (T : Txt K mg) (A : Defs K mg) : Here P w K mg base 6 "least_price" ["known", "octets", "frame"] sp_least_price :=
  h_least_price T A.d_least_price (H_need_all T A) ((H_prices_in T A).mono (by decide)) (fun ds S Q h => by first | (obtain ⟨rfl, _⟩ := h; rfl) | (obtain ⟨_, rfl, _⟩ := h; rfl) | (obtain ⟨_, _, rfl, _⟩ := h; rfl) | (obtain ⟨_, _, _, rfl, _⟩ := h; rfl) | (obtain ⟨_, _, _, _, rfl, _⟩ := h; rfl) | (obtain ⟨_, _, _, _, _, rfl, _⟩ := h; rfl) | (obtain ⟨_, _, _, _, _, _, rfl, _⟩ := h; rfl) | (obtain ⟨_, _, _, _, _, _, _, rfl, _⟩ := h; rfl) | (obtain ⟨_, _, _, _, _, _, _, _, rfl, _⟩ := h; rfl) | (obtain ⟨_, _, _, _, _, _, _, _, _, rfl, _⟩ := h; rfl) | (unfold sp_least_price at h; split at h; rfl; exact h.elim)) p_least_price
theorem H_price_paper (T : Txt K mg) (A : Defs K mg) : Here P w K mg base 6 "price_paper" ["known", "octets", "frame", "bound"] sp_price_paper :=
  h_price_paper T A.d_price_paper (H_need_all T A) ((H_is_whole T A).mono (by decide)) ((H_prices_in T A).mono (by decide)) (fun ds S Q h => by first | (obtain ⟨rfl, _⟩ := h; rfl) | (obtain ⟨_, rfl, _⟩ := h; rfl) | (obtain ⟨_, _, rfl, _⟩ := h; rfl) | (obtain ⟨_, _, _, rfl, _⟩ := h; rfl) | (obtain ⟨_, _, _, _, rfl, _⟩ := h; rfl) | (obtain ⟨_, _, _, _, _, rfl, _⟩ := h; rfl) | (obtain ⟨_, _, _, _, _, _, rfl, _⟩ := h; rfl) | (obtain ⟨_, _, _, _, _, _, _, rfl, _⟩ := h; rfl) | (obtain ⟨_, _, _, _, _, _, _, _, rfl, _⟩ := h; rfl) | (obtain ⟨_, _, _, _, _, _, _, _, _, rfl, _⟩ := h; rfl) | (unfold sp_price_paper at h; split at h; rfl; exact h.elim)) p_price_paper
theorem H__law_is_paper (T : Txt K mg) (A : Defs K mg) : Here P w K mg base 2 "_law_is_paper" ["known", "octets", "frame", "bound", "value"] sp_lpaper :=
  h__law_is_paper T A.d__law_is_paper (H__law_steps T A) (fun ds S Q h => by first | (obtain ⟨rfl, _⟩ := h; rfl) | (obtain ⟨_, rfl, _⟩ := h; rfl) | (obtain ⟨_, _, rfl, _⟩ := h; rfl) | (obtain ⟨_, _, _, rfl, _⟩ := h; rfl) | (obtain ⟨_, _, _, _, rfl, _⟩ := h; rfl) | (obtain ⟨_, _, _, _, _, rfl, _⟩ := h; rfl) | (obtain ⟨_, _, _, _, _, _, rfl, _⟩ := h; rfl) | (obtain ⟨_, _, _, _, _, _, _, rfl, _⟩ := h; rfl) | (obtain ⟨_, _, _, _, _, _, _, _, rfl, _⟩ := h; rfl) | (obtain ⟨_, _, _, _, _, _, _, _, _, rfl, _⟩ := h; rfl) | (unfold sp_lpaper at h; split at h; rfl; exact h.elim)) p_lpaper
theorem H_is_price_paper (T : Txt K mg) (A : Defs K mg) : Here P w K mg base 6 "is_price_paper" ["known", "octets", "frame", "bound", "value"] sp_is_price_paper :=
  h_is_price_paper T A.d_is_price_paper (H_need_all T A) ((H_is_whole T A).mono (by decide)) ((H_is_tuple_of T A).mono (by decide)) ((H_steps_at T A).mono (by decide)) (fun ds S Q h => by first | (obtain ⟨rfl, _⟩ := h; rfl) | (obtain ⟨_, rfl, _⟩ := h; rfl) | (obtain ⟨_, _, rfl, _⟩ := h; rfl) | (obtain ⟨_, _, _, rfl, _⟩ := h; rfl) | (obtain ⟨_, _, _, _, rfl, _⟩ := h; rfl) | (obtain ⟨_, _, _, _, _, rfl, _⟩ := h; rfl) | (obtain ⟨_, _, _, _, _, _, rfl, _⟩ := h; rfl) | (obtain ⟨_, _, _, _, _, _, _, rfl, _⟩ := h; rfl) | (obtain ⟨_, _, _, _, _, _, _, _, rfl, _⟩ := h; rfl) | (obtain ⟨_, _, _, _, _, _, _, _, _, rfl, _⟩ := h; rfl) | (unfold sp_is_price_paper at h; split at h; rfl; exact h.elim)) p_is_price_paper
theorem H__law_right (T : Txt K mg) (A : Defs K mg) : Here P w K mg base 11 "_law_right" ["cup", "most"] sp_right :=
  h__law_right T A.d__law_right ((H__law_roll T A).mono (by decide)) ((H__law_octets T A).mono (by decide)) ((H__law_known T A).mono (by decide)) ((H__law_least T A).mono (by decide)) (H__law_same T A.d__law_same 9) ((H_least_price T A).mono (by decide)) ((H_price_paper T A).mono (by decide)) ((H__law_is_paper T A).mono (by decide)) ((H__law_some T A).mono (by decide)) ((H_is_price_paper T A).mono (by decide)) (fun ds S Q h => by first | (obtain ⟨rfl, _⟩ := h; rfl) | (obtain ⟨_, rfl, _⟩ := h; rfl) | (obtain ⟨_, _, rfl, _⟩ := h; rfl) | (obtain ⟨_, _, _, rfl, _⟩ := h; rfl) | (obtain ⟨_, _, _, _, rfl, _⟩ := h; rfl) | (obtain ⟨_, _, _, _, _, rfl, _⟩ := h; rfl) | (obtain ⟨_, _, _, _, _, _, rfl, _⟩ := h; rfl) | (obtain ⟨_, _, _, _, _, _, _, rfl, _⟩ := h; rfl) | (obtain ⟨_, _, _, _, _, _, _, _, rfl, _⟩ := h; rfl) | (obtain ⟨_, _, _, _, _, _, _, _, _, rfl, _⟩ := h; rfl) | (unfold sp_right at h; split at h; rfl; exact h.elim)) p_right
theorem H_law (T : Txt K mg) (A : Defs K mg) : Here P w K mg base 12 "law" ["script"] sp_law :=
  h_law T A.d_law ((H__law_cup T A).mono (by decide)) (H__law_right T A) ((H_is_price_paper T A).mono (by decide)) ((H__law_octets T A).mono (by decide)) ((H_price_paper T A).mono (by decide)) (fun ds S Q h => by first | (obtain ⟨rfl, _⟩ := h; rfl) | (obtain ⟨_, rfl, _⟩ := h; rfl) | (obtain ⟨_, _, rfl, _⟩ := h; rfl) | (obtain ⟨_, _, _, rfl, _⟩ := h; rfl) | (obtain ⟨_, _, _, _, rfl, _⟩ := h; rfl) | (obtain ⟨_, _, _, _, _, rfl, _⟩ := h; rfl) | (obtain ⟨_, _, _, _, _, _, rfl, _⟩ := h; rfl) | (obtain ⟨_, _, _, _, _, _, _, rfl, _⟩ := h; rfl) | (obtain ⟨_, _, _, _, _, _, _, _, rfl, _⟩ := h; rfl) | (obtain ⟨_, _, _, _, _, _, _, _, _, rfl, _⟩ := h; rfl) | (unfold sp_law at h; split at h; rfl; exact h.elim)) p_law
end
theorem all_mk {l : PySem.W.OpenLaw} {w : World} {K : PySem.W.Frag} {h : Heap} {mg : Str → Option Value} {fa : Addr} {f1 f2 f3 f4 f5 f6 f7 f8 f9 f10 f11 f12 f13 f14 f15 f16 f17 f18 f19 f20 f21 f22 f23 : Addr} {od1 an1 od2 an2 od3 an3 od4 an4 od5 an5 od6 an6 od7 an7 od8 an8 od9 an9 od10 an10 od11 an11 od12 an12 od13 an13 od14 an14 od15 an15 od16 an16 od17 an17 od18 an18 od19 an19 od20 an20 od21 an21 od22 an22 od23 an23 : Option Addr} {sl1 sl2 sl3 sl4 sl5 sl6 sl7 sl8 sl9 sl10 sl11 sl12 sl13 sl14 sl15 sl16 sl17 sl18 sl19 sl20 sl21 sl22 sl23 : Array (Option Value)} {oc1 kV1 dc1 pm1 cd1 ct1 oc2 kV2 dc2 pm2 cd2 ct2 oc3 kV3 dc3 pm3 cd3 ct3 oc4 kV4 dc4 pm4 cd4 ct4 oc5 kV5 dc5 pm5 cd5 ct5 oc6 kV6 dc6 pm6 cd6 ct6 oc7 kV7 dc7 pm7 cd7 ct7 oc8 kV8 dc8 pm8 cd8 ct8 oc9 kV9 dc9 pm9 cd9 ct9 oc10 kV10 dc10 pm10 cd10 ct10 oc11 kV11 dc11 pm11 cd11 ct11 oc12 kV12 dc12 pm12 cd12 ct12 oc13 kV13 dc13 pm13 cd13 ct13 oc14 kV14 dc14 pm14 cd14 ct14 oc15 kV15 dc15 pm15 cd15 ct15 oc16 kV16 dc16 pm16 cd16 ct16 oc17 kV17 dc17 pm17 cd17 ct17 oc18 kV18 dc18 pm18 cd18 ct18 oc19 kV19 dc19 pm19 cd19 ct19 oc20 kV20 dc20 pm20 cd20 ct20 oc21 kV21 dc21 pm21 cd21 ct21 oc22 kV22 dc22 pm22 cd22 ct22 oc23 kV23 dc23 pm23 cd23 ct23 : Value} {tk0 tk1 tk2 tk3 tk4 : Tok}
    (X : K.In h) (G : h.Ns mainGlobals mg) (hfa : mg "law" = some (.ref fa))
    (a1 : PySem.W.nsIn K mainGlobals "_law_cup" = some (some (.ref f1)))
    (l1 : K.lookup f1 = some ⟨oc1, od1, .func (PySem.W.fnOf "_law_cup" "_law_cup" (defArgs s__law_cup) (defBody s__law_cup) (defScope s__law_cup) .none kV1 dc1 pm1 an1 cd1 ct1), sl1⟩)
    (c1 : PySem.W.codeIn K cd1 "_law_cup" = true) (k1 : PySem.W.keepIn K (.ref f1) = true)
    (a2 : PySem.W.nsIn K mainGlobals "_law_roll" = some (some (.ref f2)))
    (l2 : K.lookup f2 = some ⟨oc2, od2, .func (PySem.W.fnOf "_law_roll" "_law_roll" (defArgs s__law_roll) (defBody s__law_roll) (defScope s__law_roll) .none kV2 dc2 pm2 an2 cd2 ct2), sl2⟩)
    (c2 : PySem.W.codeIn K cd2 "_law_roll" = true) (k2 : PySem.W.keepIn K (.ref f2) = true)
    (a3 : PySem.W.nsIn K mainGlobals "_law_some" = some (some (.ref f3)))
    (l3 : K.lookup f3 = some ⟨oc3, od3, .func (PySem.W.fnOf "_law_some" "_law_some" (defArgs s__law_some) (defBody s__law_some) (defScope s__law_some) .none kV3 dc3 pm3 an3 cd3 ct3), sl3⟩)
    (c3 : PySem.W.codeIn K cd3 "_law_some" = true) (k3 : PySem.W.keepIn K (.ref f3) = true)
    (a4 : PySem.W.nsIn K mainGlobals "_law_file" = some (some (.ref f4)))
    (l4 : K.lookup f4 = some ⟨oc4, od4, .func (PySem.W.fnOf "_law_file" "_law_file" (defArgs s__law_file) (defBody s__law_file) (defScope s__law_file) .none kV4 dc4 pm4 an4 cd4 ct4), sl4⟩)
    (c4 : PySem.W.codeIn K cd4 "_law_file" = true) (k4 : PySem.W.keepIn K (.ref f4) = true)
    (a5 : PySem.W.nsIn K mainGlobals "_law_octets" = some (some (.ref f5)))
    (l5 : K.lookup f5 = some ⟨oc5, od5, .func (PySem.W.fnOf "_law_octets" "_law_octets" (defArgs s__law_octets) (defBody s__law_octets) (defScope s__law_octets) .none kV5 dc5 pm5 an5 cd5 ct5), sl5⟩)
    (c5 : PySem.W.codeIn K cd5 "_law_octets" = true) (k5 : PySem.W.keepIn K (.ref f5) = true)
    (a6 : PySem.W.nsIn K mainGlobals "_law_known" = some (some (.ref f6)))
    (l6 : K.lookup f6 = some ⟨oc6, od6, .func (PySem.W.fnOf "_law_known" "_law_known" (defArgs s__law_known) (defBody s__law_known) (defScope s__law_known) .none kV6 dc6 pm6 an6 cd6 ct6), sl6⟩)
    (c6 : PySem.W.codeIn K cd6 "_law_known" = true) (k6 : PySem.W.keepIn K (.ref f6) = true)
    (a7 : PySem.W.nsIn K mainGlobals "_law_steps" = some (some (.ref f7)))
    (l7 : K.lookup f7 = some ⟨oc7, od7, .func (PySem.W.fnOf "_law_steps" "_law_steps" (defArgs s__law_steps) (defBody s__law_steps) (defScope s__law_steps) .none kV7 dc7 pm7 an7 cd7 ct7), sl7⟩)
    (c7 : PySem.W.codeIn K cd7 "_law_steps" = true) (k7 : PySem.W.keepIn K (.ref f7) = true)
    (a8 : PySem.W.nsIn K mainGlobals "_law_least" = some (some (.ref f8)))
    (l8 : K.lookup f8 = some ⟨oc8, od8, .func (PySem.W.fnOf "_law_least" "_law_least" (defArgs s__law_least) (defBody s__law_least) (defScope s__law_least) .none kV8 dc8 pm8 an8 cd8 ct8), sl8⟩)
    (c8 : PySem.W.codeIn K cd8 "_law_least" = true) (k8 : PySem.W.keepIn K (.ref f8) = true)
    (a9 : PySem.W.nsIn K mainGlobals "_law_same" = some (some (.ref f9)))
    (l9 : K.lookup f9 = some ⟨oc9, od9, .func (PySem.W.fnOf "_law_same" "_law_same" (defArgs s__law_same) (defBody s__law_same) (defScope s__law_same) .none kV9 dc9 pm9 an9 cd9 ct9), sl9⟩)
    (c9 : PySem.W.codeIn K cd9 "_law_same" = true) (k9 : PySem.W.keepIn K (.ref f9) = true)
    (a10 : PySem.W.nsIn K mainGlobals "is_whole" = some (some (.ref f10)))
    (l10 : K.lookup f10 = some ⟨oc10, od10, .func (PySem.W.fnOf "is_whole" "is_whole" (defArgs s_is_whole) (defBody s_is_whole) (defScope s_is_whole) .none kV10 dc10 pm10 an10 cd10 ct10), sl10⟩)
    (c10 : PySem.W.codeIn K cd10 "is_whole" = true) (k10 : PySem.W.keepIn K (.ref f10) = true)
    (a11 : PySem.W.nsIn K mainGlobals "is_tuple_of" = some (some (.ref f11)))
    (l11 : K.lookup f11 = some ⟨oc11, od11, .func (PySem.W.fnOf "is_tuple_of" "is_tuple_of" (defArgs s_is_tuple_of) (defBody s_is_tuple_of) (defScope s_is_tuple_of) .none kV11 dc11 pm11 an11 cd11 ct11), sl11⟩)
    (c11 : PySem.W.codeIn K cd11 "is_tuple_of" = true) (k11 : PySem.W.keepIn K (.ref f11) = true)
    (a12 : PySem.W.nsIn K mainGlobals "fits_octets" = some (some (.ref f12)))
    (l12 : K.lookup f12 = some ⟨oc12, od12, .func (PySem.W.fnOf "fits_octets" "fits_octets" (defArgs s_fits_octets) (defBody s_fits_octets) (defScope s_fits_octets) .none kV12 dc12 pm12 an12 cd12 ct12), sl12⟩)
    (c12 : PySem.W.codeIn K cd12 "fits_octets" = true) (k12 : PySem.W.keepIn K (.ref f12) = true)
    (a13 : PySem.W.nsIn K mainGlobals "fits_known" = some (some (.ref f13)))
    (l13 : K.lookup f13 = some ⟨oc13, od13, .func (PySem.W.fnOf "fits_known" "fits_known" (defArgs s_fits_known) (defBody s_fits_known) (defScope s_fits_known) .none kV13 dc13 pm13 an13 cd13 ct13), sl13⟩)
    (c13 : PySem.W.codeIn K cd13 "fits_known" = true) (k13 : PySem.W.keepIn K (.ref f13) = true)
    (a14 : PySem.W.nsIn K mainGlobals "need_known" = some (some (.ref f14)))
    (l14 : K.lookup f14 = some ⟨oc14, od14, .func (PySem.W.fnOf "need_known" "need_known" (defArgs s_need_known) (defBody s_need_known) (defScope s_need_known) .none kV14 dc14 pm14 an14 cd14 ct14), sl14⟩)
    (c14 : PySem.W.codeIn K cd14 "need_known" = true) (k14 : PySem.W.keepIn K (.ref f14) = true)
    (a15 : PySem.W.nsIn K mainGlobals "need_all" = some (some (.ref f15)))
    (l15 : K.lookup f15 = some ⟨oc15, od15, .func (PySem.W.fnOf "need_all" "need_all" (defArgs s_need_all) (defBody s_need_all) (defScope s_need_all) .none kV15 dc15 pm15 an15 cd15 ct15), sl15⟩)
    (c15 : PySem.W.codeIn K cd15 "need_all" = true) (k15 : PySem.W.keepIn K (.ref f15) = true)
    (a16 : PySem.W.nsIn K mainGlobals "steps_at" = some (some (.ref f16)))
    (l16 : K.lookup f16 = some ⟨oc16, od16, .func (PySem.W.fnOf "steps_at" "steps_at" (defArgs s_steps_at) (defBody s_steps_at) (defScope s_steps_at) .none kV16 dc16 pm16 an16 cd16 ct16), sl16⟩)
    (c16 : PySem.W.codeIn K cd16 "steps_at" = true) (k16 : PySem.W.keepIn K (.ref f16) = true)
    (a17 : PySem.W.nsIn K mainGlobals "prices_in" = some (some (.ref f17)))
    (l17 : K.lookup f17 = some ⟨oc17, od17, .func (PySem.W.fnOf "prices_in" "prices_in" (defArgs s_prices_in) (defBody s_prices_in) (defScope s_prices_in) .none kV17 dc17 pm17 an17 cd17 ct17), sl17⟩)
    (c17 : PySem.W.codeIn K cd17 "prices_in" = true) (k17 : PySem.W.keepIn K (.ref f17) = true)
    (a18 : PySem.W.nsIn K mainGlobals "least_price" = some (some (.ref f18)))
    (l18 : K.lookup f18 = some ⟨oc18, od18, .func (PySem.W.fnOf "least_price" "least_price" (defArgs s_least_price) (defBody s_least_price) (defScope s_least_price) .none kV18 dc18 pm18 an18 cd18 ct18), sl18⟩)
    (c18 : PySem.W.codeIn K cd18 "least_price" = true) (k18 : PySem.W.keepIn K (.ref f18) = true)
    (a19 : PySem.W.nsIn K mainGlobals "price_paper" = some (some (.ref f19)))
    (l19 : K.lookup f19 = some ⟨oc19, od19, .func (PySem.W.fnOf "price_paper" "price_paper" (defArgs s_price_paper) (defBody s_price_paper) (defScope s_price_paper) .none kV19 dc19 pm19 an19 cd19 ct19), sl19⟩)
    (c19 : PySem.W.codeIn K cd19 "price_paper" = true) (k19 : PySem.W.keepIn K (.ref f19) = true)
    (a20 : PySem.W.nsIn K mainGlobals "_law_is_paper" = some (some (.ref f20)))
    (l20 : K.lookup f20 = some ⟨oc20, od20, .func (PySem.W.fnOf "_law_is_paper" "_law_is_paper" (defArgs s__law_is_paper) (defBody s__law_is_paper) (defScope s__law_is_paper) .none kV20 dc20 pm20 an20 cd20 ct20), sl20⟩)
    (c20 : PySem.W.codeIn K cd20 "_law_is_paper" = true) (k20 : PySem.W.keepIn K (.ref f20) = true)
    (a21 : PySem.W.nsIn K mainGlobals "is_price_paper" = some (some (.ref f21)))
    (l21 : K.lookup f21 = some ⟨oc21, od21, .func (PySem.W.fnOf "is_price_paper" "is_price_paper" (defArgs s_is_price_paper) (defBody s_is_price_paper) (defScope s_is_price_paper) .none kV21 dc21 pm21 an21 cd21 ct21), sl21⟩)
    (c21 : PySem.W.codeIn K cd21 "is_price_paper" = true) (k21 : PySem.W.keepIn K (.ref f21) = true)
    (a22 : PySem.W.nsIn K mainGlobals "_law_right" = some (some (.ref f22)))
    (l22 : K.lookup f22 = some ⟨oc22, od22, .func (PySem.W.fnOf "_law_right" "_law_right" (defArgs s__law_right) (defBody s__law_right) (defScope s__law_right) .none kV22 dc22 pm22 an22 cd22 ct22), sl22⟩)
    (c22 : PySem.W.codeIn K cd22 "_law_right" = true) (k22 : PySem.W.keepIn K (.ref f22) = true)
    (a23 : PySem.W.nsIn K mainGlobals "law" = some (some (.ref f23)))
    (l23 : K.lookup f23 = some ⟨oc23, od23, .func (PySem.W.fnOf "law" "law" (defArgs s_law) (defBody s_law) (defScope s_law) .none kV23 dc23 pm23 an23 cd23 ct23), sl23⟩)
    (c23 : PySem.W.codeIn K cd23 "law" = true) (k23 : PySem.W.keepIn K (.ref f23) = true)
    (z0 : PySem.W.nsIn K mainGlobals "abs" = some none)
    (z1 : PySem.W.nsIn K mainGlobals "all" = some none)
    (z2 : PySem.W.nsIn K mainGlobals "any" = some none)
    (z3 : PySem.W.nsIn K mainGlobals "bool" = some none)
    (z4 : PySem.W.nsIn K mainGlobals "enumerate" = some none)
    (z5 : PySem.W.nsIn K mainGlobals "int" = some none)
    (z6 : PySem.W.nsIn K mainGlobals "isinstance" = some none)
    (z7 : PySem.W.nsIn K mainGlobals "len" = some none)
    (z8 : PySem.W.nsIn K mainGlobals "list" = some none)
    (z9 : PySem.W.nsIn K mainGlobals "max" = some none)
    (z10 : PySem.W.nsIn K mainGlobals "min" = some none)
    (z11 : PySem.W.nsIn K mainGlobals "range" = some none)
    (z12 : PySem.W.nsIn K mainGlobals "set" = some none)
    (z13 : PySem.W.nsIn K mainGlobals "str" = some none)
    (z14 : PySem.W.nsIn K mainGlobals "tuple" = some none)
    (gv0 : PySem.W.nsIn K mainGlobals "BOUND" = some (some (.int 1000000 tk0)))
    (gv1 : PySem.W.nsIn K mainGlobals "FRAME" = some (some (.int 100 tk1)))
    (gv2 : PySem.W.nsIn K mainGlobals "KNOWN" = some (some (.int 64 tk2)))
    (gv3 : PySem.W.nsIn K mainGlobals "OCTETS" = some (some (.int 5000 tk3)))
    (gv4 : PySem.W.nsIn K mainGlobals "SIZE" = some (some (.int 512 tk4))) :
    ∃ fd : FuncData, (∀ (s : Shared) (v : Value), BindsTo s fd ⟨[v], []⟩ [("script", v)]) ∧ ∀ base : Heap, K.In base → base.Ns mainGlobals mg → FnOk l.prog w K mg base CX0 12 fa fd ["script"] (upSp ⟨l.prog, w, K⟩ sp_law) := by
  have e := hfa.symm.trans (PySem.W.mg_of X G a23)
  cases e
  have T : Txt K mg := ⟨PySem.W.mg_none_of X G z0, PySem.W.mg_none_of X G z1, PySem.W.mg_none_of X G z2, PySem.W.mg_none_of X G z3, PySem.W.mg_none_of X G z4, PySem.W.mg_none_of X G z5, PySem.W.mg_none_of X G z6, PySem.W.mg_none_of X G z7, PySem.W.mg_none_of X G z8, PySem.W.mg_none_of X G z9, PySem.W.mg_none_of X G z10, PySem.W.mg_none_of X G z11, PySem.W.mg_none_of X G z12, PySem.W.mg_none_of X G z13, PySem.W.mg_none_of X G z14, ⟨_, PySem.W.mg_of X G gv0⟩, ⟨_, PySem.W.mg_of X G gv1⟩, ⟨_, PySem.W.mg_of X G gv2⟩, ⟨_, PySem.W.mg_of X G gv3⟩, ⟨_, PySem.W.mg_of X G gv4⟩⟩
  have A : Defs K mg := ⟨def_mk X G a1 l1 c1 k1 (fun _ _ _ _ _ _ us hl => match us, hl with | [_], _ => rfl),
    def_mk X G a2 l2 c2 k2 (fun _ _ _ _ _ _ us hl => match us, hl with | [_, _], _ => rfl),
    def_mk X G a3 l3 c3 k3 (fun _ _ _ _ _ _ us hl => match us, hl with | [_, _], _ => rfl),
    def_mk X G a4 l4 c4 k4 (fun _ _ _ _ _ _ us hl => match us, hl with | [_, _], _ => rfl),
    def_mk X G a5 l5 c5 k5 (fun _ _ _ _ _ _ us hl => match us, hl with | [_, _], _ => rfl),
    def_mk X G a6 l6 c6 k6 (fun _ _ _ _ _ _ us hl => match us, hl with | [_, _], _ => rfl),
    def_mk X G a7 l7 c7 k7 (fun _ _ _ _ _ _ us hl => match us, hl with | [_, _, _, _], _ => rfl),
    def_mk X G a8 l8 c8 k8 (fun _ _ _ _ _ _ us hl => match us, hl with | [_, _, _], _ => rfl),
    def_mk X G a9 l9 c9 k9 (fun _ _ _ _ _ _ us hl => match us, hl with | [_, _], _ => rfl),
    def_mk X G a10 l10 c10 k10 (fun _ _ _ _ _ _ us hl => match us, hl with | [_, _, _], _ => rfl),
    def_mk X G a11 l11 c11 k11 (fun _ _ _ _ _ _ us hl => match us, hl with | [_, _, _], _ => rfl),
    def_mk X G a12 l12 c12 k12 (fun _ _ _ _ _ _ us hl => match us, hl with | [_, _], _ => rfl),
    def_mk X G a13 l13 c13 k13 (fun _ _ _ _ _ _ us hl => match us, hl with | [_], _ => rfl),
    def_mk X G a14 l14 c14 k14 (fun _ _ _ _ _ _ us hl => match us, hl with | [_], _ => rfl),
    def_mk X G a15 l15 c15 k15 (fun _ _ _ _ _ _ us hl => match us, hl with | [_, _, _], _ => rfl),
    def_mk X G a16 l16 c16 k16 (fun _ _ _ _ _ _ us hl => match us, hl with | [_, _, _, _], _ => rfl),
    def_mk X G a17 l17 c17 k17 (fun _ _ _ _ _ _ us hl => match us, hl with | [_, _, _], _ => rfl),
    def_mk X G a18 l18 c18 k18 (fun _ _ _ _ _ _ us hl => match us, hl with | [_, _, _], _ => rfl),
    def_mk X G a19 l19 c19 k19 (fun _ _ _ _ _ _ us hl => match us, hl with | [_, _, _, _], _ => rfl),
    def_mk X G a20 l20 c20 k20 (fun _ _ _ _ _ _ us hl => match us, hl with | [_, _, _, _, _], _ => rfl),
    def_mk X G a21 l21 c21 k21 (fun _ _ _ _ _ _ us hl => match us, hl with | [_, _, _, _, _], _ => rfl),
    def_mk X G a22 l22 c22 k22 (fun _ _ _ _ _ _ us hl => match us, hl with | [_, _], _ => rfl),
    def_mk X G a23 l23 c23 k23 (fun _ _ _ _ _ _ us hl => match us, hl with | [_], _ => rfl)⟩
  exact ⟨_, fun s v => .of_eq rfl, fun base _ _ => (H_law (P := l.prog) (w := w) (base := base) T A).at hfa l23⟩
theorem bits_log {z : Int} (h : Builtin.Int.intBits z ≤ 1048576) : z.natAbs.log2 < 1999999 := by
  unfold Builtin.Int.intBits at h
  split at h
  · next e =>
    rw [beq_iff_eq.mp e]
    decide
  · omega
theorem walk {l : PySem.W.OpenLaw} {q : Program} {loose : List Str} {XP : (Str → Option Value) → Heap → Prop} {YP : World → Heap → Prop} {d : DefRec} {K : Params → PySem.W.Frag}
    (hn : l.most = some 63) (hdf : d.params.defaults = []) (hY : ∀ (w : World) (h : Heap), YP w h → (K w.params).In h) (hno : ∀ p : Params, noListB (K p) = true)
    (F : ∀ (w : World) (mg : Str → Option Value) (fa : Addr) (h : Heap), (K w.params).In h → h.Ns mainGlobals mg → mg d.name = some (.ref fa) →
      ∃ fd : FuncData, (∀ (s : Shared) (u : Value), BindsTo s fd ⟨[u], []⟩ [("script", u)]) ∧ ∀ base : Heap, (K w.params).In base → base.Ns mainGlobals mg → FnOk l.prog w (K w.params) mg base CX0 12 fa fd ["script"] (upSp ⟨l.prog, w, K w.params⟩ sp_law)) :
    PySem.W.WalkO q loose XP YP l.row.toRowW d [] (fun f vs => PySem.call f vs) :=
  L2.walk_ofB (n := 63) (k := 12) (x := "script") (CX := fun _ => CX0) (sp := fun w => upSp ⟨l.prog, w, K w.params⟩ sp_law) hn (by decide) hdf ⟨rfl, by decide, by decide⟩ hY F
    (fun w H a ns hl hb _ hS => script_sp (hno _) hS ⟨a, ns, rfl, put_same, by omega, fun n hn => bits_log (hb n hn), fun _ => rfl⟩) fun _ _ _ _ _ z => z
end DW.K48
open PySem PySem.W PyProof.Rows
set_option maxRecDepth 100000 in
set_option maxHeartbeats 0 in
theorem PySem.Challenge.cw_layersheld_k48_whole_price_papers_holds : PySem.Challenge.rw_layersheld_k48_whole_price_papers.Holds := by
  w_on
  o_law
  k_head
  (case hw => w_witness2)
  k_fill
  refine DW.K48.walk (l := PySem.Challenge.rw_layersheld_k48_whole_price_papers) rfl rfl (fun w h Y => PySem.W.kIn_of Y) ?no ?F
  case no =>
    intro p
    kernel_rfl
  case F =>
    intro w mg fa h KX G hmg
    refine' DW.K48.all_mk KX G hmg ?a1 ?l1 ?c1 ?k1 ?a2 ?l2 ?c2 ?k2 ?a3 ?l3 ?c3 ?k3 ?a4 ?l4 ?c4 ?k4 ?a5 ?l5 ?c5 ?k5 ?a6 ?l6 ?c6 ?k6 ?a7 ?l7 ?c7 ?k7 ?a8 ?l8 ?c8 ?k8 ?a9 ?l9 ?c9 ?k9 ?a10 ?l10 ?c10 ?k10 ?a11 ?l11 ?c11 ?k11 ?a12 ?l12 ?c12 ?k12 ?a13 ?l13 ?c13 ?k13 ?a14 ?l14 ?c14 ?k14 ?a15 ?l15 ?c15 ?k15 ?a16 ?l16 ?c16 ?k16 ?a17 ?l17 ?c17 ?k17 ?a18 ?l18 ?c18 ?k18 ?a19 ?l19 ?c19 ?k19 ?a20 ?l20 ?c20 ?k20 ?a21 ?l21 ?c21 ?k21 ?a22 ?l22 ?c22 ?k22 ?a23 ?l23 ?c23 ?k23 ?z0 ?z1 ?z2 ?z3 ?z4 ?z5 ?z6 ?z7 ?z8 ?z9 ?z10 ?z11 ?z12 ?z13 ?z14 ?gv0 ?gv1 ?gv2 ?gv3 ?gv4
    (case a1 => k_is)
    (case l1 => k_is)
    (case c1 => k_is)
    (case k1 => k_is)
    (case a2 => k_is)
    (case l2 => k_is)
    (case c2 => k_is)
    (case k2 => k_is)
    (case a3 => k_is)
    (case l3 => k_is)
    (case c3 => k_is)
    (case k3 => k_is)
    (case a4 => k_is)
    (case l4 => k_is)
    (case c4 => k_is)
    (case k4 => k_is)
    (case a5 => k_is)
    (case l5 => k_is)
    (case c5 => k_is)
    (case k5 => k_is)
    (case a6 => k_is)
    (case l6 => k_is)
    (case c6 => k_is)
    (case k6 => k_is)
    (case a7 => k_is)
    (case l7 => k_is)
    (case c7 => k_is)
    (case k7 => k_is)
    (case a8 => k_is)
    (case l8 => k_is)
    (case c8 => k_is)
    (case k8 => k_is)
    (case a9 => k_is)
    (case l9 => k_is)
    (case c9 => k_is)
    (case k9 => k_is)
    (case a10 => k_is)
    (case l10 => k_is)
    (case c10 => k_is)
    (case k10 => k_is)
    (case a11 => k_is)
    (case l11 => k_is)
    (case c11 => k_is)
    (case k11 => k_is)
    (case a12 => k_is)
    (case l12 => k_is)
    (case c12 => k_is)
    (case k12 => k_is)
    (case a13 => k_is)
    (case l13 => k_is)
    (case c13 => k_is)
    (case k13 => k_is)
    (case a14 => k_is)
    (case l14 => k_is)
    (case c14 => k_is)
    (case k14 => k_is)
    (case a15 => k_is)
    (case l15 => k_is)
    (case c15 => k_is)
    (case k15 => k_is)
    (case a16 => k_is)
    (case l16 => k_is)
    (case c16 => k_is)
    (case k16 => k_is)
    (case a17 => k_is)
    (case l17 => k_is)
    (case c17 => k_is)
    (case k17 => k_is)
    (case a18 => k_is)
    (case l18 => k_is)
    (case c18 => k_is)
    (case k18 => k_is)
    (case a19 => k_is)
    (case l19 => k_is)
    (case c19 => k_is)
    (case k19 => k_is)
    (case a20 => k_is)
    (case l20 => k_is)
    (case c20 => k_is)
    (case k20 => k_is)
    (case a21 => k_is)
    (case l21 => k_is)
    (case c21 => k_is)
    (case k21 => k_is)
    (case a22 => k_is)
    (case l22 => k_is)
    (case c22 => k_is)
    (case k22 => k_is)
    (case a23 => k_is)
    (case l23 => k_is)
    (case c23 => k_is)
    (case k23 => k_is)
    (case z0 => k_is)
    (case z1 => k_is)
    (case z2 => k_is)
    (case z3 => k_is)
    (case z4 => k_is)
    (case z5 => k_is)
    (case z6 => k_is)
    (case z7 => k_is)
    (case z8 => k_is)
    (case z9 => k_is)
    (case z10 => k_is)
    (case z11 => k_is)
    (case z12 => k_is)
    (case z13 => k_is)
    (case z14 => k_is)
    (case gv0 => k_is)
    (case gv1 => k_is)
    (case gv2 => k_is)
    (case gv3 => k_is)
    (case gv4 => k_is)
