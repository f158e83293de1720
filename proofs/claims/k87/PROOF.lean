import PyProof.Rows.All
import Wide.All
import OpenK.AllK
import Wide.FinOn
import HandS.ForMost
import HandS.Exc
import HandS.WordsExc
import KE.KeyNested
import HandS.TupLen
import HandS.Conv
import PyProof.ListStr
import PyProof.DictRoadsH
import PyProof.Rows.TupTab
import HandS.IsInst
import HandS.Defaults
import PyProof.Rows.AssignMoreSeq
import HandS.TupAny
import HandS.Style
import HandS.Codes
import KE.SortData
import KE.SortKeyHeap
import KE.DataEq
import HandS.More
import HandS.Gcd
import HandS.Wide
import HandS.Iter
import PyProof.StrOps2
import KE.KStateDown
import HandS.Head0
import HandS.Head1
import HandS.Head2
import HandS.Head3
import HandS.HeadEnd
import HandS.HeadHook1
import HandS.HeadHook2
import HandS.HeadHook4
import PySem.Challenge.RW_everygrown_k87_chances_of_builds
set_option Elab.async false
set_option linter.all false
set_option maxRecDepth 100000
set_option maxHeartbeats 1000000
/-! Data by value over the hand layer: what a def computes as a plain function of data. -/
namespace DV
open PySem PySem.Spec PyProof.Rows L2

/-- a condition that nobody computes -/
def Hid (p : Prop) : Prop := p
noncomputable instance {p : Prop} : Decidable (Hid p) := Classical.propDecidable p
/-- what the module's own objects are -/
class KFr (w : World) where
  kfr : PySem.W.Frag
/-- a tuple of the module's -/
def StT (w : World) [KFr w] (a : Addr) (vs : List V) : Prop := ∃ (o : Obj) (its : Array Value) (n : Nat), (KFr.kfr w).lookup a = some o ∧ o.cls = .type "tuple" ∧ o.data = .seq its n ∧ its.size ≤ sizeLine ∧ Vals vs its.toList
def TupAt (w : World) [KFr w] (H : Hp) (a : Addr) (vs : List V) : Prop := H a = some (.tup vs) ∨ StT w a vs
theorem TupAt.stay {w : World} [KFr w] {H H' : Hp} {a : Addr} {vs : List V} (t : TupAt w H a vs) (k : ∀ a xs, H a = some (.tup xs) → H' a = some (.tup xs)) : TupAt w H' a vs := t.imp (k a vs) id
/-- X's module is that one -/
class XKf (X : Cx) [KFr X.w] : Prop where
  eq : KFr.kfr X.w = X.K
theorem TupAt.sq {X : Cx} [KFr X.w] [h : XKf X] {H : Hp} {a : Addr} {vs : List V} (t : TupAt X.w H a vs) : SqT X.K H a vs := t.imp (fun z => .inl z) fun z => by
  rw [← h.eq]
  exact z
theorem kin {X : Cx} [KFr X.w] [h : XKf X] {pins : List (Addr × Obj)} {σ : L2.St} {H : Hp} {s : Shared} (I : L2.Inv X pins σ H s) : (KFr.kfr X.w).In s.heap := by
  rw [h.eq]
  exact I.kIn
instance {X : Cx} [KFr X.w] [h : XKf X] {s : Shared} {H : Hp} {scope : Scope} {env : Env} {fp : List Addr} : XKf (X.blk s H scope env fp) := ⟨h.eq⟩

/-- data: tup, fro never change; lst, dic, set are boxes, each owned by one place; lck, dlk: boxes that a loop walks -/
inductive D where
  | non | bl (b : Bool) | int (i : Int) | str (x : Str)
  | tup (ds : List D)
  | fro (ds : List D)
  | lst (ds : List D)
  | lck (ds : List D)
  | dic (ks ds : List D)
  | dlk (ks ds : List D)

abbrev AS := Addr → Prop

mutual
/-- the key of a dict as the model's kind of keys has it -/
def D.key : D → Option NestedKey
  | .non => some .none
  | .int i => some (.num i)
  | .str x => some (.text x)
  | .tup ds => (D.keys ds).map .tup
  | _ => none
def D.keys : List D → Option (List NestedKey)
  | [] => some []
  | d :: ds => match D.key d, D.keys ds with
    | some k, some ks => some (k :: ks)
    | _, _ => none
end

/-- a tuple as a key: to depth 8, as deep as the model lets a stored key's == be asked -/
def D.tkey : D → Option NestedKey
  | .tup ds => (D.keys ds).bind fun ks => if (NestedKey.tup ks).depth ≤ 8 then some (.tup ks) else none
  | _ => none
/-- an atom key -/
def D.atom : D → Option Key
  | .int i => some (.inl i)
  | .str x => some (.inr x)
  | _ => none

/-- a dict whose keys are tuples: its entries (key, the key's address, value) -/
def dN (P : Program) (w : World) (a : Addr) (es : List (NestedKey × Addr × V)) : HO := .ext fun h =>
  (a == sysModules) = false ∧ es.length ≤ sizeLine ∧ ∃ xs : List (NestedKey × Addr × Value), Paired (fun (p : NestedKey × Addr × V) (q : NestedKey × Addr × Value) => p.1 = q.1 ∧ p.2.1 = q.2.1 ∧ RelV p.2.2 q.2.2) es xs ∧
    ∃ o es' ep, h.get? a = some o ∧ o.ExactDict ∧ o.data = .dict es' ep ∧ es'.toList = xs.map (entryOfKey (nestedKind P w)) ∧ (xs.map (·.1)).Nodup

/-- the dict at a: its keys' data and values -/
def DicAt (P : Program) (w : World) (o : HO) (a : Addr) (ks : List D) (kv vs : List V) : Prop :=
  ks.Nodup ∧ ((∃ kvs : List (Key × V), o = .dK kvs ∧ kvs.map (·.2) = vs ∧ kvs.map (fun p => kV p.1) = kv ∧ ks.map D.atom = kvs.map (fun p => some p.1)) ∨
  (∃ es : List (NestedKey × Addr × V), o = dN P w a es ∧ es ≠ [] ∧ es.map (·.2.2) = vs ∧ es.map (fun p => V.ref p.2.1) = kv ∧ ks.map D.tkey = es.map (fun p => some p.1)))

mutual
/-- v is the data d; its boxes lie within S, each once -/
def Own (P : Program) (w : World) [KFr w] (H : Hp) : D → V → AS → Prop
  | .non, v, _ => v = .non
  | .bl b, v, _ => v = .bl b
  | .int i, v, _ => v = .int i
  | .str x, v, _ => v = .str x
  | .tup ds, v, S => ∃ a vs, v = .ref a ∧ TupAt w H a vs ∧ OwnL P w H ds vs S
  | .fro ds, v, S => ∃ a o vs, v = .ref a ∧ H a = some (.frz o (.lst vs)) ∧ OwnL P w H ds vs S
  | .lst ds, v, S => ∃ a vs, v = .ref a ∧ S a ∧ H a = some (.lst vs) ∧ OwnL P w H ds vs (fun b => S b ∧ b ≠ a)
  | .lck ds, v, S => ∃ a vs, v = .ref a ∧ S a ∧ H a = some (.lst vs) ∧ OwnL P w H ds vs (fun b => S b ∧ b ≠ a)
  | .dic ks ds, v, S => ∃ a o kv vs, v = .ref a ∧ S a ∧ H a = some o ∧ DicAt P w o a ks kv vs ∧ OwnL P w H ks kv (fun _ => False) ∧ OwnL P w H ds vs (fun b => S b ∧ b ≠ a)
  | .dlk ks ds, v, S => ∃ a o ob kv vs, v = .ref a ∧ H a = some (.frz ob o) ∧ DicAt P w o a ks kv vs ∧ OwnL P w H ks kv (fun _ => False) ∧ OwnL P w H ds vs (fun b => S b ∧ b ≠ a)
def OwnL (P : Program) (w : World) [KFr w] (H : Hp) : List D → List V → AS → Prop
  | [], vs, _ => vs = []
  | d :: ds, vs, S => ∃ v vr S1 S2, vs = v :: vr ∧ Own P w H d v S1 ∧ OwnL P w H ds vr S2 ∧ (∀ b, S1 b → S b) ∧ (∀ b, S2 b → S b) ∧ ∀ b, S1 b → S2 b → False
end

mutual
/-- no boxes -/
def D.pure : D → Bool
  | .non | .bl _ | .int _ | .str _ => true
  | .tup ds => D.pures ds
  | .fro ds => D.pures ds
  | _ => false
def D.pures : List D → Bool
  | [] => true
  | d :: ds => d.pure && D.pures ds
end

mutual
def D.beq : D → D → Bool
  | .non, .non => true
  | .bl a, .bl b => decide (a = b)
  | .int a, .int b => decide (a = b)
  | .str a, .str b => decide (a = b)
  | .tup a, .tup b => D.beqs a b
  | .fro a, .fro b => D.beqs a b
  | .lst a, .lst b => D.beqs a b
  | .lck a, .lck b => D.beqs a b
  | .dic a b, .dic c d => D.beqs a c && D.beqs b d
  | .dlk a b, .dlk c d => D.beqs a c && D.beqs b d
  | _, _ => false
def D.beqs : List D → List D → Bool
  | [], [] => true
  | a :: as, b :: bs => D.beq a b && D.beqs as bs
  | _, _ => false
end
mutual
theorem D.beq_self : ∀ a : D, D.beq a a = true
  | .non => rfl
  | .bl a => by simp [D.beq]
  | .int a => by simp [D.beq]
  | .str a => by simp [D.beq]
  | .tup a => by rw [D.beq]; exact D.beqs_self a
  | .fro a => by rw [D.beq]; exact D.beqs_self a
  | .lst a => by rw [D.beq]; exact D.beqs_self a
  | .lck a => by rw [D.beq]; exact D.beqs_self a
  | .dic a b => by rw [D.beq, D.beqs_self a, D.beqs_self b]; rfl
  | .dlk a b => by rw [D.beq, D.beqs_self a, D.beqs_self b]; rfl
theorem D.beqs_self : ∀ a : List D, D.beqs a a = true
  | [] => rfl
  | a :: as => by rw [D.beqs, D.beq_self a, D.beqs_self as]; rfl
end
mutual
theorem D.eq_of_beq : ∀ a b : D, D.beq a b = true → a = b
  | .non, b, h => by cases b <;> first | rfl | cases h
  | .bl a, b, h => by cases b <;> first | (simp only [D.beq, decide_eq_true_eq] at h; rw [h]) | cases h
  | .int a, b, h => by cases b <;> first | (simp only [D.beq, decide_eq_true_eq] at h; rw [h]) | cases h
  | .str a, b, h => by cases b <;> first | (simp only [D.beq, decide_eq_true_eq] at h; rw [h]) | cases h
  | .tup a, b, h => by cases b <;> first | (rw [D.beq] at h; rw [D.eq_of_beqs a _ h]) | cases h
  | .fro a, b, h => by cases b <;> first | (rw [D.beq] at h; rw [D.eq_of_beqs a _ h]) | cases h
  | .lst a, b, h => by cases b <;> first | (rw [D.beq] at h; rw [D.eq_of_beqs a _ h]) | cases h
  | .lck a, b, h => by cases b <;> first | (rw [D.beq] at h; rw [D.eq_of_beqs a _ h]) | cases h
  | .dic a c, b, h => by cases b <;> first | (rw [D.beq, Bool.and_eq_true] at h; rw [D.eq_of_beqs a _ h.1, D.eq_of_beqs c _ h.2]) | cases h
  | .dlk a c, b, h => by cases b <;> first | (rw [D.beq, Bool.and_eq_true] at h; rw [D.eq_of_beqs a _ h.1, D.eq_of_beqs c _ h.2]) | cases h
theorem D.eq_of_beqs : ∀ a b : List D, D.beqs a b = true → a = b
  | [], b, h => by cases b <;> first | rfl | cases h
  | a :: as, [], h => by cases h
  | a :: as, b :: bs, h => by
    rw [D.beqs, Bool.and_eq_true] at h
    rw [D.eq_of_beq a b h.1, D.eq_of_beqs as bs h.2]
end
instance : DecidableEq D := fun a b => if h : D.beq a b = true then isTrue (D.eq_of_beq a b h) else isFalse fun e => h (by rw [e]; exact D.beq_self b)
mutual
theorem D.key_inj : ∀ {a b : D} {k : NestedKey}, a.key = some k → b.key = some k → a = b
  | .non, b, k, h1, h2 => by cases h1; cases b <;> simp [D.key] at h2 ⊢
  | .int a, b, k, h1, h2 => by cases h1; cases b <;> simp [D.key] at h2 ⊢; exact h2.symm
  | .str a, b, k, h1, h2 => by cases h1; cases b <;> simp [D.key] at h2 ⊢; exact h2.symm
  | .tup a, b, k, h1, h2 => by
    rw [D.key, Option.map_eq_some_iff] at h1
    obtain ⟨ks, e1, rfl⟩ := h1
    cases b <;> simp [D.key] at h2 ⊢
    exact D.keys_inj e1 h2
  | .bl _, _, _, h1, _ => by simp [D.key] at h1
  | .fro _, _, _, h1, _ => by simp [D.key] at h1
  | .lst _, _, _, h1, _ => by simp [D.key] at h1
  | .lck _, _, _, h1, _ => by simp [D.key] at h1
  | .dic _ _, _, _, h1, _ => by simp [D.key] at h1
  | .dlk _ _, _, _, h1, _ => by simp [D.key] at h1
theorem D.keys_inj : ∀ {a b : List D} {k : List NestedKey}, D.keys a = some k → D.keys b = some k → a = b
  | [], b, k, h1, h2 => by
    cases h1
    cases b with
    | nil => rfl
    | cons y ys =>
      rw [D.keys] at h2
      split at h2 <;> cases h2
  | x :: xs, b, k, h1, h2 => by
    rw [D.keys] at h1
    split at h1
    · rename_i k1 k2 e1 e2
      cases h1
      cases b with
      | nil => cases h2
      | cons y ys =>
        rw [D.keys] at h2
        split at h2
        · rename_i j1 j2 f1 f2
          cases h2
          rw [D.key_inj e1 f1, D.keys_inj e2 f2]
        · cases h2
    · cases h1
end
section
variable {P : Program} {w : World} [KFr w] {H H' : Hp}
mutual
theorem Own.mono : ∀ {d : D} {v : V} {S S' : AS}, Own P w H d v S → (∀ b, S b → S' b) → Own P w H d v S'
  | .non, _, _, _, h, _ => h
  | .bl _, _, _, _, h, _ => h
  | .int _, _, _, _, h, _ => h
  | .str _, _, _, _, h, _ => h
  | .tup ds, v, S, S', ⟨a, vs, e, t, o⟩, k => ⟨a, vs, e, t, OwnL.mono o k⟩
  | .fro ds, v, S, S', ⟨a, ob, vs, e, t, o⟩, k => ⟨a, ob, vs, e, t, OwnL.mono o k⟩
  | .lst ds, v, S, S', ⟨a, vs, e, sa, t, o⟩, k => ⟨a, vs, e, k _ sa, t, OwnL.mono o fun b hb => ⟨k _ hb.1, hb.2⟩⟩
  | .lck ds, v, S, S', ⟨a, vs, e, sa, t, o⟩, k => ⟨a, vs, e, k _ sa, t, OwnL.mono o fun b hb => ⟨k _ hb.1, hb.2⟩⟩
  | .dic ks ds, v, S, S', ⟨a, o, kv, vs, e, sa, t, q, ok, od⟩, k => ⟨a, o, kv, vs, e, k _ sa, t, q, ok, OwnL.mono od fun b hb => ⟨k _ hb.1, hb.2⟩⟩
  | .dlk ks ds, v, S, S', ⟨a, o, ob, kv, vs, e, t, q, ok, od⟩, k => ⟨a, o, ob, kv, vs, e, t, q, ok, OwnL.mono od fun b hb => ⟨k _ hb.1, hb.2⟩⟩
theorem OwnL.mono : ∀ {ds : List D} {vs : List V} {S S' : AS}, OwnL P w H ds vs S → (∀ b, S b → S' b) → OwnL P w H ds vs S'
  | [], _, _, _, h, _ => h
  | d :: ds, vs, S, S', ⟨v, vr, S1, S2, e, o1, o2, k1, k2, dj⟩, k => ⟨v, vr, S1, S2, e, o1, o2, fun b hb => k _ (k1 b hb), fun b hb => k _ (k2 b hb), dj⟩
end
mutual
/-- what is owned stays where its boxes and all that never changes stay -/
theorem Own.stay : ∀ {d : D} {v : V} {S : AS}, Own P w H d v S → (∀ a o, S a → H a = some o → H' a = some o) → (∀ a xs, H a = some (.tup xs) → H' a = some (.tup xs)) →
    (∀ a o u, H a = some (.frz o u) → H' a = some (.frz o u)) → Own P w H' d v S
  | .non, _, _, h, _, _, _ => h
  | .bl _, _, _, h, _, _, _ => h
  | .int _, _, _, h, _, _, _ => h
  | .str _, _, _, h, _, _, _ => h
  | .tup ds, v, S, ⟨a, vs, e, t, o⟩, k, kt, kf => ⟨a, vs, e, t.stay kt, OwnL.stay o k kt kf⟩
  | .fro ds, v, S, ⟨a, ob, vs, e, t, o⟩, k, kt, kf => ⟨a, ob, vs, e, kf _ _ _ t, OwnL.stay o k kt kf⟩
  | .lst ds, v, S, ⟨a, vs, e, sa, t, o⟩, k, kt, kf => ⟨a, vs, e, sa, k _ _ sa t, OwnL.stay o (fun b u hb => k b u hb.1) kt kf⟩
  | .lck ds, v, S, ⟨a, vs, e, sa, t, o⟩, k, kt, kf => ⟨a, vs, e, sa, k _ _ sa t, OwnL.stay o (fun b u hb => k b u hb.1) kt kf⟩
  | .dic ks ds, v, S, ⟨a, o, kv, vs, e, sa, t, q, ok, od⟩, k, kt, kf => ⟨a, o, kv, vs, e, sa, k _ _ sa t, q, OwnL.stay ok (fun b u hb => hb.elim) kt kf, OwnL.stay od (fun b u hb => k b u hb.1) kt kf⟩
  | .dlk ks ds, v, S, ⟨a, o, ob, kv, vs, e, t, q, ok, od⟩, k, kt, kf => ⟨a, o, ob, kv, vs, e, kf _ _ _ t, q, OwnL.stay ok (fun b u hb => hb.elim) kt kf, OwnL.stay od (fun b u hb => k b u hb.1) kt kf⟩
theorem OwnL.stay : ∀ {ds : List D} {vs : List V} {S : AS}, OwnL P w H ds vs S → (∀ a o, S a → H a = some o → H' a = some o) → (∀ a xs, H a = some (.tup xs) → H' a = some (.tup xs)) →
    (∀ a o u, H a = some (.frz o u) → H' a = some (.frz o u)) → OwnL P w H' ds vs S
  | [], _, _, h, _, _, _ => h
  | d :: ds, vs, S, ⟨v, vr, S1, S2, e, o1, o2, k1, k2, dj⟩, k, kt, kf => ⟨v, vr, S1, S2, e, Own.stay o1 (fun b u hb => k b u (k1 _ hb)) kt kf, OwnL.stay o2 (fun b u hb => k b u (k2 _ hb)) kt kf, k1, k2, dj⟩
end
mutual
theorem Own.ofPure : ∀ {d : D} {v : V} {S S' : AS}, Own P w H d v S → d.pure = true → Own P w H d v S'
  | .non, _, _, _, h, _ => h
  | .bl _, _, _, _, h, _ => h
  | .int _, _, _, _, h, _ => h
  | .str _, _, _, _, h, _ => h
  | .tup ds, v, S, S', ⟨a, vs, e, t, o⟩, p => ⟨a, vs, e, t, OwnL.ofPure o (by simpa [D.pure] using p)⟩
  | .fro ds, v, S, S', ⟨a, ob, vs, e, t, o⟩, p => ⟨a, ob, vs, e, t, OwnL.ofPure o (by simpa [D.pure] using p)⟩
  | .lst ds, v, S, S', h, p => by simp [D.pure] at p
  | .lck ds, v, S, S', h, p => by simp [D.pure] at p
  | .dic ks ds, v, S, S', h, p => by simp [D.pure] at p
  | .dlk ks ds, v, S, S', h, p => by simp [D.pure] at p
theorem OwnL.ofPure : ∀ {ds : List D} {vs : List V} {S S' : AS}, OwnL P w H ds vs S → D.pures ds = true → OwnL P w H ds vs S'
  | [], _, _, _, h, _ => h
  | d :: ds, vs, S, S', ⟨v, vr, S1, S2, e, o1, o2, k1, k2, dj⟩, p => by
    simp only [D.pures, Bool.and_eq_true] at p
    exact ⟨v, vr, fun _ => False, fun _ => False, e, Own.ofPure o1 p.1, OwnL.ofPure o2 p.2, fun _ z => z.elim, fun _ z => z.elim, fun _ z => z.elim⟩
end
theorem OwnL.length : ∀ {ds : List D} {vs : List V} {S : AS}, OwnL P w H ds vs S → vs.length = ds.length
  | [], _, _, h => by rw [show _ = [] from h]; rfl
  | d :: ds, vs, S, ⟨v, vr, S1, S2, e, o1, o2, _⟩ => by rw [e, List.length_cons, List.length_cons, OwnL.length o2]
end

/-! ### the slots -/
abbrev Rho := List (Option D)
def Rep (P : Program) (w : World) [KFr w] (H : Hp) : Rho → L2.St → AS → Prop
  | [], σ, _ => σ = []
  | none :: r, σ, S => ∃ x σ', σ = x :: σ' ∧ Rep P w H r σ' S
  | some d :: r, σ, S => ∃ v σ' S1 S2, σ = some v :: σ' ∧ Own P w H d v S1 ∧ Rep P w H r σ' S2 ∧ (∀ b, S1 b → S b) ∧ (∀ b, S2 b → S b) ∧ ∀ b, S1 b → S2 b → False

/-- from H to H': outside S nothing changes; what is owned behind is within S or new -/
structure Step (H H' : Hp) (S S' : AS) : Prop where
  fr : ∀ a o, H a = some o → ¬ S a → H' a = some o
  nw : ∀ a, S' a → S a ∨ H a = none
  dm : ∀ a, S' a → H' a ≠ none
  tp : ∀ a xs, H a = some (.tup xs) → H' a = some (.tup xs)
  fz : ∀ a o u, H a = some (.frz o u) → H' a = some (.frz o u)
theorem Step.refl {H : Hp} {S : AS} (h : ∀ a, S a → H a ≠ none) : Step H H S S := ⟨fun _ _ e _ => e, fun _ h => .inl h, h, fun _ _ e => e, fun _ _ _ e => e⟩
theorem Step.trans {H H1 H2 : Hp} {S S1 S2 : AS} (a : Step H H1 S S1) (b : Step H1 H2 S1 S2) : Step H H2 S S2 where
  fr := fun c o e n => b.fr c o (a.fr c o e n) fun z => (a.nw c z).elim n fun q => by rw [e] at q; cases q
  nw := fun c z => by
    rcases b.nw c z with q | q
    · exact a.nw c q
    · by_cases n : S c
      · exact .inl n
      · refine .inr ?_
        cases e : H c with
        | none => rfl
        | some o => rw [a.fr c o e n] at q; cases q
  dm := b.dm
  tp := fun c xs e => b.tp c xs (a.tp c xs e)
  fz := fun c o u e => b.fz c o u (a.fz c o u e)
theorem Step.sub {H H1 : Hp} {S S1 S2 : AS} (a : Step H H1 S S1) (k : ∀ b, S2 b → S1 b) : Step H H1 S S2 := ⟨a.fr, fun b hb => a.nw b (k b hb), fun b hb => a.dm b (k b hb), a.tp, a.fz⟩
theorem Step.sup {H H1 : Hp} {S S' S1 : AS} (a : Step H H1 S S1) (k : ∀ b, S b → S' b) : Step H H1 S' S1 := ⟨fun b o e n => a.fr b o e fun z => n (k b z), fun b hb => (a.nw b hb).imp (k b) id, a.dm, a.tp, a.fz⟩

section
variable {P : Program} {w : World} [KFr w] {H H' : Hp}
/-- what is owned beside S stays through a step over S -/
theorem Own.step {d : D} {v : V} {R S S' : AS} (o : Own P w H d v R) (st : Step H H' S S') (dj : ∀ b, R b → S b → False) : Own P w H' d v R :=
  o.stay (fun a u hr e => st.fr a u e (dj a hr)) st.tp st.fz
theorem OwnL.step {d : List D} {v : List V} {R S S' : AS} (o : OwnL P w H d v R) (st : Step H H' S S') (dj : ∀ b, R b → S b → False) : OwnL P w H' d v R :=
  o.stay (fun a u hr e => st.fr a u e (dj a hr)) st.tp st.fz
theorem Rep.mono : ∀ {ρ : Rho} {σ : L2.St} {S S' : AS}, Rep P w H ρ σ S → (∀ b, S b → S' b) → Rep P w H ρ σ S'
  | [], _, _, _, h, _ => h
  | none :: r, _, _, _, ⟨x, σ', e, q⟩, k => ⟨x, σ', e, q.mono k⟩
  | some d :: r, _, _, _, ⟨v, σ', S1, S2, e, o, q, k1, k2, dj⟩, k => ⟨v, σ', S1, S2, e, o, q, fun b hb => k b (k1 b hb), fun b hb => k b (k2 b hb), dj⟩
theorem Rep.stay : ∀ {ρ : Rho} {σ : L2.St} {S : AS}, Rep P w H ρ σ S → (∀ a o, S a → H a = some o → H' a = some o) → (∀ a xs, H a = some (.tup xs) → H' a = some (.tup xs)) →
    (∀ a o u, H a = some (.frz o u) → H' a = some (.frz o u)) → Rep P w H' ρ σ S
  | [], _, _, h, _, _, _ => h
  | none :: r, _, _, ⟨x, σ', e, q⟩, k, kt, kf => ⟨x, σ', e, q.stay k kt kf⟩
  | some d :: r, _, _, ⟨v, σ', S1, S2, e, o, q, k1, k2, dj⟩, k, kt, kf =>
    ⟨v, σ', S1, S2, e, o.stay (fun a u hs => k a u (k1 _ hs)) kt kf, q.stay (fun a u hs => k a u (k2 _ hs)) kt kf, k1, k2, dj⟩
theorem Rep.length : ∀ {ρ : Rho} {σ : L2.St} {S : AS}, Rep P w H ρ σ S → σ.length = ρ.length
  | [], _, _, h => by rw [show _ = [] from h]; rfl
  | none :: r, _, _, ⟨x, σ', e, q⟩ => by rw [e, List.length_cons, List.length_cons, q.length]
  | some d :: r, _, _, ⟨v, σ', S1, S2, e, o, q, _⟩ => by rw [e, List.length_cons, List.length_cons, q.length]
/-- taking slot i out -/
theorem Rep.take : ∀ {ρ : Rho} {σ : L2.St} {S : AS} {i : Nat} {d : D}, Rep P w H ρ σ S → ρ[i]? = some (some d) →
    ∃ v S1 S2, σ[i]? = some (some v) ∧ Own P w H d v S1 ∧ Rep P w H (ρ.set i none) σ S2 ∧ (∀ b, S1 b → S b) ∧ (∀ b, S2 b → S b) ∧ ∀ b, S1 b → S2 b → False
  | some d :: r, _, _, 0, _, ⟨v, σ', S1, S2, e, o, q, k1, k2, dj⟩, h => by
    simp only [List.getElem?_cons_zero, Option.some.injEq] at h
    subst h
    exact ⟨v, S1, S2, by rw [e]; rfl, o, ⟨_, σ', e, q⟩, k1, k2, dj⟩
  | none :: r, _, _, 0, _, _, h => by simp at h
  | none :: r, _, S, i + 1, d, ⟨x, σ', e, q⟩, h => by
    obtain ⟨v, S1, S2, e1, o, q', k1, k2, dj⟩ := q.take (i := i) (d := d) (by simpa using h)
    exact ⟨v, S1, S2, by rw [e]; simpa using e1, o, ⟨x, σ', e, q'⟩, k1, k2, dj⟩
  | some d0 :: r, _, S, i + 1, d, ⟨v0, σ', S1, S2, e, o, q, k1, k2, dj⟩, h => by
    obtain ⟨v, T1, T2, e1, o', q', j1, j2, dj'⟩ := q.take (i := i) (d := d) (by simpa using h)
    refine ⟨v, T1, fun b => S1 b ∨ T2 b, by rw [e]; simpa using e1, o', ⟨v0, σ', S1, T2, e, o, q', fun b hb => .inl hb, fun b hb => .inr hb, fun b h1 h2 => dj b h1 (j2 b h2)⟩, fun b hb => k2 b (j1 b hb), ?_, ?_⟩
    · rintro b (hb | hb)
      · exact k1 b hb
      · exact k2 b (j2 b hb)
    · rintro b h1 (h2 | h2)
      · exact dj b h2 (j1 b h1)
      · exact dj' b h1 h2
/-- putting data into slot i -/
theorem Rep.put : ∀ {ρ : Rho} {σ : L2.St} {S S1 : AS} {i : Nat} {d : D} {v : V}, Rep P w H (ρ.set i none) σ S → Own P w H d v S1 → (∀ b, S1 b → S b → False) → i < ρ.length →
    Rep P w H (ρ.set i (some d)) (σ.set i (some v)) (fun b => S1 b ∨ S b)
  | _ :: r, _, S, S1, 0, d, v, ⟨x, σ', e, q⟩, o, dj, _ => ⟨v, σ', S1, S, by rw [e]; rfl, o, q, fun b hb => .inl hb, fun b hb => .inr hb, dj⟩
  | none :: r, _, S, S1, i + 1, d, v, ⟨x, σ', e, q⟩, o, dj, hi => ⟨x, σ'.set i (some v), by rw [e]; rfl, Rep.put q o dj (by simpa using hi)⟩
  | some d0 :: r, _, S, S1, i + 1, d, v, ⟨v0, σ', T1, T2, e, o0, q, k1, k2, dj0⟩, o, dj, hi =>
    ⟨v0, σ'.set i (some v), T1, fun b => S1 b ∨ T2 b, by rw [e]; rfl, o0, Rep.put q o (fun b h1 h2 => dj b h1 (k2 b h2)) (by simpa using hi), fun b hb => .inr (k1 b hb), fun b hb => hb.imp id (k2 b), fun b h1 h2 => h2.elim (fun z => dj b z (k1 b h1)) fun z => dj0 b h1 z⟩
/-- .. where the slot holds that very value already -/
theorem Rep.back : ∀ {ρ : Rho} {σ : L2.St} {S S1 : AS} {i : Nat} {d : D} {v : V}, Rep P w H (ρ.set i none) σ S → Own P w H d v S1 → (∀ b, S1 b → S b → False) → σ[i]? = some (some v) →
    Rep P w H (ρ.set i (some d)) σ (fun b => S1 b ∨ S b) := fun {ρ σ S S1 i d v} q o dj hv => by
  have hl := q.length
  rw [List.length_set] at hl
  have hi : i < ρ.length := by rw [← hl]; exact (List.getElem?_eq_some_iff.mp hv).1
  have h := Rep.put q o dj hi
  have e : σ.set i (some v) = σ := by
    obtain ⟨h1, h2⟩ := List.getElem?_eq_some_iff.mp hv
    rw [← h2]; exact List.set_getElem_self h1
  rwa [e] at h
/-- forgetting slot i, whatever stands there -/
theorem Rep.drop : ∀ {ρ : Rho} {σ : L2.St} {S : AS} {i : Nat}, Rep P w H ρ σ S → Rep P w H (ρ.set i none) σ S
  | [], _, _, _, h => h
  | none :: r, _, _, 0, ⟨x, σ', e, q⟩ => ⟨x, σ', e, q⟩
  | some d :: r, _, _, 0, ⟨v, σ', S1, S2, e, o, q, k1, k2, dj⟩ => ⟨some v, σ', e, q.mono k2⟩
  | none :: r, _, _, i + 1, ⟨x, σ', e, q⟩ => ⟨x, σ', e, q.drop⟩
  | some d :: r, _, _, i + 1, ⟨v, σ', S1, S2, e, o, q, k1, k2, dj⟩ => ⟨v, σ', S1, S2, e, o, q.drop, k1, k2, dj⟩
/-- the value of a forgotten slot does not matter -/
theorem Rep.any : ∀ {ρ : Rho} {σ : L2.St} {S : AS} {i : Nat} {x : Option V}, Rep P w H (ρ.set i none) σ S → Rep P w H (ρ.set i none) (σ.set i x) S
  | [], _, _, _, _, h => by rw [show _ = [] from h]; exact rfl
  | _ :: r, _, _, 0, x, ⟨y, σ', e, q⟩ => ⟨x, σ', by rw [e]; rfl, q⟩
  | none :: r, _, _, i + 1, x, ⟨y, σ', e, q⟩ => ⟨y, σ'.set i x, by rw [e]; rfl, q.any⟩
  | some d :: r, _, _, i + 1, x, ⟨v, σ', S1, S2, e, o, q, k1, k2, dj⟩ => ⟨v, σ'.set i x, S1, S2, by rw [e]; rfl, o, q.any, k1, k2, dj⟩
end
end DV
set_option Elab.async false
set_option linter.all false
set_option maxRecDepth 100000
set_option maxHeartbeats 1000000
namespace DV
open PySem L2

/-- an exception: its class's name, its fields -/
structure Exc where
  cls : Str
  fs : List (Str × D)
inductive Res (α : Type) where
  | ok (a : α)
  | raise (x : Exc) (ρ : Rho)
  | stuck
def Res.bind {α β : Type} : Res α → (α → Res β) → Res β
  | .ok a, f => f a
  | .raise x ρ, _ => .raise x ρ
  | .stuck, _ => .stuck

abbrev Ext (H H' : Hp) : Prop := ∀ a o, H a = some o → H' a = some o
abbrev Dom (S : AS) (H : Hp) : Prop := ∀ a, S a → H a ≠ none

/-- an exception as it lies -/
def ExR (P : Program) (w : World) [KFr w] (mg : Str → Option Value) (H : Hp) (x : Exc) (C : Value) (dx : Option Addr) : Prop :=
  mg x.cls = some C ∧ ∃ d vs, dx = some d ∧ H d = some (.xd ((x.fs.map (·.1)).zip vs)) ∧ OwnL P w H (x.fs.map (·.2)) vs (fun _ => False)

structure Out (P : Program) (w : World) [KFr w] (ro own : Bool) (H : Hp) (S : AS) (σ : L2.St) (ρ : Rho) (d : D) (ρ' : Rho) (v : V) (H' : Hp) (S1 S2 : AS) : Prop where
  st : Step H H' S (fun b => S1 b ∨ S2 b)
  ow : Own P w H' d v S1
  rep : Rep P w H' ρ' σ S2
  dj : own = true → ∀ b, S1 b → S2 b → False
  ext : ro = true → Ext H H' ∧ ρ' = ρ

structure OutX (P : Program) (w : World) [KFr w] (mg : Str → Option Value) (H : Hp) (S : AS) (σ : L2.St) (x : Exc) (ρ' : Rho) (C : Value) (dx : Option Addr) (H' : Hp) (S2 : AS) : Prop where
  st : Step H H' S S2
  rep : Rep P w H' ρ' σ S2
  ex : ExR P w mg H' x C dx
theorem OutX.trans {P : Program} {w : World} [KFr w] {mg : Str → Option Value} {H H1 H' : Hp} {S S1 S2 : AS} {σ : L2.St} {x : Exc} {ρ' : Rho} {C : Value} {dx : Option Addr} (st : Step H H1 S S1) (o : OutX P w mg H1 S1 σ x ρ' C dx H' S2) : OutX P w mg H S σ x ρ' C dx H' S2 :=
  ⟨st.trans o.st, o.rep, o.ex⟩

/-- r's answer a does K a; what it raises is as W wants it -/
def Ans {α : Type} (X : Cx) [KFr X.w] (W : WX) (σ : L2.St) (H : Hp) (S : AS) : Res α → (α → Prop) → Prop
  | .ok a, K => K a
  | .raise x ρ', _ => ∀ C dx H' S2, OutX X.prog X.w X.mg H S σ x ρ' C dx H' S2 → W C dx σ H'
  | .stuck, _ => False
section
variable {X : Cx} [KFr X.w] [XKf X] {W : WX} {α β : Type} {σ : L2.St} {H H1 : Hp} {S S1 : AS}
theorem Ans.mono {r : Res α} {K K' : α → Prop} (h : Ans X W σ H S r K) (k : ∀ a, r = .ok a → K a → K' a) : Ans X W σ H S r K' := by
  cases r with
  | ok a => exact k a rfl h
  | raise x ρ' => exact h
  | stuck => exact h
theorem Ans.bind {r : Res α} {f : α → Res β} {K : β → Prop} (h : Ans X W σ H S (r.bind f) K) : Ans X W σ H S r fun a => Ans X W σ H S (f a) K := by
  cases r with
  | ok a => exact h
  | raise x ρ' => exact h
  | stuck => exact h
theorem Ans.step {r : Res α} {K : α → Prop} (st : Step H H1 S S1) (h : Ans X W σ H S r K) : Ans X W σ H1 S1 r K := by
  cases r with
  | ok a => exact h
  | raise x ρ' => exact fun C dx H' S2 o => h C dx H' S2 (o.trans st)
  | stuck => exact h
theorem Ans.ite {c : Prop} [Decidable c] {r : Res α} {K : α → Prop} (h : Ans X W σ H S (if c then r else .stuck) K) : c ∧ Ans X W σ H S r K := by
  by_cases hc : c
  · rw [if_pos hc] at h; exact ⟨hc, h⟩
  · rw [if_neg hc] at h; exact h.elim
end

/-- the reading of an expression that computes g. ro: it changes nothing that stood; own: its value is nobody else's -/
def tJ (X : Cx) [KFr X.w] (W : WX) (ro own : Bool) (g : Rho → Res (D × Rho)) : TE := fun σ H Q => ∃ ρ S, Rep X.prog X.w H ρ σ S ∧ Dom S H ∧
  Ans X W σ H S (g ρ) fun p => ∀ v H' S1 S2, Out X.prog X.w ro own H S σ ρ p.1 p.2 v H' S1 S2 → Q v H'
def tJT (X : Cx) [KFr X.w] (W : WX) (g : Rho → Res (Bool × Rho)) : TT := fun σ H Q => ∃ ρ S, Rep X.prog X.w H ρ σ S ∧ Dom S H ∧
  Ans X W σ H S (g ρ) fun p => ∀ H' S2, Step H H' S S2 → Rep X.prog X.w H' p.2 σ S2 → Q p.1 H'
/-- expression e computes g -/
def J (X : Cx) [KFr X.w] (W : WX) (ro own : Bool) (e : Expr) (g : Rho → Res (D × Rho)) : Prop := PE X e (tJ X W ro own g)
def JT (X : Cx) [KFr X.w] (W : WX) (e : Expr) (g : Rho → Res (Bool × Rho)) : Prop := PT X e (tJT X W g)

section
variable {X : Cx} [KFr X.w] [XKf X] {W : WX} {ro own own' : Bool} {e a b : Expr} {es : List Expr} {pos : Pos} {g h : Rho → Res (D × Rho)}
theorem PE.weak {t t' : TE} (h : PE X e t) (k : ∀ σ H Q, t' σ H Q → t σ H Q) : PE X e t' := ⟨fun pins s σ H Q I hq => h.run pins s σ H Q I (k σ H Q hq)⟩
theorem PT.weak {t t' : TT} (h : PT X e t) (k : ∀ σ H Q, t' σ H Q → t σ H Q) : PT X e t' := ⟨fun pins s σ H Q I hq => h.run pins s σ H Q I (k σ H Q hq)⟩
theorem PW.weak {t t' : TT} (h : PW X e t) (k : ∀ σ H Q, t' σ H Q → t σ H Q) : PW X e t' := ⟨fun wh pins s σ H Q I hq => h.run wh pins s σ H Q I (k σ H Q hq)⟩
theorem PA.weak {t t' : TA} (h : PA X es t) (k : ∀ σ H Q, t' σ H Q → t σ H Q) : PA X es t' := ⟨fun pos pins s σ H Q I hq => h.run pos pins s σ H Q I (k σ H Q hq)⟩
theorem PS.weak {st : Stmt} {t t' : TS} (h : PS X st t) (k : ∀ D σ H, t' D σ H → t D σ H) : PS X st t' := ⟨fun pins s σ H D I hq => h.run pins s σ H D I (k D σ H hq)⟩
theorem PSs.weak {st : List Stmt} {t t' : TS} (h : PSs X st t) (k : ∀ D σ H, t' D σ H → t D σ H) : PSs X st t' := ⟨fun pins s σ H D I hq => h.run pins s σ H D I (k D σ H hq)⟩
theorem PI.weak {tg : Expr} {t t' : TI} (h : PI X tg e t) (k : ∀ σ H Q, t' σ H Q → t σ H Q) : PI X tg e t' := ⟨fun pins s σ H Q I hq => h.run pins s σ H Q I (k σ H Q hq)⟩

theorem Ext.dom {H H' : Hp} {S : AS} (x : Ext H H') (d : Dom S H) : Dom S H' := fun a h => by
  cases e : H a with
  | none => exact absurd e (d a h)
  | some o => rw [x a o e]; exact fun z => nomatch z
/-- nothing that stood has changed; what is new is at S1 -/
theorem Step.ext {H H' : Hp} {S S1 : AS} (x : Ext H H') (d : Dom S H) (n : ∀ b, S1 b → H b = none) (m : Dom S1 H') : Step H H' S (fun b => S1 b ∨ S b) :=
  ⟨fun a o e _ => x a o e, fun a h => h.elim (fun z => .inr (n a z)) .inl, fun a h => h.elim (m a) (x.dom d a), fun a xs e => x a _ e, fun a o u e => x a _ e⟩
theorem Step.same {H H' : Hp} {S : AS} (x : Ext H H') (d : Dom S H) : Step H H' S S := ⟨fun a o e _ => x a o e, fun a h => .inl h, x.dom d, fun a xs e => x a _ e, fun a o u e => x a _ e⟩
section
variable {P : Program} {w : World} [KFr w] {H H' : Hp}
theorem OwnL.ext {ds : List D} {vs : List V} {S : AS} (o : OwnL P w H ds vs S) (x : Ext H H') : OwnL P w H' ds vs S := o.stay (fun a u _ e => x a u e) (fun a xs e => x a _ e) fun a u _ e => x a _ e
theorem Own.ext {d : D} {v : V} {S : AS} (o : Own P w H d v S) (x : Ext H H') : Own P w H' d v S := o.stay (fun a u _ e => x a u e) (fun a xs e => x a _ e) fun a u _ e => x a _ e
theorem Rep.ext {ρ : Rho} {σ : L2.St} {S : AS} (o : Rep P w H ρ σ S) (x : Ext H H') : Rep P w H' ρ σ S := o.stay (fun a u _ e => x a u e) (fun a xs e => x a _ e) fun a u _ e => x a _ e
end
/-- an outcome that changes nothing that stood -/
theorem Out.extd {P : Program} {w : World} [KFr w] {ro own : Bool} {H H' : Hp} {S S1 : AS} {σ : L2.St} {ρ : Rho} {d : D} {v : V} (r : Rep P w H ρ σ S) (x : Ext H H') (dm : Dom S H) (o : Own P w H' d v S1) (n : ∀ b, S1 b → H b = none) (m : Dom S1 H') : Out P w ro own H S σ ρ d ρ v H' S1 S :=
  ⟨Step.ext x dm n m, o, r.ext x, fun _ b h1 h2 => dm b h2 (n b h1), fun _ => ⟨x, rfl⟩⟩
theorem Out.pure {P : Program} {w : World} [KFr w] {ro own : Bool} {H : Hp} {S S1 : AS} {σ : L2.St} {ρ : Rho} {d : D} {v : V} (r : Rep P w H ρ σ S) (dm : Dom S H) (o : Own P w H d v S1) (p : d.pure = true) : Out P w ro own H S σ ρ d ρ v H (fun _ => False) S :=
  Out.extd r (fun _ _ e => e) dm (o.ofPure p) (fun _ z => z.elim) fun _ z => z.elim
theorem Out.st2 {P : Program} {w : World} [KFr w] {ro own : Bool} {H H' : Hp} {S S1 S2 : AS} {σ : L2.St} {ρ ρ' : Rho} {d : D} {v : V} (o : Out P w ro own H S σ ρ d ρ' v H' S1 S2) : Step H H' S S2 := o.st.sub fun b hb => Or.inr hb
theorem Out.dm2 {P : Program} {w : World} [KFr w] {ro own : Bool} {H H' : Hp} {S S1 S2 : AS} {σ : L2.St} {ρ ρ' : Rho} {d : D} {v : V} (o : Out P w ro own H S σ ρ d ρ' v H' S1 S2) : Dom S2 H' := fun b hb => o.st.dm b (.inr hb)

/-! ### coercions -/
theorem tJ.imp {ro' : Bool} {g' : Rho → Res (D × Rho)} {σ : L2.St} {H : Hp} {Q : VK} (h : tJ X W ro' own' g' σ H Q) (k : ∀ ρ S, Rep X.prog X.w H ρ σ S → Dom S H → (Ans X W σ H S (g' ρ) fun p => ∀ v H' S1 S2, Out X.prog X.w ro' own' H S σ ρ p.1 p.2 v H' S1 S2 → Q v H') →
    Ans X W σ H S (g ρ) fun p => ∀ v H' S1 S2, Out X.prog X.w ro own H S σ ρ p.1 p.2 v H' S1 S2 → Q v H') : tJ X W ro own g σ H Q :=
  let ⟨ρ, S, r, dm, q⟩ := h
  ⟨ρ, S, r, dm, k ρ S r dm q⟩
theorem J.weak (h : J X W ro own e g) : J X W false own e g := PE.weak h fun σ H Q q => q.imp fun ρ S r dm q => q.mono fun p _ q v H' S1 S2 o => q v H' S1 S2 ⟨o.st, o.ow, o.rep, o.dj, fun z => (nomatch z)⟩
theorem J.lend (h : J X W ro own e g) : J X W ro false e g := PE.weak h fun σ H Q q => q.imp fun ρ S r dm q => q.mono fun p _ q v H' S1 S2 o => q v H' S1 S2 ⟨o.st, o.ow, o.rep, fun z => (nomatch z), o.ext⟩
def onlyPure (p : D × Rho) : Res (D × Rho) := if p.1.pure = true then .ok p else .stuck
/-- a value without boxes belongs to everybody -/
theorem J.copy (h : J X W ro own e g) : J X W ro true e (fun ρ => (g ρ).bind onlyPure) := PE.weak h fun σ H Q q => q.imp fun ρ S r dm q => q.bind.mono fun p _ q v H' S1 S2 o => by
  obtain ⟨hp, q⟩ := Ans.ite q
  exact q v H' (fun _ => False) S2 ⟨o.st.sub fun b hb => hb.elim (fun z => z.elim) .inr, o.ow.ofPure hp, o.rep, fun _ b z => z.elim, o.ext⟩

/-! ### names, constants -/
def gVar (i : Nat) : Rho → Res (D × Rho) := fun ρ => match ρ[i]? with
  | some (some d) => .ok (d, ρ)
  | _ => .stuck
theorem gVar_ok {i : Nat} {ρ : Rho} {α : Type} {f : D → Res α} {σ : L2.St} {H : Hp} {S : AS} {K : α → Prop} (q : Ans X W σ H S (match ρ[i]? with
    | some (some d) => f d
    | _ => .stuck) K) : ∃ d, ρ[i]? = some (some d) ∧ Ans X W σ H S (f d) K := by
  cases hρ : ρ[i]? with
  | none => rw [hρ] at q; exact q.elim
  | some o =>
    cases o with
    | none => rw [hρ] at q; exact q.elim
    | some d => rw [hρ] at q; exact ⟨d, rfl, q⟩
theorem j_var {i : Nat} {x : Str} {pos : Pos} (hN : X.N[i]? = some x) (hv : Vis X.env.scope x) (hd : (x == ("__debug__" : Str)) = false := by decide) (hcd : (x == ("__classdict__" : Str)) = false := by decide) : J X W true false (.Name x pos) (gVar i) :=
  PE.weak (pe_var hN hv hd hcd) fun σ H Q ⟨ρ, S, r, dm, q⟩ => by
    obtain ⟨d, hρ, q⟩ := gVar_ok (f := fun d => .ok (d, ρ)) q
    obtain ⟨v, S1, S2, hs, o, r2, k1, k2, dj⟩ := r.take hρ
    exact ⟨v, hs, q v H S1 S ⟨(Step.refl dm).sub fun b hb => hb.elim (k1 b) id, o, r, fun z => (nomatch z), fun _ => ⟨fun _ _ e => e, rfl⟩⟩⟩
def gC (d : D) : Rho → Res (D × Rho) := fun ρ => .ok (d, ρ)
theorem j_const {d : D} {v : V} (hp : PE X e (tC v)) (h : ∀ H, Own X.prog X.w H d v (fun _ => False)) (p : d.pure = true) : J X W true true e (gC d) :=
  PE.weak hp fun σ H Q ⟨ρ, S, r, dm, q⟩ => q v H _ S (Out.pure r dm (h H) p)
theorem j_int {i : Int} {k pos} : J X W true true (.Constant (.int i) k pos) (gC (.int i)) := j_const pe_int (fun _ => rfl) rfl
theorem j_bl {b k pos} : J X W true true (.Constant (.bool b) k pos) (gC (.bl b)) := j_const pe_bl (fun _ => rfl) rfl
theorem j_non {k pos} : J X W true true (.Constant .none k pos) (gC .non) := j_const pe_non (fun _ => rfl) rfl
theorem j_str {x k pos} : J X W true true (.Constant (.str x) k pos) (gC (.str x)) := j_const pe_str (fun _ => rfl) rfl

/-- a name whose box is handed on: it is not the name's any more -/
def gMove (i : Nat) : Rho → Res (D × Rho) := fun ρ => match ρ[i]? with
  | some (some d) => if d.pure = true then .ok (d, ρ) else .ok (d, ρ.set i none)
  | _ => .stuck
theorem j_move {i : Nat} {x : Str} {pos : Pos} (hN : X.N[i]? = some x) (hv : Vis X.env.scope x) (hd : (x == ("__debug__" : Str)) = false := by decide) (hcd : (x == ("__classdict__" : Str)) = false := by decide) : J X W false true (.Name x pos) (gMove i) :=
  PE.weak (pe_var hN hv hd hcd) fun σ H Q ⟨ρ, S, r, dm, q⟩ => by
    obtain ⟨d, hρ, q⟩ := gVar_ok (f := fun d => if d.pure = true then .ok (d, ρ) else .ok (d, ρ.set i none)) q
    obtain ⟨v, S1, S2, hs, o, r2, k1, k2, dj⟩ := r.take hρ
    refine ⟨v, hs, ?_⟩
    by_cases hp : d.pure = true
    · rw [if_pos hp] at q
      exact q v H _ S (Out.pure r dm o hp)
    · rw [if_neg hp] at q
      exact q v H S1 S2 ⟨(Step.refl dm).sub fun b hb => hb.elim (k1 b) (k2 b), o, r2, fun _ => dj, fun z => (nomatch z)⟩

/-! ### from a value to a value -/
/-- what r asks of v and the heap is there where op takes d; the answer is new or has no boxes -/
def Con1 (X : Cx) [KFr X.w] (op : D → Option D) (r : V → Hp → VK → Prop) : Prop := ∀ (H : Hp) (d : D) (v : V) (S : AS) (d' : D), Own X.prog X.w H d v S → op d = some d' → ∀ Q : VK,
  (∀ v' H' S', Ext H H' → Own X.prog X.w H' d' v' S' → (∀ b, S' b → H b = none) → Dom S' H' → Q v' H') → r v H Q
/-- nothing where nothing is known -/
def Res.of {α : Type} : Option α → Res α
  | some a => .ok a
  | none => .stuck
theorem Ans.of {α : Type} {o : Option α} {σ : L2.St} {H : Hp} {S : AS} {K : α → Prop} (q : Ans X W σ H S (Res.of o) K) : ∃ a, o = some a ∧ K a := by
  cases o with
  | none => exact q.elim
  | some a => exact ⟨a, rfl, q⟩
theorem Ans.of_bind {α β : Type} {o : Option α} {f : α → Res β} {σ : L2.St} {H : Hp} {S : AS} {K : β → Prop} (q : Ans X W σ H S ((Res.of o).bind f) K) : ∃ a, o = some a ∧ Ans X W σ H S (f a) K := by
  cases o with
  | none => exact q.elim
  | some a => exact ⟨a, rfl, q⟩
def gOp1 (op : D → Option D) (g : Rho → Res (D × Rho)) : Rho → Res (D × Rho) := fun ρ => (g ρ).bind fun p => (Res.of (op p.1)).bind fun d => .ok (d, p.2)
theorem t_op1 {op : D → Option D} {r : V → Hp → VK → Prop} (hc : Con1 X op r) : ∀ σ H Q, tJ X W ro true (gOp1 op g) σ H Q → tJ X W ro own' g σ H fun x H1 => r x H1 Q :=
  fun σ H Q ⟨ρ, S, r0, dm, q⟩ => ⟨ρ, S, r0, dm, q.bind.mono fun p _ q v H1 S1 S2 o => by
    obtain ⟨d', ho, q⟩ := Ans.of_bind q
    exact hc H1 p.1 v S1 d' o.ow ho Q fun v' H' S' x ow nw dm' => q v' H' S' S2 ⟨o.st2.trans (Step.ext x o.dm2 nw dm'), ow, o.rep.ext x, fun _ b h1 h2 => o.st.dm b (.inr h2) (nw b h1), fun z => ⟨fun a u e => x a u ((o.ext z).1 a u e), (o.ext z).2⟩⟩⟩
/-- two values, the first one owned while the second comes -/
def Con2 (X : Cx) [KFr X.w] (op : D → D → Option D) (r : V → V → Hp → VK → Prop) : Prop := ∀ (H : Hp) (d e : D) (v u : V) (S T : AS) (d' : D), Own X.prog X.w H d v S → Own X.prog X.w H e u T → op d e = some d' → ∀ Q : VK,
  (∀ v' H' S', Ext H H' → Own X.prog X.w H' d' v' S' → (∀ b, S' b → H b = none) → Dom S' H' → Q v' H') → r v u H Q
def gOp2 (op : D → D → Option D) (g h : Rho → Res (D × Rho)) : Rho → Res (D × Rho) := fun ρ => (g ρ).bind fun p => (h p.2).bind fun q => (Res.of (op p.1 q.1)).bind fun d => .ok (d, q.2)
theorem t_op2 {op : D → D → Option D} {r : V → V → Hp → VK → Prop} (hc : Con2 X op r) : ∀ σ H Q, tJ X W ro true (gOp2 op g h) σ H Q → tOp r (tJ X W ro true g) (tJ X W ro own' h) σ H Q :=
  fun σ H Q ⟨ρ, S, r0, dm, q⟩ => ⟨ρ, S, r0, dm, q.bind.mono fun p _ q v H1 S1 S2 o => ⟨p.2, S2, o.rep, o.dm2, (q.bind.step o.st2).mono fun p2 _ q u H2 T1 T2 o2 => by
    obtain ⟨d', ho, q⟩ := Ans.of_bind q
    exact hc H2 p.1 p2.1 v u S1 T1 d' (o.ow.step o2.st (o.dj rfl)) o2.ow ho Q fun v' H' S' x ow nw dm' => q v' H' S' T2 ⟨(o.st2.trans o2.st2).trans (Step.ext x o2.dm2 nw dm'), ow, o2.rep.ext x, fun _ b h1 h2 => o2.st.dm b (.inr h2) (nw b h1),
      fun z => ⟨fun a u e => x a u ((o2.ext z).1 a u ((o.ext z).1 a u e)), (o2.ext z).2.trans (o.ext z).2⟩⟩⟩⟩
/-- a place and an index that only reads; the answer may be a part of the place -/
def Con2B (X : Cx) [KFr X.w] (op : D → D → Option D) (r : V → V → Hp → VK → Prop) : Prop := ∀ (H : Hp) (d e : D) (v u : V) (S T : AS) (d' : D), Own X.prog X.w H d v S → Own X.prog X.w H e u T → op d e = some d' → ∀ Q : VK,
  (∀ v' S', Own X.prog X.w H d' v' S' → (∀ b, S' b → S b) → Q v' H) → r v u H Q
theorem t_op2B {op : D → D → Option D} {r : V → V → Hp → VK → Prop} (hc : Con2B X op r) : ∀ σ H Q, tJ X W ro own (gOp2 op g h) σ H Q → tOp r (tJ X W ro own g) (tJ X W true true h) σ H Q :=
  fun σ H Q ⟨ρ, S, r0, dm, q⟩ => ⟨ρ, S, r0, dm, q.bind.mono fun p _ q v H1 S1 S2 o => ⟨p.2, S2, o.rep, o.dm2, (q.bind.step o.st2).mono fun p2 _ q u H2 T1 T2 o2 => by
    obtain ⟨d', ho, q⟩ := Ans.of_bind q
    obtain ⟨x2, e2⟩ := o2.ext rfl
    refine hc H2 p.1 p2.1 v u S1 T1 d' (o.ow.ext x2) o2.ow ho Q fun v' S' ow sb => q v' H2 S' S2 ⟨?_, ow, by rw [e2]; exact o.rep.ext x2, fun z b h1 h2 => o.dj z b (sb b h1) h2, fun z => ⟨fun a u e => x2 a u ((o.ext z).1 a u e), e2.trans (o.ext z).2⟩⟩
    exact (o.st.trans (Step.same x2 o.st.dm)).sub fun b hb => hb.imp (sb b) id⟩⟩
/-- a name, read behind an index that may change it -/
def gOpV (op : D → D → Option D) (i : Nat) (h : Rho → Res (D × Rho)) : Rho → Res (D × Rho) := fun ρ => match ρ[i]? with
  | some (some _) => (h ρ).bind fun q => match q.2[i]? with
    | some (some d) => (Res.of (op d q.1)).bind fun d' => .ok (d', q.2)
    | _ => .stuck
  | _ => .stuck
theorem j_opV {i : Nat} {x : Str} {pos : Pos} {op : D → D → Option D} {r : V → V → Hp → VK → Prop} (hN : X.N[i]? = some x) (hv : Vis X.env.scope x)
    (hp : ∀ ta tb, PE X (.Name x pos) ta → PE X b tb → PE X e (tOp r ta tb)) (hc : Con2B X op r)
    (hb : J X W ro true b h) (hd : (x == ("__debug__" : Str)) = false := by decide) (hcd : (x == ("__classdict__" : Str)) = false := by decide) : J X W ro false e (gOpV op i h) :=
  PE.weak (hp _ _ (pe_var hN hv hd hcd) hb) fun σ H Q ⟨ρ, S, r0, dm, q⟩ => by
    obtain ⟨d0, hρ, q⟩ := gVar_ok (f := fun _ => (h ρ).bind fun q => match q.2[i]? with
      | some (some d) => (Res.of (op d q.1)).bind fun d' => .ok (d', q.2)
      | _ => .stuck) q
    obtain ⟨v, _, _, hs, _⟩ := r0.take hρ
    refine ⟨v, hs, ρ, S, r0, dm, q.bind.mono fun p2 _ q u H2 T1 T2 o2 => ?_⟩
    obtain ⟨d, hρ2, q⟩ := gVar_ok (f := fun d => (Res.of (op d p2.1)).bind fun d' => .ok (d', p2.2)) q
    obtain ⟨v2, U1, U2, hs2, ow2, _, k1, _, _⟩ := o2.rep.take hρ2
    have ev : v2 = v := by rw [hs] at hs2; exact (Option.some.inj (Option.some.inj hs2)).symm
    subst ev
    obtain ⟨d', ho, q⟩ := Ans.of_bind q
    exact hc H2 d p2.1 v2 u U1 T1 d' ow2 o2.ow ho Q fun v' S' ow sb => q v' H2 S' T2 ⟨o2.st.sub fun b hb => .inr (hb.elim (fun z => k1 b (sb b z)) id), ow, o2.rep, fun z => (nomatch z), o2.ext⟩
theorem j_op1 {op : D → Option D} {r : V → Hp → VK → Prop} (hp : ∀ ta, PE X a ta → PE X e (fun σ H Q => ta σ H fun x H1 => r x H1 Q)) (hc : Con1 X op r) (h : J X W ro own' a g) : J X W ro true e (gOp1 op g) := PE.weak (hp _ h) (t_op1 hc)
theorem j_op2 {op : D → D → Option D} {r : V → V → Hp → VK → Prop} (hp : ∀ ta tb, PE X a ta → PE X b tb → PE X e (tOp r ta tb)) (hc : Con2 X op r)
    (ha : J X W ro true a g) (hb : J X W ro own' b h) : J X W ro true e (gOp2 op g h) := PE.weak (hp _ _ ha hb) (t_op2 hc)
theorem j_op2B {op : D → D → Option D} {r : V → V → Hp → VK → Prop} (hp : ∀ ta tb, PE X a ta → PE X b tb → PE X e (tOp r ta tb)) (hc : Con2B X op r)
    (ha : J X W ro own a g) (hb : J X W true true b h) : J X W ro own e (gOp2 op g h) := PE.weak (hp _ _ ha hb) (t_op2B hc)

/-! ### tests -/
def D.bool : D → Option Bool
  | .bl b => some b
  | _ => none
def gTest (g : Rho → Res (D × Rho)) : Rho → Res (Bool × Rho) := fun ρ => (g ρ).bind fun p => (Res.of p.1.bool).bind fun b => .ok (b, p.2)
theorem own_bool {P : Program} {w : World} [KFr w] {H : Hp} {d : D} {v : V} {S : AS} {b : Bool} (o : Own P w H d v S) (h : d.bool = some b) : v = .bl b := by
  cases d with
  | bl c => cases h; exact o
  | _ => cases h
theorem t_test : ∀ σ H Q, tJT X W (gTest g) σ H Q → tJ X W ro own g σ H fun x H' => ∃ k, x = .bl k ∧ Q k H' :=
  fun σ H Q ⟨ρ, S, r0, dm, q⟩ => ⟨ρ, S, r0, dm, q.bind.mono fun p _ q v H1 S1 S2 o => by
    obtain ⟨b, hb, q⟩ := Ans.of_bind q
    exact ⟨b, own_bool o.ow hb, q H1 S2 o.st2 o.rep⟩⟩
theorem jt_op2 {op : D → D → Option D} {r : V → V → Hp → VK → Prop} (hp : ∀ ta tb, PE X a ta → PE X b tb → PT X e (tTest (tOp r ta tb))) (hc : Con2 X op r)
    (ha : J X W ro true a g) (hb : J X W ro own' b h) : JT X W e (gTest (gOp2 op g h)) := PT.weak (hp _ _ ha hb) fun σ H Q q => t_op2 hc σ H _ (t_test σ H Q q)
theorem jt_op1 {op : D → Option D} {r : V → Hp → VK → Prop} (hp : ∀ ta, PE X a ta → PT X e (tTest fun σ H Q => ta σ H fun x H1 => r x H1 Q)) (hc : Con1 X op r) (h : J X W ro own' a g) : JT X W e (gTest (gOp1 op g)) :=
  PT.weak (hp _ h) fun σ H Q q => t_op1 hc σ H _ (t_test σ H Q q)
theorem jt_val (h : J X W ro own e g) (he : ∀ whole, isTrue e X.env whole = (do let v ← whole; standAt e.pos; holding [v] (truthy v)) := by intro _; rfl) : JT X W e (gTest g) :=
  PT.weak (pt_val h he) fun σ H Q q => t_test σ H Q q
end
end DV
set_option Elab.async false
set_option linter.all false
set_option maxRecDepth 100000
set_option maxHeartbeats 1000000
namespace DV
open PySem L2

/-! ### new objects -/
section
variable {P : Program} {w : World} [KFr w] {H H' : Hp}
theorem ext_upd {p : Addr} {o : HO} (h : H p = none) : Ext H (upd H p o) := fun a u e => by rw [upd_ne (ne_of_none e h)]; exact e
theorem OwnL.append : ∀ {ds es : List D} {vs us : List V} {S : AS}, OwnL P w H ds vs S → D.pures ds = true → OwnL P w H es us S → OwnL P w H (ds ++ es) (vs ++ us) S
  | [], es, vs, us, S, h, _, k => by rw [show vs = [] from h]; exact k
  | d :: ds, es, vs, us, S, ⟨v, vr, S1, S2, e, o1, o2, k1, k2, dj⟩, p, k => by
    simp only [D.pures, Bool.and_eq_true] at p
    exact ⟨v, vr ++ us, fun _ => False, S, by rw [e]; rfl, o1.ofPure p.1, OwnL.append (o2.ofPure p.2) p.2 k, fun _ z => z.elim, fun _ z => z, fun _ z => z.elim⟩
theorem pures_append : ∀ {ds es : List D}, D.pures (ds ++ es) = (D.pures ds && D.pures es)
  | [], es => by simp [D.pures]
  | d :: ds, es => by simp only [List.cons_append, D.pures, pures_append, Bool.and_assoc]
theorem OwnL.get : ∀ {ds : List D} {vs : List V} {S : AS} {i : Nat} {d : D}, OwnL P w H ds vs S → ds[i]? = some d → ∃ v S1, vs[i]? = some v ∧ Own P w H d v S1 ∧ ∀ b, S1 b → S b
  | d0 :: ds, vs, S, 0, d, ⟨v, vr, S1, S2, e, o1, o2, k1, k2, dj⟩, h => by
    simp only [List.getElem?_cons_zero, Option.some.injEq] at h
    subst h
    exact ⟨v, S1, by rw [e]; rfl, o1, k1⟩
  | d0 :: ds, vs, S, i + 1, d, ⟨v, vr, S1, S2, e, o1, o2, k1, k2, dj⟩, h => by
    obtain ⟨v', S', e', o', k'⟩ := OwnL.get (i := i) (d := d) o2 (by simpa using h)
    exact ⟨v', S', by rw [e]; simpa using e', o', fun b hb => k2 b (k' b hb)⟩
theorem pures_get : ∀ {ds : List D} {i : Nat} {d : D}, D.pures ds = true → ds[i]? = some d → d.pure = true
  | d0 :: ds, 0, d, p, h => by
    simp only [List.getElem?_cons_zero, Option.some.injEq] at h
    subst h
    simp only [D.pures, Bool.and_eq_true] at p
    exact p.1
  | d0 :: ds, i + 1, d, p, h => by
    simp only [D.pures, Bool.and_eq_true] at p
    exact pures_get (i := i) p.2 (by simpa using h)
theorem pures_all : ∀ {ds : List D}, D.pures ds = true ↔ ∀ d ∈ ds, d.pure = true
  | [] => by simp [D.pures]
  | d :: ds => by simp [D.pures, pures_all]
/-- data without boxes, by their places -/
theorem OwnL.of_get {S : AS} : ∀ {ds : List D} {vs : List V}, vs.length = ds.length → (∀ (i : Nat) d v, ds[i]? = some d → vs[i]? = some v → Own P w H d v (fun _ => False)) → OwnL P w H ds vs S
  | [], vs, hl, _ => List.length_eq_zero_iff.mp hl
  | d :: ds, [], hl, _ => by simp at hl
  | d :: ds, v :: vr, hl, h => ⟨v, vr, fun _ => False, S, rfl, h 0 d v rfl rfl, OwnL.of_get (by simpa using hl) (fun i d' v' h1 h2 => h (i + 1) d' v' (by simpa using h1) (by simpa using h2)), fun _ z => z.elim, fun _ z => z, fun _ z => z.elim⟩
theorem own_lst {p : Addr} {ds : List D} {vs : List V} {S : AS} (hp : H p = none) (o : OwnL P w H ds vs S) (pu : D.pures ds = true) : Own P w (upd H p (.lst vs)) (.lst ds) (.ref p) (fun b => b = p) :=
  ⟨p, vs, rfl, rfl, upd_same, (o.ext (ext_upd hp)).ofPure pu⟩
theorem own_tup {p : Addr} {ds : List D} {vs : List V} {S : AS} (hp : H p = none) (o : OwnL P w H ds vs S) (pu : D.pures ds = true) : Own P w (upd H p (.tup vs)) (.tup ds) (.ref p) (fun _ => False) :=
  ⟨p, vs, rfl, .inl upd_same, (o.ext (ext_upd hp)).ofPure pu⟩
theorem dom_one {p : Addr} {o : HO} : Dom (fun b => b = p) (upd H p o) := fun b hb => by rw [hb, upd_same]; exact fun z => nomatch z
end

/-- the items of a list or tuple -/
def D.items : D → Option (List D)
  | .tup ds => some ds
  | .fro ds => some ds
  | .lst ds => some ds
  | .lck ds => some ds
  | _ => none
/-- where its items are read -/
theorem own_items {P : Program} {w : World} [KFr w] {H : Hp} {K : PySem.W.Frag} {d : D} {ds : List D} {v : V} {S : AS} (hK : KFr.kfr w = K) (o : Own P w H d v S) (h : d.items = some ds) : ∃ a vs, v = .ref a ∧ (SqL K H a vs ∨ SqT K H a vs) ∧ OwnL P w H ds vs S := by
  cases d with
  | tup es => cases h; obtain ⟨a, vs, e, t, q⟩ := o; exact ⟨a, vs, e, .inr (t.imp (fun z => .inl z) fun z => by rw [← hK]; exact z), q⟩
  | fro es => cases h; obtain ⟨a, ob, vs, e, t, q⟩ := o; exact ⟨a, vs, e, .inl (.inl (.inr ⟨ob, t⟩)), q⟩
  | lst es => cases h; obtain ⟨a, vs, e, _, t, q⟩ := o; exact ⟨a, vs, e, .inl (SqL.of t), q.mono fun b hb => hb.1⟩
  | lck es => cases h; obtain ⟨a, vs, e, _, t, q⟩ := o; exact ⟨a, vs, e, .inl (SqL.of t), q.mono fun b hb => hb.1⟩
  | _ => cases h

section
variable {X : Cx} [KFr X.w] [XKf X] {W : WX} {ro own own' : Bool} {a b e : Expr} {pos : Pos} {g h : Rho → Res (D × Rho)}
/-- an answer that is a plain value -/
theorem ans_pure {H : Hp} {d : D} {v : V} {Q : VK} (k : ∀ v' H' S', Ext H H' → Own X.prog X.w H' d v' S' → (∀ b, S' b → H b = none) → Dom S' H' → Q v' H') (o : Own X.prog X.w H d v (fun _ => False)) : Q v H :=
  k v H (fun _ => False) (fun _ _ e => e) o (fun _ z => z.elim) fun _ z => z.elim

/-! ### arithmetic -/
def oAdd : D → D → Option D
  | .int i, .int j => some (.int (i + j))
  | .int i, .bl b => some (.int (i + PyProof.Rows.b2i b))
  | .str x, .str y => if x.length + y.length ≤ sizeLine then some (.str (x ++ y)) else none
  | .lst xs, .lst ys => if D.pures xs = true ∧ D.pures ys = true ∧ xs.length + ys.length ≤ sizeLine then some (.lst (xs ++ ys)) else none
  | _, _ => none

def rAdd' : R2 := fun x y H Q => rI0 (fun i j => .int (i + j)) x y H Q ∨ (fun x y H Q => ∃ i k, x = .int i ∧ y = .bl k ∧ Q (.int (i + PyProof.Rows.b2i k)) H) x y H Q ∨
  (fun x y H Q => ∃ i j, x = .str i ∧ y = .str j ∧ i.length + j.length ≤ sizeLine ∧ Q (.str (i ++ j)) H) x y H Q ∨ rCat x y H Q
theorem op_add' : OpR X (binaryOp .Add) rAdd' := op_add.or (op_add_ib.or (op_add_str.or op_cat))
theorem con_add : Con2 X oAdd rAdd' := fun H d e v u S T d' o1 o2 ho Q k => by
  unfold oAdd at ho
  split at ho
  · cases ho; exact .inl ⟨_, _, o1, o2, ans_pure k rfl⟩
  · cases ho; exact .inr (.inl ⟨_, _, o1, o2, ans_pure k rfl⟩)
  · split at ho
    · rename_i hz; cases ho; exact .inr (.inr (.inl ⟨_, _, o1, o2, hz, ans_pure k rfl⟩))
    · cases ho
  · split at ho
    · rename_i xs ys hz
      cases ho
      obtain ⟨p, vs, e1, _, t1, q1⟩ := o1
      obtain ⟨r, us, e2, _, t2, q2⟩ := o2
      refine .inr (.inr (.inr ⟨p, r, vs, us, e1, e2, t1, t2, by rw [q1.length, q2.length]; exact hz.2.2, fun z hz' => k _ _ _ (ext_upd hz') (own_lst hz' (OwnL.append (q1.ofPure hz.1) hz.1 (q2.ofPure (S' := fun _ => False) hz.2.1)) ?_) (fun b hb => ?_) dom_one⟩))
      · rw [pures_append, hz.1, hz.2.1]; rfl
      · rw [show b = z from hb]; exact hz'
    · cases ho
  · cases ho
theorem j_add (ha : J X W ro true a g) (hb : J X W ro own' b h) : J X W ro true (.BinOp a .Add b pos) (gOp2 oAdd g h) := j_op2 (fun _ _ => pe_op op_add') con_add ha hb

def oInt2 (f : Int → Int → Option Int) : D → D → Option D
  | .int i, .int j => match f i j with
    | some k => some (.int k)
    | none => none
  | _, _ => none

theorem con_int2 {f : Int → Int → Option Int} {r : R2} (hr : ∀ i j k H Q, f i j = some k → Q (.int k) H → r (.int i) (.int j) H Q) : Con2 X (oInt2 f) r := fun H d e v u S T d' o1 o2 ho Q k => by
  unfold oInt2 at ho
  split at ho
  · rename_i i j
    split at ho
    · rename_i n hf
      cases ho
      cases (show v = .int i from o1)
      cases (show u = .int j from o2)
      exact hr i j n H Q hf (ans_pure k rfl)
    · cases ho
  · cases ho
def fSub (i j : Int) : Option Int := some (i - j)
noncomputable def fMul (i j : Int) : Option Int := if Hid ((-(2 ^ 64) < i ∧ i < 2 ^ 64) ∨ (-(2 ^ 64) < j ∧ j < 2 ^ 64)) then some (i * j) else none
noncomputable def fDiv (i j : Int) : Option Int := if Hid (0 < j ∧ j < 1073741824) then some (i / j) else none
def fMod (i j : Int) : Option Int := if 0 < j then some (i % j) else none
def fPow (i j : Int) : Option Int := if 0 ≤ j ∧ j ≤ 1000000 ∧ i.natAbs < 2 ^ 64 then some (i ^ j.toNat) else none
def fShl (i j : Int) : Option Int := if 0 ≤ j ∧ j ≤ 1000000 ∧ i.natAbs < 2 ^ 64 then some (i * 2 ^ j.toNat) else none
theorem con_sub : Con2 X (oInt2 fSub) (rI0 fun i j => .int (i - j)) := con_int2 fun i j k H Q h q => by cases h; exact ⟨i, j, rfl, rfl, q⟩
theorem con_mul : Con2 X (oInt2 fMul) (rI CMul fun i j => .int (i * j)) := con_int2 fun i j k H Q h q => by
  unfold fMul at h
  split at h
  · cases h; exact ⟨i, j, rfl, rfl, by assumption, q⟩
  · cases h
theorem con_div : Con2 X (oInt2 fDiv) (rI CDiv fun i j => .int (i / j)) := con_int2 fun i j k H Q h q => by
  unfold fDiv at h
  split at h
  · cases h; exact ⟨i, j, rfl, rfl, by assumption, q⟩
  · cases h
theorem con_mod : Con2 X (oInt2 fMod) (rI (fun _ j => 0 < j) fun i j => .int (i % j)) := con_int2 fun i j k H Q h q => by
  unfold fMod at h
  split at h
  · cases h; exact ⟨i, j, rfl, rfl, by assumption, q⟩
  · cases h
theorem con_pow : Con2 X (oInt2 fPow) (rI CPow fun i j => .int (i ^ j.toNat)) := con_int2 fun i j k H Q h q => by
  unfold fPow at h
  split at h
  · cases h; exact ⟨i, j, rfl, rfl, by assumption, q⟩
  · cases h
theorem con_shl : Con2 X (oInt2 fShl) (rI CPow fun i j => .int (i * 2 ^ j.toNat)) := con_int2 fun i j k H Q h q => by
  unfold fShl at h
  split at h
  · cases h; exact ⟨i, j, rfl, rfl, by assumption, q⟩
  · cases h
theorem j_sub (ha : J X W ro true a g) (hb : J X W ro own' b h) : J X W ro true (.BinOp a .Sub b pos) (gOp2 (oInt2 fSub) g h) := j_op2 (fun _ _ => pe_op op_sub) con_sub ha hb
theorem j_mul (ha : J X W ro true a g) (hb : J X W ro own' b h) : J X W ro true (.BinOp a .Mult b pos) (gOp2 (oInt2 fMul) g h) := j_op2 (fun _ _ => pe_op op_mul) con_mul ha hb
theorem j_div (ha : J X W ro true a g) (hb : J X W ro own' b h) : J X W ro true (.BinOp a .FloorDiv b pos) (gOp2 (oInt2 fDiv) g h) := j_op2 (fun _ _ => pe_op op_fdiv) con_div ha hb
theorem j_mod (ha : J X W ro true a g) (hb : J X W ro own' b h) : J X W ro true (.BinOp a .Mod b pos) (gOp2 (oInt2 fMod) g h) := j_op2 (fun _ _ => pe_op op_mod) con_mod ha hb
theorem j_pow (ha : J X W ro true a g) (hb : J X W ro own' b h) : J X W ro true (.BinOp a .Pow b pos) (gOp2 (oInt2 fPow) g h) := j_op2 (fun _ _ => pe_op op_pow) con_pow ha hb
theorem j_shl (ha : J X W ro true a g) (hb : J X W ro own' b h) : J X W ro true (.BinOp a .LShift b pos) (gOp2 (oInt2 fShl) g h) := j_op2 (fun _ _ => pe_op op_shl) con_shl ha hb

/-! ### comparisons -/
def oCmp (f : Int → Int → Bool) : D → D → Option D
  | .int i, .int j => some (.bl (f i j))
  | _, _ => none

theorem con_cmp (f : Int → Int → Bool) : Con2 X (oCmp f) (rI0 fun i j => .bl (f i j)) := fun H d e v u S T d' o1 o2 ho Q k => by
  unfold oCmp at ho
  split at ho
  · cases ho; exact ⟨_, _, o1, o2, ans_pure k rfl⟩
  · cases ho
def fLt (i j : Int) : Bool := decide (i < j)
def fLe (i j : Int) : Bool := decide (i ≤ j)
def fGt (i j : Int) : Bool := decide (j < i)
def fGe (i j : Int) : Bool := decide (j ≤ i)
theorem j_lt (ha : J X W ro true a g) (hb : J X W ro own' b h) : J X W ro true (.Compare a [.Lt] [b] pos) (gOp2 (oCmp fLt) g h) := j_op2 (fun _ _ ha hb => pe_cmpR op_lt ha hb (nomark _)) (con_cmp _) ha hb
theorem j_le (ha : J X W ro true a g) (hb : J X W ro own' b h) : J X W ro true (.Compare a [.LtE] [b] pos) (gOp2 (oCmp fLe) g h) := j_op2 (fun _ _ ha hb => pe_cmpR op_le ha hb (nomark _)) (con_cmp _) ha hb
theorem j_gt (ha : J X W ro true a g) (hb : J X W ro own' b h) : J X W ro true (.Compare a [.Gt] [b] pos) (gOp2 (oCmp fGt) g h) := j_op2 (fun _ _ ha hb => pe_cmpR op_gt ha hb (nomark _)) (con_cmp _) ha hb
theorem j_ge (ha : J X W ro true a g) (hb : J X W ro own' b h) : J X W ro true (.Compare a [.GtE] [b] pos) (gOp2 (oCmp fGe) g h) := j_op2 (fun _ _ ha hb => pe_cmpR op_ge ha hb (nomark _)) (con_cmp _) ha hb

/-- the value of a plain thing -/
def D.flat : D → Option V
  | .non => some .non
  | .bl b => some (.bl b)
  | .int i => some (.int i)
  | .str x => some (.str x)
  | _ => none
theorem own_flat {P : Program} {w : World} [KFr w] {H : Hp} {d : D} {v u : V} {S : AS} (o : Own P w H d v S) (h : d.flat = some u) : v = u := by
  cases d with
  | non => cases h; exact o
  | bl _ => cases h; exact o
  | int _ => cases h; exact o
  | str _ => cases h; exact o
  | _ => cases h
def oEq (neg : Bool) (d e : D) : Option D := match d.flat, e.flat with
  | some x, some y => if scal x y = true then some (.bl (if neg then !decide (x = y) else decide (x = y))) else none
  | _, _ => none

theorem con_eq : Con2 X (oEq false) rEq := fun H d e v u S T d' o1 o2 ho Q k => by
  unfold oEq at ho
  split at ho
  · rename_i x y h1 h2
    split at ho
    · rename_i hs
      cases ho
      rw [own_flat o1 h1, own_flat o2 h2]
      exact ⟨hs, ans_pure k rfl⟩
    · cases ho
  · cases ho
theorem con_ne : Con2 X (oEq true) rNe := fun H d e v u S T d' o1 o2 ho Q k => by
  unfold oEq at ho
  split at ho
  · rename_i x y h1 h2
    split at ho
    · rename_i hs
      cases ho
      rw [own_flat o1 h1, own_flat o2 h2]
      exact ⟨hs, ans_pure k rfl⟩
    · cases ho
  · cases ho
theorem j_eq (ha : J X W ro true a g) (hb : J X W ro own' b h) : J X W ro true (.Compare a [.Eq] [b] pos) (gOp2 (oEq false) g h) := j_op2 (fun _ _ ha hb => pe_cmpR op_eq ha hb (nomark _)) con_eq ha hb
theorem j_ne (ha : J X W ro true a g) (hb : J X W ro own' b h) : J X W ro true (.Compare a [.NotEq] [b] pos) (gOp2 (oEq true) g h) := j_op2 (fun _ _ ha hb => pe_cmpR op_ne ha hb (nomark _)) con_ne ha hb
def D.isN : D → Bool
  | .non => true
  | _ => false
def oIsN (neg : Bool) (d : D) : Option D := some (.bl (if neg then !d.isN else d.isN))

theorem own_non {P : Program} {w : World} [KFr w] {H : Hp} {d : D} {v : V} {S : AS} (o : Own P w H d v S) : decide (v = .non) = d.isN := by
  cases d with
  | non => rw [show v = .non from o]; rfl
  | bl _ => rw [show v = .bl _ from o]; rfl
  | int _ => rw [show v = .int _ from o]; rfl
  | str _ => rw [show v = .str _ from o]; rfl
  | tup _ => obtain ⟨a, _, e, _⟩ := o; rw [e]; rfl
  | fro _ => obtain ⟨a, _, _, e, _⟩ := o; rw [e]; rfl
  | lst _ => obtain ⟨a, _, e, _⟩ := o; rw [e]; rfl
  | lck _ => obtain ⟨a, _, e, _⟩ := o; rw [e]; rfl
  | dic _ _ => obtain ⟨a, _, _, _, e, _⟩ := o; rw [e]; rfl
  | dlk _ _ => obtain ⟨a, _, _, _, _, e, _⟩ := o; rw [e]; rfl
theorem con_isN : Con1 X (oIsN false) (fun x H Q => Q (.bl (decide (x = .non))) H) := fun H d v S d' o ho Q k => by
  show Q (.bl (decide (v = .non))) H
  rw [own_non o]
  cases ho
  exact ans_pure k rfl
theorem con_notN : Con1 X (oIsN true) (fun x H Q => Q (.bl (!decide (x = .non))) H) := fun H d v S d' o ho Q k => by
  show Q (.bl (!decide (v = .non))) H
  rw [own_non o]
  cases ho
  exact ans_pure k rfl
theorem j_isN {j pos'} (ha : J X W ro own a g) : J X W ro true (.Compare a [.Is] [.Constant .none j pos'] pos) (gOp1 (oIsN false) g) := j_op1 (fun _ ha => pe_cmp (pc_isN ha)) con_isN ha
theorem j_notN {j pos'} (ha : J X W ro own a g) : J X W ro true (.Compare a [.IsNot] [.Constant .none j pos'] pos) (gOp1 (oIsN true) g) := j_op1 (fun _ ha => pe_cmp (pc_notN ha)) con_notN ha

/-! ### items -/
def oIdx : D → D → Option D
  | .str z, .int i => if z.length ≤ sizeLine then (match atI z.cps.toList i with
    | some c => some (.str ⟨#[c]⟩)
    | none => none) else none
  | d, .int i => match d.items with
    | some ds => (match atI ds i with
      | some d' => some d'
      | none => none)
    | none => none
  | _, _ => none

theorem atI_of {α β : Type} {xs : List α} {ys : List β} (hl : ys.length = xs.length) {i : Int} {x : α} (h : atI xs i = some x) : ∃ j : Nat, xs[j]? = some x ∧ atI ys i = ys[j]? := by
  unfold atI at h ⊢
  rw [hl]
  cases e : ixN xs.length i with
  | none => rw [e] at h; cases h
  | some j => rw [e] at h; exact ⟨j, h, rfl⟩
theorem con_idx : Con2B X oIdx (rIx X.K) := fun H d e v u S T d' o1 o2 ho Q k => by
  unfold oIdx at ho
  split at ho
  · split at ho
    · rename_i z i hz
      split at ho
      · rename_i c hc
        cases ho
        exact .inr (.inr ⟨z, i, c, o1, o2, hz, hc, k _ (fun _ => False) rfl fun b z => z.elim⟩)
      · cases ho
    · cases ho
  · rename_i i hns
    split at ho
    · rename_i ds hd
      split at ho
      · rename_i x hx
        cases ho
        obtain ⟨p, vs, e1, sq, ol⟩ := own_items (K := X.K) XKf.eq o1 hd
        obtain ⟨j, hj, ej⟩ := atI_of ol.length hx
        obtain ⟨v', S1, hv, ow, sb⟩ := ol.get hj
        rcases sq with sq | sq
        · exact .inl ⟨p, vs, i, v', e1, o2, sq, ej.trans hv, k v' S1 ow sb⟩
        · exact .inr (.inl ⟨p, vs, i, v', e1, o2, sq, ej.trans hv, k v' S1 ow sb⟩)
      · cases ho
    · cases ho
  · cases ho
/-- a[b], the index only reads -/
theorem j_idx (ha : J X W ro own a g) (hb : J X W true true b h) (hs : PlainIx b) : J X W ro own (.Subscript a b pos) (gOp2 oIdx g h) := j_op2B (fun _ _ ha hb => pe_ix ix_seq ha hb hs) con_idx ha hb
/-- x[b], the index may change x -/
theorem j_idxV {i : Nat} {x : Str} {p : Pos} (hN : X.N[i]? = some x) (hv : Vis X.env.scope x) (hb : J X W ro true b h) (hs : PlainIx b) (hd : (x == ("__debug__" : Str)) = false := by decide) (hcd : (x == ("__classdict__" : Str)) = false := by decide) :
    J X W ro false (.Subscript (.Name x p) b pos) (gOpV oIdx i h) := j_opV hN hv (fun _ _ ha hb => pe_ix ix_seq ha hb hs) con_idx hb hd hcd
end
end DV
set_option Elab.async false
set_option linter.all false
set_option maxRecDepth 100000
set_option maxHeartbeats 1000000
namespace DV
open PySem L2

section
variable {X : Cx} [KFr X.w] [XKf X] {W : WX} {ro own own' : Bool} {a b c e : Expr} {es rest : List Expr} {pos : Pos} {g h : Rho → Res (D × Rho)} {gt gu : Rho → Res (Bool × Rho)}

/-! ### tests: comparisons -/
theorem jt_lt (ha : J X W ro true a g) (hb : J X W ro own' b h) : JT X W (.Compare a [.Lt] [b] pos) (gTest (gOp2 (oCmp fLt) g h)) := jt_op2 (fun _ _ ha hb => pt_cmpR op_lt ha hb (nomark _)) (con_cmp _) ha hb
theorem jt_le (ha : J X W ro true a g) (hb : J X W ro own' b h) : JT X W (.Compare a [.LtE] [b] pos) (gTest (gOp2 (oCmp fLe) g h)) := jt_op2 (fun _ _ ha hb => pt_cmpR op_le ha hb (nomark _)) (con_cmp _) ha hb
theorem jt_gt (ha : J X W ro true a g) (hb : J X W ro own' b h) : JT X W (.Compare a [.Gt] [b] pos) (gTest (gOp2 (oCmp fGt) g h)) := jt_op2 (fun _ _ ha hb => pt_cmpR op_gt ha hb (nomark _)) (con_cmp _) ha hb
theorem jt_ge (ha : J X W ro true a g) (hb : J X W ro own' b h) : JT X W (.Compare a [.GtE] [b] pos) (gTest (gOp2 (oCmp fGe) g h)) := jt_op2 (fun _ _ ha hb => pt_cmpR op_ge ha hb (nomark _)) (con_cmp _) ha hb
theorem jt_eq (ha : J X W ro true a g) (hb : J X W ro own' b h) : JT X W (.Compare a [.Eq] [b] pos) (gTest (gOp2 (oEq false) g h)) := jt_op2 (fun _ _ ha hb => pt_cmpR op_eq ha hb (nomark _)) con_eq ha hb
theorem jt_ne (ha : J X W ro true a g) (hb : J X W ro own' b h) : JT X W (.Compare a [.NotEq] [b] pos) (gTest (gOp2 (oEq true) g h)) := jt_op2 (fun _ _ ha hb => pt_cmpR op_ne ha hb (nomark _)) con_ne ha hb
theorem jt_isN {j pos'} (ha : J X W ro own a g) : JT X W (.Compare a [.Is] [.Constant .none j pos'] pos) (gTest (gOp1 (oIsN false) g)) := jt_op1 (fun _ ha => pt_cmp (pc_isN ha)) con_isN ha
theorem jt_notN {j pos'} (ha : J X W ro own a g) : JT X W (.Compare a [.IsNot] [.Constant .none j pos'] pos) (gTest (gOp1 (oIsN true) g)) := jt_op1 (fun _ ha => pt_cmp (pc_notN ha)) con_notN ha

/-! ### and, or, not of tests -/
def JW (X : Cx) [KFr X.w] (W : WX) (e : Expr) (g : Rho → Res (Bool × Rho)) : Prop := PW X e (tJT X W g)
def gAnd (g h : Rho → Res (Bool × Rho)) : Rho → Res (Bool × Rho) := fun ρ => (g ρ).bind fun p => if p.1 = true then h p.2 else .ok (false, p.2)
def gOr (g h : Rho → Res (Bool × Rho)) : Rho → Res (Bool × Rho) := fun ρ => (g ρ).bind fun p => if p.1 = true then .ok (true, p.2) else h p.2
def gNot (g : Rho → Res (Bool × Rho)) : Rho → Res (Bool × Rho) := fun ρ => (g ρ).bind fun p => .ok (!p.1, p.2)
/-- what follows a test that gave b -/
theorem tJT.after {H H1 : Hp} {S S1 : AS} {σ : L2.St} {Q : Bool → Hp → Prop} {ρ : Rho} (st : Step H H1 S S1) (r : Rep X.prog X.w H1 ρ σ S1)
    (q : Ans X W σ H S (gt ρ) fun p => ∀ H' S2, Step H H' S S2 → Rep X.prog X.w H' p.2 σ S2 → Q p.1 H') : tJT X W gt σ H1 Q :=
  ⟨ρ, S1, r, st.dm, (q.step st).mono fun p _ q H' S2 s r => q H' S2 (st.trans s) r⟩
theorem t_and : ∀ σ H Q, tJT X W (gAnd gt gu) σ H Q → tAnd (tJT X W gt) (tJT X W gu) σ H Q := fun σ H Q ⟨ρ, S, r, dm, q⟩ => ⟨ρ, S, r, dm, q.bind.mono fun p _ q H' S2 st r' => by
  obtain ⟨b, ρ'⟩ := p
  cases b with
  | false => exact q H' S2 st r'
  | true => exact tJT.after st r' q⟩
theorem t_or : ∀ σ H Q, tJT X W (gOr gt gu) σ H Q → tOr (tJT X W gt) (tJT X W gu) σ H Q := fun σ H Q ⟨ρ, S, r, dm, q⟩ => ⟨ρ, S, r, dm, q.bind.mono fun p _ q H' S2 st r' => by
  obtain ⟨b, ρ'⟩ := p
  cases b with
  | true => exact q H' S2 st r'
  | false => exact tJT.after st r' q⟩
theorem t_not : ∀ σ H Q, tJT X W (gNot gt) σ H Q → tNot (tJT X W gt) σ H Q := fun σ H Q ⟨ρ, S, r, dm, q⟩ => ⟨ρ, S, r, dm, q.bind.mono fun p _ q H' S2 st r' => q H' S2 st r'⟩
theorem jw_and1 (ha : JT X W a gt) : JW X W (.BoolOp .And [a] pos) gt := pw_and1 ha
theorem jw_or1 (ha : JT X W a gt) : JW X W (.BoolOp .Or [a] pos) gt := pw_or1 ha
theorem jw_and (ha : JT X W a gt) (hb : JW X W (.BoolOp .And (b :: rest) pos) gu) : JW X W (.BoolOp .And (a :: b :: rest) pos) (gAnd gt gu) := PW.weak (pw_and ha hb) t_and
theorem jw_or (ha : JT X W a gt) (hb : JW X W (.BoolOp .Or (b :: rest) pos) gu) : JW X W (.BoolOp .Or (a :: b :: rest) pos) (gOr gt gu) := PW.weak (pw_or ha hb) t_or
theorem jt_bool (h : JW X W e gt) : JT X W e gt := PW.pt h
theorem jt_not (ha : JT X W a gt) : JT X W (.UnaryOp .Not a pos) (gNot gt) := PT.weak (pt_not ha) t_not

/-! ### a if t else b -/
def gIf {α : Type} (t : Rho → Res (Bool × Rho)) (g h : Rho → Res α) : Rho → Res α := fun ρ => (t ρ).bind fun p => if p.1 = true then g p.2 else h p.2
/-- a reading behind a step -/
theorem tJ.after {H H1 : Hp} {S S1 : AS} {σ : L2.St} {Q : VK} {ρ ρ0 : Rho} (st : Step H H1 S S1) (r : Rep X.prog X.w H1 ρ σ S1)
    (q : Ans X W σ H S (g ρ) fun p => ∀ v H' T1 T2, Out X.prog X.w false own H S σ ρ0 p.1 p.2 v H' T1 T2 → Q v H') : tJ X W ro own g σ H1 Q :=
  ⟨ρ, S1, r, st.dm, (q.step st).mono fun p _ q v H' T1 T2 o => q v H' T1 T2 ⟨st.trans o.st, o.ow, o.rep, o.dj, fun z => (nomatch z)⟩⟩
theorem j_ifExp (hc : JT X W c gt) (ha : J X W ro own a g) (hb : J X W ro own b h) : J X W false own (.IfExp c a b pos) (gIf gt g h) := PE.weak (pe_ifExp hc ha hb) fun σ H Q ⟨ρ, S, r, dm, q⟩ => ⟨ρ, S, r, dm, q.bind.mono fun p _ q H' S2 st r' => by
  obtain ⟨b, ρ'⟩ := p
  cases b with
  | true => exact tJ.after st r' q
  | false => exact tJ.after st r' q⟩

/-! ### and, or, not of bools, as values -/
def gAndV (g h : Rho → Res (D × Rho)) : Rho → Res (D × Rho) := fun ρ => (g ρ).bind fun p => (Res.of p.1.bool).bind fun b => if b = true then h p.2 else .ok (.bl false, p.2)
def gOrV (g h : Rho → Res (D × Rho)) : Rho → Res (D × Rho) := fun ρ => (g ρ).bind fun p => (Res.of p.1.bool).bind fun b => if b = true then .ok (.bl true, p.2) else h p.2
def oNot (d : D) : Option D := d.bool.map fun b => .bl (!b)
theorem con_not : Con1 X oNot (fun x H Q => ∃ c, x = .bl c ∧ Q (.bl (!c)) H) := fun H d v S d' o ho Q k => by
  obtain ⟨b, hb, rfl⟩ := Option.map_eq_some_iff.mp ho
  exact ⟨b, own_bool o hb, ans_pure k rfl⟩
theorem j_not (ha : J X W ro own a g) : J X W ro true (.UnaryOp .Not a pos) (gOp1 oNot g) := j_op1 (fun _ ha => pe_not ha) con_not ha
theorem j_one {op : BoolOp} (ha : J X W ro own a g) : J X W ro own (.BoolOp op [a] pos) g := pe_one ha
theorem out_bl {P : Program} {w : World} [KFr w] {H H' : Hp} {S S1 S2 : AS} {σ : L2.St} {ρ ρ' : Rho} {d : D} {v : V} {b : Bool} (o : Out P w ro own' H S σ ρ d ρ' v H' S1 S2) : Out P w false own H S σ ρ (.bl b) ρ' (.bl b) H' (fun _ => False) S2 :=
  ⟨o.st.sub fun b hb => hb.elim False.elim Or.inr, rfl, o.rep, fun _ b z => z.elim, fun z => (nomatch z)⟩
theorem j_and (ha : J X W ro own' a g) (hb : J X W ro own (.BoolOp .And (b :: rest) pos) h) : J X W false own (.BoolOp .And (a :: b :: rest) pos) (gAndV g h) := PE.weak (pe_and ha hb) fun σ H Q ⟨ρ, S, r, dm, q⟩ => ⟨ρ, S, r, dm, q.bind.mono fun p _ q v H' S1 S2 o => by
  obtain ⟨b, hb, q⟩ := Ans.of_bind q
  refine ⟨b, own_bool o.ow hb, ?_⟩
  cases b with
  | true => exact tJ.after o.st2 o.rep q
  | false => exact q _ H' _ S2 (out_bl o)⟩
theorem j_or (ha : J X W ro own' a g) (hb : J X W ro own (.BoolOp .Or (b :: rest) pos) h) : J X W false own (.BoolOp .Or (a :: b :: rest) pos) (gOrV g h) := PE.weak (pe_or ha hb) fun σ H Q ⟨ρ, S, r, dm, q⟩ => ⟨ρ, S, r, dm, q.bind.mono fun p _ q v H' S1 S2 o => by
  obtain ⟨b, hb, q⟩ := Ans.of_bind q
  refine ⟨b, own_bool o.ow hb, ?_⟩
  cases b with
  | false => exact tJ.after o.st2 o.rep q
  | true => exact q _ H' _ S2 (out_bl o)⟩

/-! ### argument lists, displays -/
structure OutL (P : Program) (w : World) [KFr w] (ro : Bool) (H : Hp) (S : AS) (σ : L2.St) (ρ : Rho) (ds : List D) (ρ' : Rho) (vs : List V) (H' : Hp) (S1 S2 : AS) : Prop where
  st : Step H H' S (fun b => S1 b ∨ S2 b)
  ow : OwnL P w H' ds vs S1
  rep : Rep P w H' ρ' σ S2
  dj : ∀ b, S1 b → S2 b → False
  ext : ro = true → Ext H H' ∧ ρ' = ρ
def tJA (X : Cx) [KFr X.w] (W : WX) (ro : Bool) (gs : Rho → Res (List D × Rho)) : TA := fun σ H Q => ∃ ρ S, Rep X.prog X.w H ρ σ S ∧ Dom S H ∧
  Ans X W σ H S (gs ρ) fun p => ∀ vs H' S1 S2, OutL X.prog X.w ro H S σ ρ p.1 p.2 vs H' S1 S2 → Q vs H'
def JA (X : Cx) [KFr X.w] (W : WX) (ro : Bool) (es : List Expr) (gs : Rho → Res (List D × Rho)) : Prop := PA X es (tJA X W ro gs)
def gNil : Rho → Res (List D × Rho) := fun ρ => .ok ([], ρ)
def gCons (g : Rho → Res (D × Rho)) (gs : Rho → Res (List D × Rho)) : Rho → Res (List D × Rho) := fun ρ => (g ρ).bind fun p => (gs p.2).bind fun q => .ok (p.1 :: q.1, q.2)
variable {gs : Rho → Res (List D × Rho)}
theorem ja_nil : JA X W ro [] gNil := PA.weak pa_nil fun σ H Q ⟨ρ, S, r, dm, q⟩ => q [] H (fun _ => False) S ⟨(Step.refl dm).sub fun b hb => hb.elim False.elim id, rfl, r, fun b z => z.elim, fun _ => ⟨fun _ _ e => e, rfl⟩⟩
/-- two owned things, one after the other -/
theorem step_two {H H1 H2 : Hp} {S S1 S2 T1 T2 : AS} (s1 : Step H H1 S (fun b => S1 b ∨ S2 b)) (s2 : Step H1 H2 S2 (fun b => T1 b ∨ T2 b)) (dj : ∀ b, S1 b → S2 b → False) :
    Step H H2 S (fun b => (S1 b ∨ T1 b) ∨ T2 b) ∧ ∀ b, S1 b → T1 b ∨ T2 b → False := by
  have st : Step H H1 S S2 := s1.sub fun b hb => Or.inr hb
  have n1 : ∀ b, S1 b → T1 b ∨ T2 b → False := fun b h1 h2 => (s2.nw b h2).elim (fun z => dj b h1 z) fun z => s1.dm b (.inl h1) z
  have t2 := st.trans s2
  refine ⟨⟨t2.fr, fun b hb => ?_, fun b hb => ?_, t2.tp, t2.fz⟩, n1⟩
  · rcases hb with (hb | hb) | hb
    · exact s1.nw b (.inl hb)
    · exact t2.nw b (.inl hb)
    · exact t2.nw b (.inr hb)
  · rcases hb with (hb | hb) | hb
    · intro z
      cases e1 : H1 b with
      | none => exact s1.dm b (.inl hb) e1
      | some u => rw [s2.fr b u e1 (dj b hb)] at z; cases z
    · exact t2.dm b (.inl hb)
    · exact t2.dm b (.inr hb)
theorem t_cons : ∀ σ H Q, tJA X W ro (gCons g gs) σ H Q → tCons (tJ X W ro true g) (tJA X W ro gs) σ H Q := fun σ H Q ⟨ρ, S, r, dm, q⟩ => ⟨ρ, S, r, dm, q.bind.mono fun p _ q v H1 S1 S2 o =>
  ⟨p.2, S2, o.rep, o.dm2, (q.bind.step o.st2).mono fun p2 _ q vs H2 T1 T2 o2 => by
    obtain ⟨st, n1⟩ := step_two o.st o2.st (o.dj rfl)
    exact q (v :: vs) H2 (fun b => S1 b ∨ T1 b) T2 ⟨st, ⟨v, vs, S1, T1, rfl, o.ow.step o2.st (o.dj rfl), o2.ow, fun b hb => .inl hb, fun b hb => .inr hb, fun b h1 h2 => n1 b h1 (.inl h2)⟩, o2.rep, fun b h1 h2 => h1.elim (fun z => n1 b z (.inr h2)) fun z => o2.dj b z h2,
      fun z => ⟨fun a u e => (o2.ext z).1 a u ((o.ext z).1 a u e), (o2.ext z).2.trans (o.ext z).2⟩⟩⟩⟩
theorem ja_cons (ha : J X W ro true e g) (hr : JA X W ro es gs) (hs : starEach (e :: es) X.env = (false, eval e X.env) :: starEach es X.env := by rfl) : JA X W ro (e :: es) (gCons g gs) := PA.weak (pa_cons ha hr hs) t_cons

def gTup (gs : Rho → Res (List D × Rho)) : Rho → Res (D × Rho) := fun ρ => (gs ρ).bind fun p => if p.1.length ≤ 1000 then .ok (.tup p.1, p.2) else .stuck
def gLst (gs : Rho → Res (List D × Rho)) : Rho → Res (D × Rho) := fun ρ => (gs ρ).bind fun p => if p.1.length ≤ 1000 then .ok (.lst p.1, p.2) else .stuck
theorem fits {n : Nat} (h : n ≤ 1000) : n ≤ sizeLine := by rw [sizeLine_eq]; omega
theorem dom_ne {S : AS} {H : Hp} {p : Addr} (d : Dom S H) (n : H p = none) : ∀ b, S b → b ≠ p := fun b hb e => d b hb (by rw [e]; exact n)
theorem j_tup {k : Nat} (ha : JA X W ro es gs) : J X W ro true (.Tuple es k pos) (gTup gs) := PE.weak (pe_tup ha) fun σ H Q ⟨ρ, S, r, dm, q⟩ => ⟨ρ, S, r, dm, q.bind.mono fun p2 _ q vs H1 S1 S2 o => by
  obtain ⟨hl, q⟩ := Ans.ite q
  refine ⟨fits (by rw [o.ow.length]; exact hl), fun p hp => ?_⟩
  have x := ext_upd (o := .tup vs) hp
  exact q _ _ S1 S2 ⟨o.st.trans (Step.same x o.st.dm), ⟨p, vs, rfl, .inl upd_same, o.ow.ext x⟩, o.rep.ext x, fun _ => o.dj, fun z => ⟨fun a u e => x a u ((o.ext z).1 a u e), (o.ext z).2⟩⟩⟩
theorem j_lst (ha : JA X W ro es gs) : J X W ro true (.List es pos) (gLst gs) := PE.weak (pe_lst ha) fun σ H Q ⟨ρ, S, r, dm, q⟩ => ⟨ρ, S, r, dm, q.bind.mono fun p2 _ q vs H1 S1 S2 o => by
  obtain ⟨hl, q⟩ := Ans.ite q
  refine ⟨fits (by rw [o.ow.length]; exact hl), fun p hp => ?_⟩
  have x := ext_upd (o := .lst vs) hp
  have d1 : Dom S1 H1 := fun b hb => o.st.dm b (.inl hb)
  have d2 : Dom S2 H1 := fun b hb => o.st.dm b (.inr hb)
  refine q _ _ (fun b => b = p ∨ S1 b) S2 ⟨?_, ⟨p, vs, rfl, .inl rfl, upd_same, (o.ow.ext x).mono fun b hb => ⟨.inr hb, dom_ne d1 hp b hb⟩⟩, o.rep.ext x, fun _ b h1 h2 => h1.elim (dom_ne d2 hp b h2) fun z => o.dj b z h2, fun z => ⟨fun a u e => x a u ((o.ext z).1 a u e), (o.ext z).2⟩⟩
  have s3 := o.st.trans (Step.ext (S1 := fun b => b = p) x o.st.dm (fun b hb => by rw [show b = p from hb]; exact hp) dom_one)
  exact s3.sub fun b hb => by
    rcases hb with (hb | hb) | hb
    · exact .inl hb
    · exact .inr (.inl hb)
    · exact .inr (.inr hb)⟩

/-! ### built-ins of one argument -/
/-- f(a), f a built-in function | a built-in class -/
theorem j_blt1 {x : Str} {id : String} {p : Pos} {op : D → Option D} {r : List V → Hp → VK → Prop} (hc : CallR X (.builtin id) r) (hg : Gl X x) (hm : X.mg x = none) (hv : bootBuiltins x = some (.builtin id)) (con : Con1 X op fun v H Q => r [v] H Q) (ha : J X W ro own a g)
    (hs : starEach [a] X.env = (false, eval a X.env) :: starEach [] X.env := by rfl) (hpl : (backTo pos (starEach ([] : List Expr) X.env)).any (·.1) = false := by rfl) (hn : x ≠ "__name__" := by decide) (hdb : (x == ("__debug__" : Str)) = false := by decide) :
    J X W ro true (.Call (.Name x p) [a] [] pos) (gOp1 op g) := j_op1 (fun _ ha => pe_callB hc hg hm hv (pa_cons ha pa_nil hs) hn hdb hs hpl) con ha
theorem j_bty1 {x : Str} {id : String} {p : Pos} {op : D → Option D} {r : List V → Hp → VK → Prop} (hc : CallR X (.type id) r) (hg : Gl X x) (hm : X.mg x = none) (hv : bootBuiltins x = some (.type id)) (con : Con1 X op fun v H Q => r [v] H Q) (ha : J X W ro own a g)
    (hs : starEach [a] X.env = (false, eval a X.env) :: starEach [] X.env := by rfl) (hpl : (backTo pos (starEach ([] : List Expr) X.env)).any (·.1) = false := by rfl) (hn : x ≠ "__name__" := by decide) (hdb : (x == ("__debug__" : Str)) = false := by decide) :
    J X W ro true (.Call (.Name x p) [a] [] pos) (gOp1 op g) := j_op1 (fun _ ha => pe_callTy hc hg hm hv (pa_cons ha pa_nil hs) hn hdb hs hpl) con ha


/-! ### len, list, tuple, int, abs, str, max, isinstance, join, all -/
def oLenS (d : D) : Option D := match d with
  | .str z => if z.length ≤ sizeLine then some (.int z.length) else none
  | d => d.items.map fun ds => .int ds.length
theorem con_lenS : Con1 X oLenS (fun v H Q => ∃ x n, [v] = [x] ∧ LenV X.K x H n ∧ Q (.int n) H) := fun H d v S d' o ho Q k => by
  unfold oLenS at ho
  split at ho
  · rename_i z
    split at ho
    · rename_i hz; cases ho; exact ⟨v, z.length, rfl, by rw [show v = .str z from o]; exact ⟨hz, rfl⟩, ans_pure k rfl⟩
    · cases ho
  · obtain ⟨ds, hd, rfl⟩ := Option.map_eq_some_iff.mp ho
    obtain ⟨p, vs, rfl, sq, ol⟩ := own_items (K := X.K) XKf.eq o hd
    refine ⟨_, vs.length, rfl, sq.imp (fun z => ⟨vs, z, rfl⟩) (fun z => ⟨vs, z, rfl⟩), ?_⟩
    rw [ol.length]; exact ans_pure k rfl
theorem j_lenS {p : Pos} (hg : Gl X "len") (hm : X.mg "len" = none) (ha : J X W ro own a g) (hs : starEach [a] X.env = (false, eval a X.env) :: starEach [] X.env := by rfl) : J X W ro true (.Call (.Name "len" p) [a] [] pos) (gOp1 oLenS g) :=
  j_blt1 call_len hg hm boot_len con_lenS ha hs

theorem new_one {H : Hp} {d' : D} {o : HO} {Q : VK} (k : ∀ v' H' S', Ext H H' → Own X.prog X.w H' d' v' S' → (∀ b, S' b → H b = none) → Dom S' H' → Q v' H') {p : Addr} (hp : H p = none) (ow : Own X.prog X.w (upd H p o) d' (.ref p) (fun b => b = p)) : Q (.ref p) (upd H p o) :=
  k _ _ _ (ext_upd hp) ow (fun b hb => by rw [show b = p from hb]; exact hp) dom_one
theorem new_tup {H : Hp} {d' : D} {o : HO} {Q : VK} (k : ∀ v' H' S', Ext H H' → Own X.prog X.w H' d' v' S' → (∀ b, S' b → H b = none) → Dom S' H' → Q v' H') {p : Addr} (hp : H p = none) (ow : Own X.prog X.w (upd H p o) d' (.ref p) (fun _ => False)) : Q (.ref p) (upd H p o) :=
  k _ _ (fun _ => False) (ext_upd hp) ow (fun b hb => hb.elim) fun b hb => hb.elim

def signs (z : Str) : List D := z.cps.toList.map fun c => .str ⟨#[c]⟩
def oList (d : D) : Option D := match d with
  | .str z => if z.length ≤ sizeLine then some (.lst (signs z)) else none
  | d => match d.items with
    | some ds => if D.pures ds = true then some (.lst ds) else none
    | none => none
def rListS : List V → Hp → VK → Prop := fun xs H Q => ∃ z : Str, xs = [.str z] ∧ z.length ≤ sizeLine ∧ ∀ l, H l = none → Q (.ref l) (upd H l (.lst (z.cps.toList.map fun c => V.str ⟨#[c]⟩)))
def rList (K : PySem.W.Frag) : List V → Hp → VK → Prop := fun xs H Q => rListS xs H Q ∨ ∃ p ys, xs = [.ref p] ∧ (SqL K H p ys ∨ SqT K H p ys) ∧ ∀ l, H l = none → Q (.ref l) (upd H l (.lst ys))
theorem pures_signs (z : Str) : D.pures (signs z) = true := pures_all.mpr fun d hd => by
  obtain ⟨c, _, rfl⟩ := List.mem_map.mp hd
  rfl
theorem ownL_map {P : Program} {w : World} [KFr w] {H : Hp} {S : AS} {α : Type} (f : α → D) (f' : α → V) (h : ∀ a, Own P w H (f a) (f' a) (fun _ => False)) : ∀ l : List α, OwnL P w H (l.map f) (l.map f') S
  | [] => rfl
  | a :: l => ⟨_, _, fun _ => False, S, rfl, h a, ownL_map f f' h l, fun _ z => z.elim, fun _ z => z, fun _ z => z.elim⟩
theorem call_listS (hc : X.calm = true) : CallR X (.type "list") rListS := by
  intro pins s σ H xs us Q I r h
  obtain ⟨z, rfl, hz, q⟩ := h
  obtain ⟨u, rfl, t, rfl⟩ := vals1 r
  refine call_list_str (I.ok.hd hc) z t (fun h' tk acc c' k hS it => ?_) hz
  have hn : H s.heap.objs.size = none := I.hok.fresh (Nat.le_refl _)
  refine ⟨.ref s.heap.objs.size, _, I.laid (t' := tk) (o := .lst (z.cps.toList.map fun c => V.str ⟨#[c]⟩)) k (Nat.le_refl _) ⟨?_, acc.toList, c', ?_, by simpa using hS⟩, rfl, q _ hn⟩
  · rw [List.length_map, Array.length_toList]; exact hz
  · refine vals_of_at (by rw [List.length_map, Array.length_toList, Array.length_toList]; exact it.1.symm) fun j x u h1 h2 => ?_
    obtain ⟨c, t', e1, e2⟩ := it.2 j u (by simpa using h2)
    rw [List.getElem?_map, Array.getElem?_toList, e1] at h1
    cases h1
    exact ⟨t', e2⟩
theorem call_listA (hc : X.calm = true) : CallR X (.type "list") (rList X.K) := (call_listS hc).or call_list_of
theorem con_list : Con1 X oList (fun v H Q => rList X.K [v] H Q) := fun H d v S d' o ho Q k => by
  unfold oList at ho
  split at ho
  · rename_i z
    split at ho
    · rename_i hz; cases ho
      refine .inl ⟨z, by rw [show v = .str z from o], hz, fun l hl => new_one k hl (own_lst hl (S := fun _ => False) (ownL_map (fun c => D.str ⟨#[c]⟩) (fun c => V.str ⟨#[c]⟩) (fun _ => rfl) _) (pures_signs z))⟩
    · cases ho
  · split at ho
    · rename_i ds hd
      split at ho
      · rename_i hp; cases ho
        obtain ⟨p, vs, rfl, sq, ol⟩ := own_items (K := X.K) XKf.eq o hd
        exact .inr ⟨p, vs, rfl, sq, fun l hl => new_one k hl (own_lst hl ol hp)⟩
      · cases ho
    · cases ho
theorem j_list {p : Pos} (hc : X.calm = true) (hg : Gl X "list") (hm : X.mg "list" = none) (ha : J X W ro own a g) (hs : starEach [a] X.env = (false, eval a X.env) :: starEach [] X.env := by rfl) : J X W ro true (.Call (.Name "list" p) [a] [] pos) (gOp1 oList g) :=
  j_bty1 (call_listA hc) hg hm (by decide +kernel) con_list ha hs

def oTuple (d : D) : Option D := match d.items with
  | some ds => if D.pures ds = true then some (.tup ds) else none
  | none => none
theorem con_tuple : Con1 X oTuple (fun v H Q => ∃ p ys, [v] = [.ref p] ∧ ((SqL X.K H p ys ∧ ∀ l, H l = none → Q (.ref l) (upd H l (.tup ys))) ∨ (SqT X.K H p ys ∧ Q (.ref p) H))) := fun H d v S d' o ho Q k => by
  unfold oTuple at ho
  split at ho
  · rename_i ds hd
    split at ho
    · rename_i hp; cases ho
      have lists : ∀ {p vs}, v = .ref p → SqL X.K H p vs → OwnL X.prog X.w H ds vs S → ∃ p ys, [v] = [V.ref p] ∧ ((SqL X.K H p ys ∧ ∀ l, H l = none → Q (.ref l) (upd H l (.tup ys))) ∨ (SqT X.K H p ys ∧ Q (.ref p) H)) := fun e sq ol => by
        subst e
        exact ⟨_, _, rfl, .inl ⟨sq, fun l hl => new_tup k hl (own_tup hl ol hp)⟩⟩
      cases d with
      | tup es =>
        cases hd
        obtain ⟨p, vs, rfl, t, ol⟩ := o
        exact ⟨p, vs, rfl, .inr ⟨t.sq, ans_pure k ⟨p, vs, rfl, t, ol.ofPure hp⟩⟩⟩
      | fro es => cases hd; obtain ⟨p, ob, vs, e, t, ol⟩ := o; exact lists e (.inl (.inr ⟨ob, t⟩)) ol
      | lst es => cases hd; obtain ⟨p, vs, e, _, t, ol⟩ := o; exact lists e (SqL.of t) (ol.mono fun b hb => hb.1)
      | lck es => cases hd; obtain ⟨p, vs, e, _, t, ol⟩ := o; exact lists e (SqL.of t) (ol.mono fun b hb => hb.1)
      | _ => cases hd
    · cases ho
  · cases ho
theorem j_tuple {p : Pos} (hg : Gl X "tuple") (hm : X.mg "tuple" = none) (ha : J X W ro own a g) (hs : starEach [a] X.env = (false, eval a X.env) :: starEach [] X.env := by rfl) : J X W ro true (.Call (.Name "tuple" p) [a] [] pos) (gOp1 oTuple g) :=
  j_bty1 call_tuple_of hg hm (by decide +kernel) con_tuple ha hs

def oInt (d : D) : Option D := match d with
  | .int i => some (.int i)
  | .bl b => some (.int (if b then 1 else 0))
  | _ => none
theorem con_int : Con1 X oInt (fun v H Q => (∃ i, [v] = [.int i] ∧ Q (.int i) H) ∨ ∃ k, [v] = [.bl k] ∧ Q (.int (if k then 1 else 0)) H) := fun H d v S d' o ho Q k => by
  unfold oInt at ho
  split at ho
  · cases ho; exact .inl ⟨_, by rw [show v = .int _ from o], ans_pure k rfl⟩
  · cases ho; exact .inr ⟨_, by rw [show v = .bl _ from o], ans_pure k rfl⟩
  · cases ho
theorem j_int1 {p : Pos} (hg : Gl X "int") (hm : X.mg "int" = none) (ha : J X W ro own a g) (hs : starEach [a] X.env = (false, eval a X.env) :: starEach [] X.env := by rfl) : J X W ro true (.Call (.Name "int" p) [a] [] pos) (gOp1 oInt g) :=
  j_bty1 call_int1 hg hm (by decide +kernel) con_int ha hs
def oAbs (d : D) : Option D := match d with
  | .int i => some (.int (if i < 0 then -i else i))
  | _ => none
theorem con_abs : Con1 X oAbs (fun v H Q => ∃ i, [v] = [.int i] ∧ Q (.int (if i < 0 then -i else i)) H) := fun H d v S d' o ho Q k => by
  unfold oAbs at ho
  split at ho
  · cases ho; exact ⟨_, by rw [show v = .int _ from o], ans_pure k rfl⟩
  · cases ho
theorem j_abs {p : Pos} (hg : Gl X "abs") (hm : X.mg "abs" = none) (ha : J X W ro own a g) (hs : starEach [a] X.env = (false, eval a X.env) :: starEach [] X.env := by rfl) : J X W ro true (.Call (.Name "abs" p) [a] [] pos) (gOp1 oAbs g) :=
  j_blt1 call_abs hg hm (by decide +kernel) con_abs ha hs
def oStr (d : D) : Option D := match d with
  | .int i => if i.natAbs.log2 < 1920 then some (.str (toString i)) else none
  | _ => none
theorem con_str : Con1 X oStr (fun v H Q => ∃ i, [v] = [.int i] ∧ i.natAbs.log2 < 1920 ∧ Q (.str (toString i)) H) := fun H d v S d' o ho Q k => by
  unfold oStr at ho
  split at ho
  · split at ho
    · cases ho; exact ⟨_, by rw [show v = .int _ from o], by assumption, ans_pure k rfl⟩
    · cases ho
  · cases ho
theorem j_str1 {p : Pos} (hg : Gl X "str") (hm : X.mg "str" = none) (ha : J X W ro own a g) (hs : starEach [a] X.env = (false, eval a X.env) :: starEach [] X.env := by rfl) : J X W ro true (.Call (.Name "str" p) [a] [] pos) (gOp1 oStr g) :=
  j_bty1 call_str_int hg hm (by decide +kernel) con_str ha hs
end
end DV
set_option Elab.async false
set_option linter.all false
set_option maxRecDepth 100000
set_option maxHeartbeats 1000000
namespace DV
open PySem PySem.Spec PyProof.Rows L2

/-! ### keys and dicts as data -/
section
variable {α : Type}
def dget : List D → List α → D → Option α
  | k' :: ks, d :: ds, k => if k' = k then some d else dget ks ds k
  | _, _, _ => none
def dset : List D → List α → D → α → List α
  | k' :: ks, d :: ds, k, v => if k' = k then v :: ds else d :: dset ks ds k v
  | _, ds, _, _ => ds
theorem dset_length : ∀ (ks : List D) (ds : List α) (k : D) (v : α), (dset ks ds k v).length = ds.length
  | [], ds, k, v => rfl
  | _ :: _, [], k, v => rfl
  | k' :: ks, d :: ds, k, v => by
    rw [dset]
    split
    · rfl
    · rw [List.length_cons, List.length_cons, dset_length ks ds k v]
theorem dget_isSome {β : Type} : ∀ {ks : List D} {ds : List α} {vs : List β} {k : D}, ds.length = ks.length → vs.length = ks.length → (dget ks ds k).isSome = (dget ks vs k).isSome
  | [], _, _, _, _, _ => by cases ‹List α› <;> cases ‹List β› <;> rfl
  | k' :: ks, d :: ds, v :: vs, k, h1, h2 => by
    rw [dget, dget]
    split
    · rfl
    · exact dget_isSome (by simpa using h1) (by simpa using h2)
  | k' :: ks, [], _, _, h1, _ => by simp at h1
  | k' :: ks, _ :: _, [], _, _, h2 => by simp at h2
end

section
variable {P : Program} {w : World} [KFr w] {H H' : Hp}
theorem OwnL.dget : ∀ {ks ds : List D} {vs : List V} {S : AS} {k d : D}, OwnL P w H ds vs S → dget ks ds k = some d → ∃ v S1, DV.dget ks vs k = some v ∧ Own P w H d v S1 ∧ ∀ b, S1 b → S b
  | [], _, _, _, _, _, _, h => by cases ‹List D› <;> cases h
  | k' :: ks, [], _, _, _, _, _, h => by cases h
  | k' :: ks, d0 :: ds, vs, S, k, d, ⟨v, vr, S1, S2, e, o1, o2, k1, k2, dj⟩, h => by
    subst e
    rw [DV.dget] at h ⊢
    by_cases hk : k' = k
    · rw [if_pos hk] at h ⊢
      cases h
      exact ⟨v, S1, rfl, o1, k1⟩
    · rw [if_neg hk] at h ⊢
      obtain ⟨v', S', e', o', k''⟩ := OwnL.dget o2 h
      exact ⟨v', S', e', o', fun b hb => k2 b (k'' b hb)⟩
/-- a value replaced -/
theorem OwnL.dset : ∀ {ks ds : List D} {vs : List V} {S T : AS} {k d : D} {v : V}, OwnL P w H ds vs S → Own P w H d v T → (∀ b, T b → S b → False) → OwnL P w H (dset ks ds k d) (DV.dset ks vs k v) (fun b => T b ∨ S b)
  | [], ds, vs, S, T, k, d, v, h, _, _ => by
    have : OwnL P w H ds vs (fun b => T b ∨ S b) := h.mono fun b hb => .inr hb
    cases ds <;> cases vs <;> exact this
  | k' :: ks, [], vs, S, T, k, d, v, h, _, _ => by rw [show vs = [] from h]; rfl
  | k' :: ks, d0 :: ds, vs, S, T, k, d, v, ⟨v0, vr, S1, S2, e, o1, o2, k1, k2, dj⟩, o, dt => by
    subst e
    rw [DV.dset, DV.dset]
    by_cases hk : k' = k
    · rw [if_pos hk, if_pos hk]
      exact ⟨v, vr, T, S2, rfl, o, o2, fun b hb => .inl hb, fun b hb => .inr (k2 b hb), fun b h1 h2 => dt b h1 (k2 b h2)⟩
    · rw [if_neg hk, if_neg hk]
      exact ⟨v0, _, S1, fun b => T b ∨ S2 b, rfl, o1, OwnL.dset o2 o (fun b h1 h2 => dt b h1 (k2 b h2)), fun b hb => .inr (k1 b hb), fun b hb => hb.imp id (k2 b), fun b h1 h2 => h2.elim (fun z => dt b z (k1 b h1)) (fun z => dj b h1 z)⟩
theorem OwnL.snoc : ∀ {ds : List D} {vs : List V} {S T : AS} {d : D} {v : V}, OwnL P w H ds vs S → Own P w H d v T → (∀ b, T b → S b → False) → OwnL P w H (ds ++ [d]) (vs ++ [v]) (fun b => T b ∨ S b)
  | [], vs, S, T, d, v, h, o, _ => by rw [show vs = [] from h]; exact ⟨v, [], T, S, rfl, o, rfl, fun b hb => .inl hb, fun b hb => .inr hb, by assumption⟩
  | d0 :: ds, vs, S, T, d, v, ⟨v0, vr, S1, S2, e, o1, o2, k1, k2, dj⟩, o, dt => by
    subst e
    exact ⟨v0, vr ++ [v], S1, fun b => T b ∨ S2 b, rfl, o1, OwnL.snoc o2 o (fun b h1 h2 => dt b h1 (k2 b h2)), fun b hb => .inr (k1 b hb), fun b hb => hb.imp id (k2 b), fun b h1 h2 => h2.elim (fun z => dt b z (k1 b h1)) (fun z => dj b h1 z)⟩

theorem D.tkey_key {d : D} {k : NestedKey} (h : d.tkey = some k) : d.key = some k ∧ k.depth ≤ 8 := by
  cases d with
  | tup ds =>
    rw [D.tkey, Option.bind_eq_some_iff] at h
    obtain ⟨ks, e, h⟩ := h
    split at h
    · rename_i hd
      cases h
      exact ⟨by rw [D.key, e]; rfl, hd⟩
    · cases h
  | _ => cases h
theorem D.tkey_inj {a b : D} {k : NestedKey} (h1 : a.tkey = some k) (h2 : b.tkey = some k) : a = b := D.key_inj (D.tkey_key h1).1 (D.tkey_key h2).1
theorem D.atom_inj {a b : D} {k : Key} (h1 : a.atom = some k) (h2 : b.atom = some k) : a = b := by
  cases a <;> cases b <;> simp [D.atom] at h1 h2 <;> subst h1 <;> simp at h2 <;> rw [h2]
theorem D.atom_v {d : D} {k : Key} {v : V} {S : AS} (o : Own P w H d v S) (h : d.atom = some k) : v = kV k := by
  cases d with
  | int i => cases h; exact o
  | str x => cases h; exact o
  | _ => cases h

/-- looked up by places -/
theorem valV_dget : ∀ {ks : List D} {kvs : List (Key × V)} {d : D} {k : Key}, ks.map D.atom = kvs.map (fun p => some p.1) → d.atom = some k → valV kvs k = dget ks (kvs.map (·.2)) d
  | [], [], _, _, _, _ => rfl
  | [], _ :: _, _, _, h, _ => by simp at h
  | _ :: _, [], _, _, h, _ => by simp at h
  | k' :: ks, p :: kvs, d, k, h, hd => by
    simp only [List.map_cons, List.cons.injEq] at h
    rw [List.map_cons, dget]
    by_cases e : k' = d
    · subst e
      rw [h.1] at hd
      rw [if_pos rfl, valV_pos (Option.some.inj hd)]
    · rw [if_neg e, valV_neg (fun q => e (D.atom_inj (by rw [h.1, q]) hd))]
      exact valV_dget h.2 hd
def eget (es : List (NestedKey × Addr × V)) (k : NestedKey) : Option V := (es.find? fun x => decide (x.1 = k)).map (·.2.2)
theorem eget_dget : ∀ {ks : List D} {es : List (NestedKey × Addr × V)} {d : D} {k : NestedKey}, ks.map D.tkey = es.map (fun p => some p.1) → d.tkey = some k → eget es k = dget ks (es.map (·.2.2)) d
  | [], [], _, _, _, _ => rfl
  | [], _ :: _, _, _, h, _ => by simp at h
  | _ :: _, [], _, _, h, _ => by simp at h
  | k' :: ks, p :: es, d, k, h, hd => by
    simp only [List.map_cons, List.cons.injEq] at h
    rw [List.map_cons, dget]
    unfold eget
    rw [List.find?_cons]
    by_cases e : k' = d
    · subst e
      rw [h.1] at hd
      rw [if_pos rfl, show decide (p.1 = k) = true from decide_eq_true (Option.some.inj hd)]
      rfl
    · rw [if_neg e, show decide (p.1 = k) = false from decide_eq_false (fun q => e (D.tkey_inj (by rw [h.1, q]) hd))]
      exact eget_dget h.2 hd

/-- at b: a tuple that is the key k -/
def NKey (P : Program) (w : World) [KFr w] (H : Hp) (b : Addr) (k : NestedKey) : Prop := ∃ d S, Own P w H d (.ref b) S ∧ d.tkey = some k
def KeysIn (P : Program) (w : World) [KFr w] (H : Hp) (es : List (NestedKey × Addr × V)) : Prop := ∀ e ∈ es, NKey P w H e.2.1 e.1
mutual
theorem own_nested {h : Heap} (ok : HOk P w H h) (ki : (KFr.kfr w).In h) : ∀ {d : D} {v : V} {u : Value} {S : AS} {k : NestedKey}, Own P w H d v S → RelV v u → d.key = some k → NestedIs h k u
  | .non, v, u, S, k, o, r, e => by
    cases e
    rw [show v = .non from o] at r
    cases r
    exact .none
  | .int i, v, u, S, k, o, r, e => by
    cases e
    rw [show v = .int i from o] at r
    obtain ⟨t, rfl⟩ := r
    exact .int i t
  | .str x, v, u, S, k, o, r, e => by
    cases e
    rw [show v = .str x from o] at r
    obtain ⟨t, rfl⟩ := r
    exact .text x t
  | .tup ds, v, u, S, k, ⟨a, vs, ev, ht, ol⟩, r, e => by
    rw [D.key, Option.map_eq_some_iff] at e
    obtain ⟨ks, e1, rfl⟩ := e
    subst ev
    cases r
    rcases ht with ht | ⟨ob, its, n, h1, h2, h3, _, rv⟩
    · obtain ⟨_, its, rv, ob, h1, h2, n, h3⟩ := (show ObjOk P w H h a (.tup vs) from ok a _ ht)
      exact .tup h1 h2 h3 (by simpa using own_nesteds ok ki ol rv e1)
    · exact .tup (ki a ob h1) h2 h3 (own_nesteds ok ki ol rv e1)
  | .bl _, _, _, _, _, _, _, e => by simp [D.key] at e
  | .fro _, _, _, _, _, _, _, e => by simp [D.key] at e
  | .lst _, _, _, _, _, _, _, e => by simp [D.key] at e
  | .lck _, _, _, _, _, _, _, e => by simp [D.key] at e
  | .dic _ _, _, _, _, _, _, _, e => by simp [D.key] at e
  | .dlk _ _, _, _, _, _, _, _, e => by simp [D.key] at e
theorem own_nesteds {h : Heap} (ok : HOk P w H h) (ki : (KFr.kfr w).In h) : ∀ {ds : List D} {vs : List V} {us : List Value} {S : AS} {ks : List NestedKey}, OwnL P w H ds vs S → Vals vs us → D.keys ds = some ks → NestedAll h ks us
  | [], vs, us, S, ks, o, r, e => by
    cases e
    rw [show vs = [] from o] at r
    cases r
    exact .nil
  | d :: ds, vs, us, S, ks, ⟨v, vr, S1, S2, ev, o1, o2, _⟩, r, e => by
    subst ev
    cases r with
    | cons r1 r2 =>
      rw [D.keys] at e
      split at e
      · rename_i k1 k2 e1 e2
        cases e
        exact .cons (own_nested ok ki o1 r1 e1) (own_nesteds ok ki o2 r2 e2)
      · cases e
end
theorem nkey_is {h : Heap} (ok : HOk P w H h) (ki : (KFr.kfr w).In h) {b : Addr} {k : NestedKey} (n : NKey P w H b k) : (nestedKind P w).is h k b := by
  obtain ⟨d, S, o, e⟩ := n
  obtain ⟨e1, e2⟩ := D.tkey_key e
  exact ⟨own_nested ok ki o rfl e1, e2⟩

abbrev EV : List (NestedKey × Addr × V) → List (NestedKey × Addr × Value) → Prop := Paired fun (p : NestedKey × Addr × V) (q : NestedKey × Addr × Value) => p.1 = q.1 ∧ p.2.1 = q.2.1 ∧ RelV p.2.2 q.2.2
theorem EV.get : ∀ {es : List (NestedKey × Addr × V)} {xs : List (NestedKey × Addr × Value)}, EV es xs → ∀ k, RelO (eget es k) ((atKey xs k).map (·.2))
  | _, _, .nil, k => trivial
  | p :: ps, q :: qs, .cons r t, k => by
    unfold eget atKey
    rw [List.find?_cons, List.find?_cons, ← r.1]
    by_cases e : p.1 = k
    · rw [show decide (p.1 = k) = true from decide_eq_true e]; exact r.2.2
    · rw [show decide (p.1 = k) = false from decide_eq_false e]; exact EV.get t k
theorem EV.keys {h : Heap} (ok : HOk P w H h) (ki : (KFr.kfr w).In h) : ∀ {es : List (NestedKey × Addr × V)} {xs : List (NestedKey × Addr × Value)}, EV es xs → KeysIn P w H es → ∀ x ∈ xs, (nestedKind P w).is h x.1 x.2.1
  | _, _, .nil, _ => fun x hx => nomatch hx
  | p :: ps, q :: qs, .cons r t, k => fun x hx => by
    rcases List.mem_cons.mp hx with e | hx
    · subst e
      rw [← r.1, ← r.2.1]
      exact nkey_is ok ki (k p (List.mem_cons_self ..))
    · exact EV.keys ok ki t (fun e he => k e (List.mem_cons_of_mem _ he)) x hx
/-- a dict with tuples for keys, or an empty one -/
def DN (P : Program) (w : World) [KFr w] (H : Hp) (a : Addr) (es : List (NestedKey × Addr × V)) : Prop := Rd H a (dN P w a es) ∨ (es = [] ∧ Rd H a (.dK []))
theorem dn_rd {h : Heap} {a : Addr} {es : List (NestedKey × Addr × V)} (ok : HOk P w H h) (ki : (KFr.kfr w).In h) (e : DN P w H a es) (k : KeysIn P w H es) : (a == sysModules) = false ∧ es.length ≤ sizeLine ∧ ∃ xs, EV es xs ∧ h.DictOfH (nestedKind P w) a xs := by
  rcases e with e | ⟨rfl, e⟩
  · obtain ⟨y, z, xs, r, o, es', ep, h1, h2, h3, h4, h5⟩ := (e.ok ok).1
    exact ⟨y, z, xs, r, o, es', ep, h1, h2, h3, h4, EV.keys ok ki r k, h5⟩
  · obtain ⟨z, hd, vs, rel, o, es', ep, h1, h2, h3, _, h4, h5⟩ := dk_rd ok e
    cases rel
    have e0 : es'.toList = [] := by
      have := h4.length
      exact List.length_eq_zero_iff.mp this
    exact ⟨hd, Nat.zero_le _, [], .nil, o, es', ep, h1, h2, h3, e0, (fun x hx => (nomatch hx)), List.nodup_nil⟩

/-- what the dict at a holds at the key y -/
def DGetN (P : Program) (w : World) [KFr w] (H : Hp) (a : Addr) (y : V) (r : Option V) : Prop :=
  DGet H a y r ∨ ∃ es k b, DN P w H a es ∧ KeysIn P w H es ∧ y = .ref b ∧ NKey P w H b k ∧ r = eget es k
end

section
variable {X : Cx} [KFr X.w] [XKf X] {pins : List (Addr × Obj)} {σ : L2.St} {H : Hp} {s : Shared} {a : Addr} {y v : V} {u r : Value} {o : Option V} {A : Around} {E : Value → Shared → Prop}
theorem dN_getItem {Q : Value → Shared → Prop} (hu : A.units + 16 < cLine) (I : Inv X pins σ H s) (g : DGetN X.prog X.w H a y (some v)) (ry : RelV y u) (h : ∀ w' s', Inv X pins σ H s' → RelV v w' → Q w' s') :
    s.TypeIs (.ref a) "dict" ∧ wpAny (model X.prog X.w) A (getItem (.ref a) u) Q E s := by
  rcases g with g | ⟨es, k, b, e, ks, ey, nk, l⟩
  · exact ⟨dict_typeIs I g, d_getItem (by omega) I g ry h⟩
  · subst ey
    cases (show u = Value.ref b from ry)
    obtain ⟨hd, z, xs, rel, dd⟩ := dn_rd I.hok (kin I) e ks
    obtain ⟨w', hw, rw'⟩ := RelO.some_of (v := v) (o := (atKey xs k).map (·.2)) (by rw [l]; exact rel.get k)
    obtain ⟨p, hp, hp2⟩ := Option.map_eq_some_iff.mp hw
    refine ⟨dd.typeIs, wpAny_getItem_heap (knd := nestedKind X.prog X.w) (by show A.units + 1 + 8 < cLine; omega) (nkey_is I.hok (kin I) nk) dd hp ?_⟩
    rw [hp2]
    exact h w' _ (I.tok _) rw'
theorem dN_in {Q : Value → Shared → Prop} (hu : A.units + 16 < cLine) (I : Inv X pins σ H s) (g : DGetN X.prog X.w H a y o) (ry : RelV y u) (h : ∀ s', Inv X pins σ H s' → Q (.bool o.isSome) s') :
    wpAny (model X.prog X.w) A (compareOp .In u (.ref a)) Q E s := by
  rcases g with g | ⟨es, k, b, e, ks, ey, nk, l⟩
  · exact d_in (by omega) I g ry h
  · subst ey
    cases (show u = Value.ref b from ry)
    obtain ⟨hd, z, xs, rel, dd⟩ := dn_rd I.hok (kin I) e ks
    refine wpAny_in_heap (knd := nestedKind X.prog X.w) (by show A.units + 1 + 8 < cLine; omega) (nkey_is I.hok (kin I) nk) hd dd ?_
    have q := (rel.get k).isSome_eq
    rw [Option.isSome_map] at q
    rw [← q, ← l]
    exact h _ (I.tok _)
theorem dN_notIn {Q : Value → Shared → Prop} (hu : A.units + 16 < cLine) (I : Inv X pins σ H s) (g : DGetN X.prog X.w H a y o) (ry : RelV y u) (h : ∀ s', Inv X pins σ H s' → Q (.bool (!o.isSome)) s') :
    wpAny (model X.prog X.w) A (compareOp .NotIn u (.ref a)) Q E s := by
  rcases g with g | ⟨es, k, b, e, ks, ey, nk, l⟩
  · exact d_notIn (by omega) I g ry h
  · subst ey
    cases (show u = Value.ref b from ry)
    obtain ⟨hd, z, xs, rel, dd⟩ := dn_rd I.hok (kin I) e ks
    refine wpAny_notIn_heap (knd := nestedKind X.prog X.w) (by show A.units + 1 + 8 < cLine; omega) (nkey_is I.hok (kin I) nk) hd dd ?_
    have q := (rel.get k).isSome_eq
    rw [Option.isSome_map] at q
    rw [← q, ← l]
    exact h _ (I.tok _)
/-- the subscript's tail of a dict -/
theorem tail_dict {value slice : Expr} {ov iv : Value} {Q : Value → Shared → Prop} (hs : subscripted slice false ov iv = operate [ov, iv] (getItem ov iv)) (hT : s.TypeIs ov "dict") (h : wpAny (model X.prog X.w) A (getItem ov iv) Q E s) :
    wpAny (model X.prog X.w) A (subscriptTail value slice ov iv) Q E s := by
  unfold subscriptTail
  refine wpAny_bind ?_
  rw [getitemInPython_of_ne hT.not_modules]
  refine wpAny_bind (wpAny_specialOf hT PySem.F.slot_dict_getitem.lookup ?_)
  have fin : wpAny (model X.prog X.w) A (subscripted slice false ov iv) (fun r s₃ => wpAny (model X.prog X.w) A (letTemporaryGo value ov r >>= fun _ => pure r) Q E s₃) E s := by
    rw [hs]
    exact wpAny_operating (wpAny_mono h (fun r s₃ h₃ => wpAny_bind (wpAny_letTemporaryGo (wpAny_pure h₃))) fun _ _ x => x)
  first
    | exact wpAny_pure (wpAny_bind fin)
    | exact wpAny_bind (wpAny_pure (wpAny_bind fin))
    | exact wpAny_bind fin
def rDGet (P : Program) (w : World) [KFr w] : R2 := fun x y H Q => ∃ a v, x = .ref a ∧ DGetN P w H a y (some v) ∧ Q v H
theorem ix_dict (hu : X.A.units + 64 < cLine) : IxR X (rDGet X.prog X.w) := by
  intro value slice pins s σ H x y v u Q I rx ry h hs
  obtain ⟨a, z, rfl, g, q⟩ := h
  obtain rfl : v = .ref a := rx
  obtain ⟨hT, hw⟩ := dN_getItem (E := X.xe) (Q := EP X pins σ Q) (A := X.A) (by omega) I g ry fun w' s3 I3 rw' => ⟨z, H, I3, rw', q⟩
  exact tail_dict hs hT hw
def rDIn (P : Program) (w : World) [KFr w] (neg : Bool) : R2 := fun x y H Q => ∃ a o, y = .ref a ∧ DGetN P w H a x o ∧ Q (.bl (if neg then !o.isSome else o.isSome)) H
theorem op_in_dict (hu : X.A.units + 64 < cLine) : OpR X (compareOp .In) (rDIn X.prog X.w false) := by
  intro pins s σ H x y v u Q I rx ry h
  obtain ⟨a, o, rfl, g, q⟩ := h
  obtain rfl : u = .ref a := ry
  exact dN_in (by omega) I g rx fun s3 I3 => ⟨.bl o.isSome, H, I3, rfl, q⟩
theorem op_notIn_dict (hu : X.A.units + 64 < cLine) : OpR X (compareOp .NotIn) (rDIn X.prog X.w true) := by
  intro pins s σ H x y v u Q I rx ry h
  obtain ⟨a, o, rfl, g, q⟩ := h
  obtain rfl : u = .ref a := ry
  exact dN_notIn (by omega) I g rx fun s3 I3 => ⟨.bl (!o.isSome), H, I3, rfl, q⟩
end

/-! ### the readings of a dict's data -/
section
variable {P : Program} {w : World} [KFr w] {H : Hp}
theorem keysIn_of : ∀ {ks : List D} {es : List (NestedKey × Addr × V)}, ks.map D.tkey = es.map (fun p => some p.1) → OwnL P w H ks (es.map fun p => V.ref p.2.1) (fun _ => False) → KeysIn P w H es
  | [], [], _, _ => fun e he => nomatch he
  | [], _ :: _, h, _ => by simp at h
  | _ :: _, [], h, _ => by simp at h
  | k :: ks, p :: es, h, ⟨v, vr, S1, S2, e, o1, o2, _, k2, _⟩ => fun x hx => by
    simp only [List.map_cons, List.cons.injEq] at h e
    rcases List.mem_cons.mp hx with q | hx
    · subst q
      exact ⟨k, S1, by rw [e.1]; exact o1, h.1⟩
    · exact keysIn_of h.2 (by rw [e.2]; exact o2.mono k2) x hx
def D.hk (d : D) : Bool := d.atom.isSome || d.tkey.isSome
/-- what a dict's data say of a key is what the dict holds -/
theorem dic_get {o : HO} {a : Addr} {ks : List D} {kv vs : List V} {k : D} {y : V} {S : AS} (e : Rd H a o) (q : DicAt P w o a ks kv vs) (ok : OwnL P w H ks kv (fun _ => False)) (oy : Own P w H k y S) (hk : k.hk = true) (hm : ∀ x ∈ ks, x.atom.isSome = k.atom.isSome) : DGetN P w H a y (dget ks vs k) := by
  rcases q.2 with ⟨kvs, rfl, rfl, rfl, hks⟩ | ⟨es, rfl, hne, rfl, rfl, hks⟩
  · cases ha : k.atom with
    | some key =>
      left; left
      exact ⟨kvs, key, e, D.atom_v oy ha, (valV_dget hks ha).symm⟩
    | none =>
      cases ks with
      | nil =>
        cases kvs with
        | nil =>
          unfold D.hk at hk
          rw [ha, Option.isSome_none, Bool.false_or] at hk
          obtain ⟨nk, hn⟩ := Option.isSome_iff_exists.mp hk
          cases k with
          | tup ds =>
            obtain ⟨b, vb, rfl, hb, ob⟩ := oy
            exact .inr ⟨[], nk, b, .inr ⟨rfl, e⟩, (fun e he => (nomatch he)), rfl, ⟨.tup ds, S, ⟨b, vb, rfl, hb, ob⟩, hn⟩, rfl⟩
          | _ => cases hn
        | cons p kvs => simp at hks
      | cons x xs =>
        cases kvs with
        | nil => simp at hks
        | cons p kvs =>
          simp only [List.map_cons, List.cons.injEq] at hks
          have h1 := hm x (List.mem_cons_self ..)
          rw [hks.1, ha] at h1
          cases h1
  · cases ks with
    | nil => cases es <;> simp at hks hne
    | cons x xs =>
      have h1 := hm x (List.mem_cons_self ..)
      have hx : x.tkey.isSome = true := by
        cases es with
        | nil => simp at hks
        | cons p es => simp only [List.map_cons, List.cons.injEq] at hks; rw [hks.1]; rfl
      have hxa : x.atom = none := by cases x <;> first | rfl | cases hx
      rw [hxa] at h1
      have ha : k.atom = none := by cases q : k.atom with | none => rfl | some z => rw [q] at h1; cases h1
      unfold D.hk at hk
      rw [ha, Option.isSome_none, Bool.false_or] at hk
      obtain ⟨nk, hn⟩ := Option.isSome_iff_exists.mp hk
      cases k with
      | tup ds =>
        obtain ⟨b, vb, rfl, hb, ob⟩ := oy
        exact .inr ⟨es, nk, b, .inl e, keysIn_of hks ok, rfl, ⟨.tup ds, S, ⟨b, vb, rfl, hb, ob⟩, hn⟩, (eget_dget hks hn).symm⟩
      | _ => cases hn

/-! ### d[k] = v -/
def dput (ks ds : List D) (k v : D) : List D × List D := if (dget ks ds k).isSome then (ks, dset ks ds k v) else (ks ++ [k], ds ++ [v])
def eput (es : List (NestedKey × Addr × V)) (k : NestedKey) (b : Addr) (v : V) : List (NestedKey × Addr × V) :=
  if (eget es k).isSome then es.map (fun x => if x.1 = k then (x.1, x.2.1, v) else x) else es ++ [(k, b, v)]
theorem eput_length (es : List (NestedKey × Addr × V)) (k : NestedKey) (b : Addr) (v : V) : (eput es k b v).length ≤ es.length + 1 := by
  unfold eput
  split
  · rw [List.length_map]; omega
  · rw [List.length_append, List.length_singleton]; omega
theorem EV.rep (k : NestedKey) {v : V} {u : Value} (rv : RelV v u) : ∀ {es : List (NestedKey × Addr × V)} {xs : List (NestedKey × Addr × Value)}, EV es xs → EV (es.map (fun x => if x.1 = k then (x.1, x.2.1, v) else x)) (xs.map (putAt k u))
  | _, _, .nil => .nil
  | p :: ps, q :: qs, .cons h t => by
    rw [List.map_cons, List.map_cons]
    refine .cons ?_ (EV.rep k rv t)
    unfold putAt
    rw [← h.1]
    by_cases e : p.1 = k
    · rw [if_pos e, if_pos e]; exact ⟨rfl, h.2.1, rv⟩
    · rw [if_neg e, if_neg e]; exact h
theorem EV.put {es : List (NestedKey × Addr × V)} {xs : List (NestedKey × Addr × Value)} (r : EV es xs) (k : NestedKey) {b : Addr} {v : V} {u : Value} (rv : RelV v u) : EV (eput es k b v) (storedH xs k b u) := by
  have q := (r.get k).isSome_eq
  rw [Option.isSome_map] at q
  unfold eput storedH
  rw [q]
  split
  · exact EV.rep k rv r
  · exact Paired.snoc r ⟨rfl, rfl, rv⟩
/-- the object behind a[y] = v -/
def DPutN (P : Program) (w : World) [KFr w] (H : Hp) (a : Addr) (y v : V) (o' : HO) : Prop :=
  (∃ kvs k, H a = some (.dK kvs) ∧ y = kV k ∧ kvs.length < sizeLine ∧ o' = .dK (putK kvs k v)) ∨
  ∃ es k b, (H a = some (dN P w a es) ∨ (es = [] ∧ H a = some (.dK []))) ∧ KeysIn P w H es ∧ y = .ref b ∧ NKey P w H b k ∧ es.length < sizeLine ∧ o' = dN P w a (eput es k b v)
theorem dN_setItem {X : Cx} [KFr X.w] [XKf X] {pins : List (Addr × Obj)} {σ : L2.St} {H : Hp} {s : Shared} {a : Addr} {y v : V} {u r : Value} {o' : HO} {A : Around} {E : Value → Shared → Prop} {Q : Unit → Shared → Prop} (hu : A.units + 16 < cLine) (I : Inv X pins σ H s) (g : DPutN X.prog X.w H a y v o') (ry : RelV y u) (rv : RelV v r)
    (h : ∀ s', Inv X pins σ (upd H a o') s' → Q () s') : wpAny (model X.prog X.w) A (setItem (.ref a) u r) Q E s := by
  rcases g with ⟨kvs, k, e, ey, l, rfl⟩ | ⟨es, k, b, e, ks, ey, nk, l, rfl⟩
  · subst ey
    exact d_setItem (by omega) I (DPut.k e l) ry rv h
  · subst ey
    cases (show u = Value.ref b from ry)
    have e' : DN X.prog X.w H a es := e.imp .inl fun z => ⟨z.1, .inl z.2⟩
    obtain ⟨hd, z, xs, rel, dd⟩ := dn_rd I.hok (kin I) e' ks
    have hz : xs.length ≤ sizeLine := by rw [← Paired.length rel]; exact z
    have hl : (eput es k b v).length ≤ sizeLine := by have := eput_length es k b v; omega
    refine wpAny_setItem_heap (knd := nestedKind X.prog X.w) (hsz := hz) (by show A.units + 1 + 8 < cLine; omega) (nkey_is I.hok (kin I) nk) dd fun h' dd' hs => h _ ?_
    obtain ⟨q, es', ep, hq, h2, h3, h4, _, h5⟩ := dd'
    have mu : Mut (H a) := by
      rcases e with e | ⟨_, e⟩
      · rw [e]; exact True.intro
      · rw [e]; exact True.intro
    refine d_write I mu hs ⟨q, hq⟩ ?_
    have φ : ∃ xs', EV (eput es k b v) xs' ∧ ∃ o es'' ep', h'.get? a = some o ∧ o.ExactDict ∧ o.data = .dict es'' ep' ∧ es''.toList = xs'.map (entryOfKey (nestedKind X.prog X.w)) ∧ (xs'.map (·.1)).Nodup := ⟨_, rel.put k rv, q, es', ep, hq, h2, h3, h4, h5⟩
    exact ⟨⟨hd, hl, φ⟩, ⟨q, hq⟩, fun h1 h2 ⟨y1, y2, xs2, rl, o2, f1, f2, g1, g2⟩ kp => ⟨y1, y2, xs2, rl, o2, f1, f2, kp _ g1, g2⟩⟩
section
variable {P : Program} {w : World} [KFr w] {H : Hp}
theorem valV_isSome {kvs : List (Key × V)} {k : Key} : (kvs.any fun kv => decide (kv.1 = k)) = (valV kvs k).isSome := valV_any k kvs
theorem putK_dset : ∀ {ks : List D} {kvs : List (Key × V)} {d : D} {k : Key} {v : V}, ks.map D.atom = kvs.map (fun p => some p.1) → (kvs.map (·.1)).Nodup → d.atom = some k →
    (kvs.map fun kv => if kv.1 = k then (kv.1, v) else kv).map (·.2) = dset ks (kvs.map (·.2)) d v
  | [], [], _, _, _, _, _, _ => rfl
  | [], _ :: _, _, _, _, h, _, _ => by simp at h
  | _ :: _, [], _, _, _, h, _, _ => by simp at h
  | k' :: ks, p :: kvs, d, k, v, h, hn, hd => by
    simp only [List.map_cons, List.cons.injEq] at h
    rw [List.map_cons, List.nodup_cons] at hn
    simp only [List.map_cons]
    rw [dset]
    by_cases e : k' = d
    · subst e
      rw [h.1] at hd
      have hk : p.1 = k := Option.some.inj hd
      rw [if_pos rfl, if_pos hk]
      congr 1
      have same : ∀ q ∈ kvs, (if q.1 = k then (q.1, v) else q) = q := fun q hq => if_neg fun z => hn.1 (List.mem_map.mpr ⟨q, hq, by rw [z, hk]⟩)
      rw [List.map_congr_left (g := id) same, List.map_id]
    · have hk : ¬ p.1 = k := fun q => e (D.atom_inj (by rw [h.1, q]) hd)
      rw [if_neg e, if_neg hk]
      congr 1
      exact putK_dset h.2 hn.2 hd
theorem mem_keys {α : Type} {f : D → Option α} {β : Type} {k : β → α} : ∀ {ks : List D} {l : List β} {a : α}, ks.map f = l.map (fun p => some (k p)) → a ∈ l.map k → ∃ d ∈ ks, f d = some a
  | [], [], _, _, h => by simp at h
  | [], _ :: _, _, h, _ => by simp at h
  | _ :: _, [], _, h, _ => by simp at h
  | d :: ks, p :: l, a, h, hm => by
    simp only [List.map_cons, List.cons.injEq] at h
    rw [List.map_cons] at hm
    rcases List.mem_cons.mp hm with e | hm
    · exact ⟨d, List.mem_cons_self .., by rw [e]; exact h.1⟩
    · obtain ⟨d', h1, h2⟩ := mem_keys h.2 hm
      exact ⟨d', List.mem_cons_of_mem _ h1, h2⟩
theorem nodup_keys {α : Type} {f : D → Option α} (inj : ∀ {a b : D} {k : α}, f a = some k → f b = some k → a = b) {β : Type} {k : β → α} : ∀ {ks : List D} {l : List β}, ks.map f = l.map (fun p => some (k p)) → ks.Nodup → (l.map k).Nodup
  | [], [], _, _ => List.nodup_nil
  | [], _ :: _, h, _ => by simp at h
  | _ :: _, [], h, _ => by simp at h
  | d :: ks, p :: l, h, hn => by
    simp only [List.map_cons, List.cons.injEq] at h
    rw [List.nodup_cons] at hn
    rw [List.map_cons, List.nodup_cons]
    refine ⟨fun hm => ?_, nodup_keys inj h.2 hn.2⟩
    obtain ⟨d', h1, h2⟩ := mem_keys h.2 hm
    rw [inj h.1 h2] at hn
    exact hn.1 h1
theorem eput_dset : ∀ {ks : List D} {es : List (NestedKey × Addr × V)} {d : D} {k : NestedKey} {v : V}, ks.map D.tkey = es.map (fun p => some p.1) → ks.Nodup → d.tkey = some k →
    (es.map fun x => if x.1 = k then (x.1, x.2.1, v) else x).map (·.2.2) = dset ks (es.map (·.2.2)) d v
  | [], [], _, _, _, _, _, _ => rfl
  | [], _ :: _, _, _, _, h, _, _ => by simp at h
  | _ :: _, [], _, _, _, h, _, _ => by simp at h
  | k' :: ks, p :: es, d, k, v, h, hn, hd => by
    simp only [List.map_cons, List.cons.injEq] at h
    rw [List.nodup_cons] at hn
    simp only [List.map_cons]
    rw [dset]
    by_cases e : k' = d
    · subst e
      have hk : p.1 = k := by rw [h.1] at hd; exact Option.some.inj hd
      rw [if_pos rfl, if_pos hk]
      congr 1
      have same : ∀ q ∈ es, (if q.1 = k then (q.1, q.2.1, v) else q) = q := fun q hq => if_neg fun z => by
        obtain ⟨d', h1, h2⟩ := mem_keys (k := fun p : NestedKey × Addr × V => p.1) h.2 (List.mem_map.mpr ⟨q, hq, rfl⟩)
        rw [z] at h2
        rw [D.tkey_inj hd h2] at hn
        exact hn.1 h1
      rw [List.map_congr_left (g := id) same, List.map_id]
    · have hk : ¬ p.1 = k := fun q => e (D.tkey_inj (by rw [h.1, q]) hd)
      rw [if_neg e, if_neg hk]
      congr 1
      exact eput_dset h.2 hn.2 hd
theorem map_rep_key {k : Key} {v : V} (kvs : List (Key × V)) {β : Type} (f : Key → β) : (kvs.map fun kv => if kv.1 = k then (kv.1, v) else kv).map (fun p => f p.1) = kvs.map fun p => f p.1 := by
  rw [List.map_map]
  refine List.map_congr_left fun p _ => ?_
  show f (if p.1 = k then (p.1, v) else p).1 = f p.1
  split <;> rfl
theorem map_rep_ekey {k : NestedKey} {v : V} (es : List (NestedKey × Addr × V)) {β : Type} (f : NestedKey → Addr → β) : (es.map fun x => if x.1 = k then (x.1, x.2.1, v) else x).map (fun p => f p.1 p.2.1) = es.map fun p => f p.1 p.2.1 := by
  rw [List.map_map]
  refine List.map_congr_left fun p _ => ?_
  show f (if p.1 = k then (p.1, p.2.1, v) else p).1 (if p.1 = k then (p.1, p.2.1, v) else p).2.1 = _
  split <;> rfl
/-- what the keys are of -/
def sameSort (ks : List D) (k : D) : Bool := ks.all fun x => x.atom.isSome == k.atom.isSome
mutual
theorem key_pure : ∀ {d : D} {k : NestedKey}, d.key = some k → d.pure = true
  | .non, _, _ => rfl
  | .int _, _, _ => rfl
  | .str _, _, _ => rfl
  | .tup ds, k, h => by
    rw [D.key, Option.map_eq_some_iff] at h
    obtain ⟨ks, e, _⟩ := h
    rw [D.pure]; exact keys_pure e
  | .bl _, _, h => by simp [D.key] at h
  | .fro _, _, h => by simp [D.key] at h
  | .lst _, _, h => by simp [D.key] at h
  | .lck _, _, h => by simp [D.key] at h
  | .dic _ _, _, h => by simp [D.key] at h
  | .dlk _ _, _, h => by simp [D.key] at h
theorem keys_pure : ∀ {ds : List D} {k : List NestedKey}, D.keys ds = some k → D.pures ds = true
  | [], _, _ => rfl
  | d :: ds, k, h => by
    rw [D.keys] at h
    split at h
    · rename_i k1 k2 e1 e2
      rw [D.pures, key_pure e1, keys_pure e2]; rfl
    · cases h
end
theorem hk_pure {d : D} (h : d.hk = true) : d.pure = true := by
  unfold D.hk at h
  cases d with
  | int _ => rfl
  | str _ => rfl
  | tup ds =>
    obtain ⟨k, hk⟩ := Option.isSome_iff_exists.mp (show (D.tkey (.tup ds)).isSome = true from h)
    exact key_pure (D.tkey_key hk).1
  | _ => cases h
theorem not_mem_of_dget {ks : List D} {vs : List V} {k : D} (hv : vs.length = ks.length) (z : (dget ks vs k).isSome = false) : k ∉ ks := by
  induction ks generalizing vs with
  | nil => exact fun h => nomatch h
  | cons x xs ih =>
    cases vs with
    | nil => simp at hv
    | cons u us =>
      rw [dget] at z
      by_cases ex : x = k
      · rw [if_pos ex] at z; cases z
      · rw [if_neg ex] at z
        intro hmem
        rcases List.mem_cons.mp hmem with r | r
        · exact ex r.symm
        · exact ih (by simpa using hv) z r
theorem snoc_nodup {ks : List D} {k : D} (h : ks.Nodup) (n : k ∉ ks) : (ks ++ [k]).Nodup := by
  rw [List.nodup_append]
  refine ⟨h, by simp, fun x hx y hy => ?_⟩
  rw [List.mem_singleton.mp hy]
  rintro rfl
  exact n hx
theorem dic_put {o : HO} {a : Addr} {ks : List D} {kv vs : List V} {k : D} {y v : V} {S : AS} (e : H a = some o) (q : DicAt P w o a ks kv vs) (ok : OwnL P w H ks kv (fun _ => False)) (oy : Own P w H k y S) (hk : k.hk = true) (hm : sameSort ks k = true) (hl : ks.length < sizeLine) (hv : vs.length = ks.length) :
    ∃ o', DPutN P w H a y v o' ∧ ∃ kv', DicAt P w o' a (if (dget ks vs k).isSome then ks else ks ++ [k]) kv' (if (dget ks vs k).isSome then dset ks vs k v else vs ++ [v]) ∧
      OwnL P w H (if (dget ks vs k).isSome then ks else ks ++ [k]) kv' (fun _ => False) := by
  have okk : OwnL P w H (ks ++ [k]) (kv ++ [y]) (fun _ => False) := (OwnL.snoc ok (oy.ofPure (S' := fun _ => False) (hk_pure hk)) (fun b z => z.elim)).mono fun b hb => hb.elim id id
  -- by an atom, by a tuple
  have tuples : ∀ (nk : NestedKey), k.tkey = some nk → ∀ es : List (NestedKey × Addr × V), (H a = some (dN P w a es) ∨ (es = [] ∧ H a = some (.dK []))) → es.map (·.2.2) = vs → es.map (fun p => V.ref p.2.1) = kv → ks.map D.tkey = es.map (fun p => some p.1) →
      ∃ o', DPutN P w H a y v o' ∧ ∃ kv', DicAt P w o' a (if (dget ks vs k).isSome then ks else ks ++ [k]) kv' (if (dget ks vs k).isSome then dset ks vs k v else vs ++ [v]) ∧ OwnL P w H (if (dget ks vs k).isSome then ks else ks ++ [k]) kv' (fun _ => False) := by
    intro nk hn es he h1 h2 h3
    subst h1 h2
    cases k with
    | tup ds =>
      obtain ⟨b, vb, rfl, hb, ob⟩ := oy
      have hlen : es.length < sizeLine := by rw [List.length_map] at hv; omega
      refine ⟨_, .inr ⟨es, nk, b, he, keysIn_of h3 ok, rfl, ⟨.tup ds, S, ⟨b, vb, rfl, hb, ob⟩, hn⟩, hlen, rfl⟩, ?_⟩
      have eg := eget_dget h3 hn
      cases z : (dget ks (es.map (·.2.2)) (.tup ds)).isSome with
      | true =>
        have ne : es ≠ [] := by
          rintro rfl
          cases ks <;> cases z
        simp only [if_true]
        refine ⟨es.map (fun p => V.ref p.2.1), ⟨q.1, .inr ⟨_, rfl, ?_, ?_, ?_, ?_⟩⟩, ok⟩
        · unfold eput; rw [eg, z]; simpa using ne
        · unfold eput; rw [eg, z]; exact eput_dset h3 q.1 hn
        · unfold eput; rw [eg, z]; exact map_rep_ekey es fun _ b => V.ref b
        · unfold eput; rw [eg, z, h3]; exact (map_rep_ekey es fun k _ => some k).symm
      | false =>
        simp only [Bool.false_eq_true, if_false]
        refine ⟨es.map (fun p => V.ref p.2.1) ++ [.ref b], ⟨snoc_nodup q.1 (not_mem_of_dget hv z), .inr ⟨_, rfl, ?_, ?_, ?_, ?_⟩⟩, okk⟩
        · unfold eput; rw [eg, z]; simp
        · unfold eput; rw [eg, z]; simp
        · unfold eput; rw [eg, z]; simp
        · unfold eput; rw [eg, z]; simp [h3, hn]
    | _ => cases hn
  cases ha : k.atom with
  | some key =>
    rcases q.2 with ⟨kvs, rfl, rfl, rfl, hks⟩ | ⟨es, rfl, hne, rfl, rfl, hks⟩
    · have vg := valV_dget hks ha
      have hlen : kvs.length < sizeLine := by rw [List.length_map] at hv; omega
      refine ⟨_, .inl ⟨kvs, key, e, D.atom_v oy ha, hlen, rfl⟩, ?_⟩
      have hany : (kvs.any fun kv => decide (kv.1 = key)) = (dget ks (kvs.map (·.2)) k).isSome := by rw [valV_any, vg]
      cases z : (dget ks (kvs.map (·.2)) k).isSome with
      | true =>
        rw [z] at hany
        simp only [if_true]
        refine ⟨kvs.map (fun p => kV p.1), ⟨q.1, .inl ⟨_, rfl, ?_, ?_, ?_⟩⟩, ok⟩
        · unfold putK; rw [hany]; exact putK_dset hks (nodup_keys (k := fun p : Key × V => p.1) D.atom_inj hks q.1) ha
        · unfold putK; rw [hany]; exact map_rep_key kvs fun k => kV k
        · unfold putK; rw [hany, hks]; exact (map_rep_key kvs fun k => some k).symm
      | false =>
        rw [z] at hany
        simp only [Bool.false_eq_true, if_false]
        have hy : y = kV key := D.atom_v oy ha
        refine ⟨kvs.map (fun p => kV p.1) ++ [y], ⟨snoc_nodup q.1 (not_mem_of_dget hv z), .inl ⟨_, rfl, ?_, ?_, ?_⟩⟩, okk⟩
        · unfold putK; rw [hany]; simp
        · unfold putK; rw [hany]; simp [hy]
        · unfold putK; rw [hany]; simp [hks, ha]
    · cases ks with
      | nil => cases es <;> simp at hks hne
      | cons x xs =>
        unfold sameSort at hm
        rw [List.all_cons, Bool.and_eq_true, ha] at hm
        have hx : x.tkey.isSome = true := by
          cases es with
          | nil => simp at hks
          | cons p es => simp only [List.map_cons, List.cons.injEq] at hks; rw [hks.1]; rfl
        have hxa : x.atom = none := by cases x <;> first | rfl | cases hx
        rw [hxa] at hm
        cases hm.1
  | none =>
    have hk' := hk
    unfold D.hk at hk'
    rw [ha, Option.isSome_none, Bool.false_or] at hk'
    obtain ⟨nk, hn⟩ := Option.isSome_iff_exists.mp hk'
    rcases q.2 with ⟨kvs, rfl, rfl, rfl, hks⟩ | ⟨es, rfl, hne, rfl, rfl, hks⟩
    · cases ks with
      | nil =>
        cases kvs with
        | nil => exact tuples nk hn [] (.inr ⟨rfl, e⟩) rfl rfl rfl
        | cons p kvs => simp at hks
      | cons x xs =>
        unfold sameSort at hm
        rw [List.all_cons, Bool.and_eq_true, ha] at hm
        cases kvs with
        | nil => simp at hks
        | cons p kvs =>
          simp only [List.map_cons, List.cons.injEq] at hks
          rw [hks.1] at hm
          cases hm.1
    · exact tuples nk hn es (.inl e) rfl rfl hks
end
end
end DV
set_option Elab.async false
set_option linter.all false
set_option maxRecDepth 100000
set_option maxHeartbeats 1000000
namespace DV
open PySem PySem.Spec PyProof.Rows L2

section
variable {X : Cx} [KFr X.w] [XKf X] {W : WX} {ro own own' : Bool} {a b c e : Expr} {es rest : List Expr} {pos : Pos} {g h : Rho → Res (D × Rho)}

/-! ### items of anything -/
def D.dict : D → Option (List D × List D)
  | .dic ks ds => some (ks, ds)
  | .dlk ks ds => some (ks, ds)
  | _ => none
/-- what a dict's data is read from -/
theorem own_dict {P : Program} {w : World} [KFr w] {H : Hp} {d : D} {ks ds : List D} {v : V} {S : AS} (o : Own P w H d v S) (h : d.dict = some (ks, ds)) : ∃ a ob kv vs, v = .ref a ∧ Rd H a ob ∧ DicAt P w ob a ks kv vs ∧ OwnL P w H ks kv (fun _ => False) ∧ OwnL P w H ds vs S := by
  cases d with
  | dic k e => cases h; obtain ⟨a, ob, kv, vs, e, _, t, q, ok, od⟩ := o; exact ⟨a, ob, kv, vs, e, .inl t, q, ok, od.mono fun b hb => hb.1⟩
  | dlk k e => cases h; obtain ⟨a, ob, oo, kv, vs, e, t, q, ok, od⟩ := o; exact ⟨a, ob, kv, vs, e, .inr ⟨_, t⟩, q, ok, od.mono fun b hb => hb.1⟩
  | _ => cases h
theorem same_iff {ks : List D} {k : D} (h : sameSort ks k = true) : ∀ x ∈ ks, x.atom.isSome = k.atom.isSome := fun x hx => by
  unfold sameSort at h
  exact beq_iff_eq.mp (List.all_eq_true.mp h x hx)
def oGet (d k : D) : Option D := match d.dict with
  | some (ks, ds) => if k.hk = true ∧ sameSort ks k = true then dget ks ds k else none
  | none => oIdx d k
def rIxA (P : Program) (w : World) [KFr w] (K : PySem.W.Frag) : R2 := fun x y H Q => rIx K x y H Q ∨ rDGet P w x y H Q
theorem ix_all (hu : X.A.units + 64 < cLine) : IxR X (rIxA X.prog X.w X.K) := ix_seq.or (ix_dict hu)
theorem con_get : Con2B X oGet (rIxA X.prog X.w X.K) := fun H d e v u S T d' o1 o2 ho Q k => by
  unfold oGet at ho
  split at ho
  · rename_i ks ds hd
    split at ho
    · rename_i hc
      obtain ⟨a, ob, kv, vs, rfl, rd, q, ok, od⟩ := own_dict o1 hd
      obtain ⟨v', S1, hv, ow, sb⟩ := od.dget ho
      have g := dic_get rd q ok o2 hc.1 (same_iff hc.2)
      rw [hv] at g
      exact .inr ⟨a, v', rfl, g, k v' S1 ow sb⟩
    · cases ho
  · exact .inl (con_idx H d e v u S T d' o1 o2 ho Q k)
/-- a[b], the index only reads -/
theorem j_get (hu : X.A.units + 64 < cLine) (ha : J X W ro own a g) (hb : J X W true true b h) (hs : PlainIx b) : J X W ro own (.Subscript a b pos) (gOp2 oGet g h) := j_op2B (fun _ _ ha hb => pe_ix (ix_all hu) ha hb hs) con_get ha hb
/-- x[b], the index may change x -/
theorem j_getV {i : Nat} {x : Str} {p : Pos} (hu : X.A.units + 64 < cLine) (hN : X.N[i]? = some x) (hv : Vis X.env.scope x) (hb : J X W ro true b h) (hs : PlainIx b) (hd : (x == ("__debug__" : Str)) = false := by decide) (hcd : (x == ("__classdict__" : Str)) = false := by decide) :
    J X W ro false (.Subscript (.Name x p) b pos) (gOpV oGet i h) := j_opV hN hv (fun _ _ ha hb => pe_ix (ix_all hu) ha hb hs) con_get hb hd hcd
/-- a[b], a owned while the index comes: the items have no boxes -/
def oGetP (d k : D) : Option D := match oGet d k with
  | some d' => if d'.pure = true then some d' else none
  | none => none
theorem con_getP : Con2 X oGetP (rIxA X.prog X.w X.K) := fun H d e v u S T d' o1 o2 ho Q k => by
  unfold oGetP at ho
  split at ho
  · rename_i x hx
    split at ho
    · rename_i hp
      cases ho
      exact con_get H d e v u S T d' o1 o2 hx Q fun v' S' ow sb => k v' H (fun _ => False) (fun _ _ e => e) (ow.ofPure hp) (fun _ z => z.elim) fun _ z => z.elim
    · cases ho
  · cases ho
theorem j_getP (hu : X.A.units + 64 < cLine) (ha : J X W ro true a g) (hb : J X W ro own' b h) (hs : PlainIx b) : J X W ro true (.Subscript a b pos) (gOp2 oGetP g h) := j_op2 (fun _ _ ha hb => pe_ix (ix_all hu) ha hb hs) con_getP ha hb

/-! ### in, not in -/
def oIn (neg : Bool) (x c : D) : Option D := match c.dict with
  | some (ks, ds) => if x.hk = true ∧ sameSort ks x = true ∧ ds.length = ks.length then some (.bl (if neg then !decide (x ∈ ks) else decide (x ∈ ks))) else none
  | none => match c.items with
    | some ds => if ds.all (fun d => d.atom.isSome) = true ∧ x.atom.isSome = true then some (.bl (if neg then !decide (x ∈ ds) else decide (x ∈ ds))) else none
    | none => none
theorem dget_mem {α : Type} : ∀ {ks : List D} {ds : List α} {k : D}, ds.length = ks.length → (dget ks ds k).isSome = decide (k ∈ ks)
  | [], ds, k, h => by cases ds <;> first | rfl | simp at h
  | x :: xs, [], k, h => by simp at h
  | x :: xs, d :: ds, k, h => by
    rw [dget]
    by_cases e : x = k
    · rw [if_pos e]; simp [e]
    · rw [if_neg e, dget_mem (by simpa using h)]
      have e' : ¬ k = x := fun q => e q.symm
      simp [e']
theorem atom_flat {P : Program} {w : World} [KFr w] {H : Hp} {d : D} {v : V} {S : AS} (o : Own P w H d v S) (h : d.atom.isSome = true) : flatV v = true := by
  cases d with
  | int i => rw [show v = .int i from o]; rfl
  | str x => rw [show v = .str x from o]; rfl
  | _ => cases h
theorem atom_eqV {P : Program} {w : World} [KFr w] {H : Hp} {d e : D} {v u : V} {S T : AS} (o1 : Own P w H d v S) (o2 : Own P w H e u T) (h1 : d.atom.isSome = true) (h2 : e.atom.isSome = true) : eqV v u = decide (d = e) := by
  cases d with
  | int i =>
    rw [show v = .int i from o1]
    cases e with
    | int j => rw [show u = .int j from o2]; show (i == j) = _; rw [Bool.eq_iff_iff]; simp
    | str y => rw [show u = .str y from o2]; simp [eqV]
    | _ => cases h2
  | str x =>
    rw [show v = .str x from o1]
    cases e with
    | int j => rw [show u = .int j from o2]; simp [eqV]
    | str y => rw [show u = .str y from o2]; show (x == y) = _; rw [Bool.eq_iff_iff]; simp
    | _ => cases h2
  | _ => cases h1
theorem atoms_flat {P : Program} {w : World} [KFr w] {H : Hp} : ∀ {ds : List D} {vs : List V} {S : AS}, OwnL P w H ds vs S → ds.all (fun d => d.atom.isSome) = true → vs.all flatV = true
  | [], vs, S, o, _ => by rw [show vs = [] from o]; rfl
  | d :: ds, vs, S, ⟨v, vr, S1, S2, e, o1, o2, _⟩, h => by
    rw [List.all_cons, Bool.and_eq_true] at h
    rw [e, List.all_cons, atom_flat o1 h.1, atoms_flat o2 h.2]
    rfl
theorem atoms_in {P : Program} {w : World} [KFr w] {H : Hp} {x : D} {u : V} {T : AS} (ox : Own P w H x u T) (hx : x.atom.isSome = true) : ∀ {ds : List D} {vs : List V} {S : AS}, OwnL P w H ds vs S → ds.all (fun d => d.atom.isSome) = true → inV u vs = decide (x ∈ ds)
  | [], vs, S, o, _ => by rw [show vs = [] from o]; rfl
  | d :: ds, vs, S, ⟨v, vr, S1, S2, e, o1, o2, _⟩, h => by
    rw [List.all_cons, Bool.and_eq_true] at h
    have ih := atoms_in ox hx o2 h.2
    unfold inV at ih ⊢
    rw [e, List.any_cons, ih, atom_eqV o1 ox h.1 hx]
    by_cases q : d = x
    · simp [q]
    · have q' : ¬ x = d := fun z => q z.symm
      simp [q, q']
def rInA (P : Program) (w : World) [KFr w] (K : PySem.W.Frag) (neg : Bool) : R2 := fun x y H Q => rIn K neg x y H Q ∨ rDIn P w neg x y H Q
theorem op_inA (hu : X.A.units + 64 < cLine) : OpR X (compareOp .In) (rInA X.prog X.w X.K false) := op_in_seq.or (op_in_dict hu)
theorem op_notInA (hu : X.A.units + 64 < cLine) : OpR X (compareOp .NotIn) (rInA X.prog X.w X.K true) := op_notIn_seq.or (op_notIn_dict hu)
theorem con_in (neg : Bool) : Con2 X (oIn neg) (rInA X.prog X.w X.K neg) := fun H d e v u S T d' o1 o2 ho Q k => by
  unfold oIn at ho
  split at ho
  · rename_i ks ds hd
    split at ho
    · rename_i hc
      cases ho
      obtain ⟨a, ob, kv, vs, rfl, rd, q, ok, od⟩ := own_dict o2 hd
      have g := dic_get rd q ok o1 hc.1 (same_iff hc.2.1)
      have hl : vs.length = ks.length := by rw [od.length, hc.2.2]
      refine .inr ⟨a, _, rfl, g, ?_⟩
      rw [dget_mem hl]
      exact ans_pure k rfl
    · cases ho
  · split at ho
    · rename_i ds hd
      split at ho
      · rename_i hc
        cases ho
        obtain ⟨p, vs, rfl, sq, ol⟩ := own_items (K := X.K) XKf.eq o2 hd
        refine .inl ⟨p, vs, rfl, sq, atom_flat o1 hc.2, atoms_flat ol hc.1, ?_⟩
        rw [atoms_in o1 hc.2 ol hc.1]
        exact ans_pure k rfl
      · cases ho
    · cases ho
theorem j_in (hu : X.A.units + 64 < cLine) (ha : J X W ro true a g) (hb : J X W ro own' b h) (hm : behindInMarks .In b = false := by rfl) : J X W ro true (.Compare a [.In] [b] pos) (gOp2 (oIn false) g h) := j_op2 (fun _ _ ha hb => pe_cmpR (op_inA hu) ha hb hm) (con_in _) ha hb
theorem j_notIn (hu : X.A.units + 64 < cLine) (ha : J X W ro true a g) (hb : J X W ro own' b h) (hm : behindInMarks .NotIn b = false := by rfl) : J X W ro true (.Compare a [.NotIn] [b] pos) (gOp2 (oIn true) g h) := j_op2 (fun _ _ ha hb => pe_cmpR (op_notInA hu) ha hb hm) (con_in _) ha hb
theorem jt_in (hu : X.A.units + 64 < cLine) (ha : J X W ro true a g) (hb : J X W ro own' b h) (hm : behindInMarks .In b = false := by rfl) : JT X W (.Compare a [.In] [b] pos) (gTest (gOp2 (oIn false) g h)) := jt_op2 (fun _ _ ha hb => pt_cmpR (op_inA hu) ha hb hm) (con_in _) ha hb
theorem jt_notIn (hu : X.A.units + 64 < cLine) (ha : J X W ro true a g) (hb : J X W ro own' b h) (hm : behindInMarks .NotIn b = false := by rfl) : JT X W (.Compare a [.NotIn] [b] pos) (gTest (gOp2 (oIn true) g h)) := jt_op2 (fun _ _ ha hb => pt_cmpR (op_notInA hu) ha hb hm) (con_in _) ha hb

/-! ### len -/
def oLen (d : D) : Option D := match d.dict with
  | some (ks, _) => some (.int ks.length)
  | none => oLenS d
def rLenD (P : Program) (w : World) [KFr w] : List V → Hp → VK → Prop := fun xs H Q => ∃ a, xs = [.ref a] ∧ ((∃ kvs, Rd H a (.dK kvs) ∧ Q (.int (kvs.length : Nat)) H) ∨ ∃ es, Rd H a (dN P w a es) ∧ KeysIn P w H es ∧ Q (.int (es.length : Nat)) H)
theorem call_lenD : CallR X (.builtin "len") (rLenD X.prog X.w) := by
  intro pins s σ H xs us Q I r h
  obtain ⟨a, rfl, h⟩ := h
  obtain ⟨u, rfl, rx⟩ := vals1 r
  obtain rfl : u = .ref a := rx
  rcases h with ⟨kvs, e, q⟩ | ⟨es, e, ks, q⟩
  · exact d_len I e fun t s' I' => ⟨.int (kvs.length : Nat), H, I', ⟨t, rfl⟩, q⟩
  · obtain ⟨hd, z, xs, rel, dd⟩ := dn_rd I.hok (kin I) (.inl e) ks
    have hl := Paired.length rel
    refine call_len_dictH (knd := nestedKind X.prog X.w) hd dd (by rw [← hl]; rw [sizeLine_eq] at z; omega) ?_
    exact ⟨.int (es.length : Nat), H, I.tok _, ⟨_, by rw [hl]⟩, q⟩
def rLenA (P : Program) (w : World) [KFr w] (K : PySem.W.Frag) : List V → Hp → VK → Prop := fun xs H Q => (∃ x n, xs = [x] ∧ LenV K x H n ∧ Q (.int n) H) ∨ rLenD P w xs H Q
theorem call_lenA : CallR X (.builtin "len") (rLenA X.prog X.w X.K) := call_len.or call_lenD
theorem con_len : Con1 X oLen (fun v H Q => rLenA X.prog X.w X.K [v] H Q) := fun H d v S d' o ho Q k => by
  unfold oLen at ho
  split at ho
  · rename_i ks ds hd
    cases ho
    obtain ⟨a, ob, kv, vs, rfl, rd, q, ok, od⟩ := own_dict o hd
    refine .inr ⟨a, rfl, ?_⟩
    rcases q.2 with ⟨kvs, rfl, _, _, hks⟩ | ⟨es, rfl, _, _, hkv, hks⟩
    · have hl := congrArg List.length hks
      simp only [List.length_map] at hl
      exact .inl ⟨kvs, rd, by rw [← hl]; exact ans_pure k rfl⟩
    · have hl := congrArg List.length hks
      simp only [List.length_map] at hl
      subst hkv
      exact .inr ⟨es, rd, keysIn_of hks ok, by rw [← hl]; exact ans_pure k rfl⟩
  · exact .inl (con_lenS H d v S d' o ho Q k)
theorem j_len {p : Pos} (hg : Gl X "len") (hm : X.mg "len" = none) (ha : J X W ro own a g) (hs : starEach [a] X.env = (false, eval a X.env) :: starEach [] X.env := by rfl) : J X W ro true (.Call (.Name "len" p) [a] [] pos) (gOp1 oLen g) :=
  j_blt1 call_lenA hg hm boot_len con_len ha hs

/-! ### isinstance(a, T), T a built-in class -/
def D.ty : D → Option String
  | .non => some "NoneType"
  | .bl _ => some "bool"
  | .int _ => some "int"
  | .str _ => some "str"
  | .tup _ => some "tuple"
  | .fro _ | .lst _ | .lck _ => some "list"
  | _ => none
def oIsi (T : String) (d : D) : Option D := match d.ty with
  | some t => (kitB t T).map .bl
  | none => none
theorem own_ty {P : Program} {w : World} [KFr w] {K : PySem.W.Frag} {H : Hp} {d : D} {v : V} {S : AS} {t : String} (hK : KFr.kfr w = K) (o : Own P w H d v S) (h : d.ty = some t) : TyX K H v (.type t) := by
  cases d with
  | non => cases h; rw [show v = .non from o]; exact .base .non
  | bl b => cases h; rw [show v = .bl b from o]; exact .base (.bl b)
  | int i => cases h; rw [show v = .int i from o]; exact .base (.int i)
  | str x => cases h; rw [show v = .str x from o]; exact .base (.str x)
  | tup ds =>
    cases h
    obtain ⟨a, vs, rfl, t, _⟩ := o
    rcases t with t | ⟨ob, its, n, hk, hc, _⟩
    · exact .base (.tup t)
    · exact .kTuple (by rw [← hK]; exact hk) hc
  | fro ds => cases h; obtain ⟨a, ob, vs, rfl, t, _⟩ := o; exact .base (.frz t)
  | lst ds => cases h; obtain ⟨a, vs, rfl, _, t, _⟩ := o; exact .base (.lst t)
  | lck ds => cases h; obtain ⟨a, vs, rfl, _, t, _⟩ := o; exact .base (.lst t)
  | _ => cases h
theorem con_isi (T : String) : Con1 X (oIsi T) (fun v H Q => rIsi X.K [v, .ty T] H Q) := fun H d v S d' o ho Q k => by
  unfold oIsi at ho
  split at ho
  · rename_i t ht
    obtain ⟨b, hb, rfl⟩ := Option.map_eq_some_iff.mp ho
    exact ⟨v, .ty T, .type t, .type T, b, rfl, .ty T, own_ty XKf.eq o ht, kit_ty hb, ans_pure k rfl⟩
  · cases ho
theorem j_isi {T : String} {p p2 : Pos} {t : Str} (hg : Gl X "isinstance") (hm : X.mg "isinstance" = none) (gt : Gl X t) (mt : X.mg t = none) (bt : bootBuiltins t = some (.type T)) (ha : J X W ro own a g)
    (hn : t ≠ "__name__" := by decide) (hd : (t == ("__debug__" : Str)) = false := by decide)
    (hs : starEach (a :: [.Name t p2]) X.env = (false, eval a X.env) :: starEach [.Name t p2] X.env := by rfl) (hs2 : starEach [.Name t p2] X.env = (false, eval (.Name t p2) X.env) :: starEach [] X.env := by rfl) (hpl : (backTo pos (starEach [.Name t p2] X.env)).any (·.1) = false := by rfl) :
    J X W ro true (.Call (.Name "isinstance" p) [a, .Name t p2] [] pos) (gOp1 (oIsi T) g) :=
  j_op1 (fun _ ha => pe_callB call_isi hg hm (by decide +kernel) (pa_cons ha (pa_cons (pe_bltn (v := .ty T) gt mt bt rfl hn hd) pa_nil hs2) hs) (by decide) (by decide) hs hpl) (con_isi T) ha

/-! ### sep.join(texts), all, max -/
def D.strs : List D → Option (List Str)
  | [] => some []
  | .str x :: ds => (D.strs ds).map (x :: ·)
  | _ :: _ => none
def D.ints : List D → Option (List Int)
  | [] => some []
  | .int x :: ds => (D.ints ds).map (x :: ·)
  | _ :: _ => none
def D.bools : List D → Option (List Bool)
  | [] => some []
  | .bl x :: ds => (D.bools ds).map (x :: ·)
  | _ :: _ => none
theorem own_strs {P : Program} {w : World} [KFr w] {H : Hp} : ∀ {ds : List D} {vs : List V} {S : AS} {ys : List Str}, OwnL P w H ds vs S → D.strs ds = some ys → vs = ys.map V.str
  | [], vs, S, ys, o, h => by cases h; exact o
  | .str x :: ds, vs, S, ys, ⟨v, vr, S1, S2, e, o1, o2, _⟩, h => by
    rw [D.strs, Option.map_eq_some_iff] at h
    obtain ⟨zs, h1, rfl⟩ := h
    rw [e, show v = .str x from o1, own_strs o2 h1]
    rfl
  | .non :: _, _, _, _, _, h => nomatch h
  | .bl _ :: _, _, _, _, _, h => nomatch h
  | .int _ :: _, _, _, _, _, h => nomatch h
  | .tup _ :: _, _, _, _, _, h => nomatch h
  | .fro _ :: _, _, _, _, _, h => nomatch h
  | .lst _ :: _, _, _, _, _, h => nomatch h
  | .lck _ :: _, _, _, _, _, h => nomatch h
  | .dic _ _ :: _, _, _, _, _, h => nomatch h
  | .dlk _ _ :: _, _, _, _, _, h => nomatch h
theorem own_ints {P : Program} {w : World} [KFr w] {H : Hp} : ∀ {ds : List D} {vs : List V} {S : AS} {ys : List Int}, OwnL P w H ds vs S → D.ints ds = some ys → vs = ys.map V.int
  | [], vs, S, ys, o, h => by cases h; exact o
  | .int x :: ds, vs, S, ys, ⟨v, vr, S1, S2, e, o1, o2, _⟩, h => by
    rw [D.ints, Option.map_eq_some_iff] at h
    obtain ⟨zs, h1, rfl⟩ := h
    rw [e, show v = .int x from o1, own_ints o2 h1]
    rfl
  | .non :: _, _, _, _, _, h => nomatch h
  | .bl _ :: _, _, _, _, _, h => nomatch h
  | .str _ :: _, _, _, _, _, h => nomatch h
  | .tup _ :: _, _, _, _, _, h => nomatch h
  | .fro _ :: _, _, _, _, _, h => nomatch h
  | .lst _ :: _, _, _, _, _, h => nomatch h
  | .lck _ :: _, _, _, _, _, h => nomatch h
  | .dic _ _ :: _, _, _, _, _, h => nomatch h
  | .dlk _ _ :: _, _, _, _, _, h => nomatch h
theorem own_bools {P : Program} {w : World} [KFr w] {H : Hp} : ∀ {ds : List D} {vs : List V} {S : AS} {ys : List Bool}, OwnL P w H ds vs S → D.bools ds = some ys → vs = ys.map V.bl
  | [], vs, S, ys, o, h => by cases h; exact o
  | .bl x :: ds, vs, S, ys, ⟨v, vr, S1, S2, e, o1, o2, _⟩, h => by
    rw [D.bools, Option.map_eq_some_iff] at h
    obtain ⟨zs, h1, rfl⟩ := h
    rw [e, show v = .bl x from o1, own_bools o2 h1]
    rfl
  | .non :: _, _, _, _, _, h => nomatch h
  | .int _ :: _, _, _, _, _, h => nomatch h
  | .str _ :: _, _, _, _, _, h => nomatch h
  | .tup _ :: _, _, _, _, _, h => nomatch h
  | .fro _ :: _, _, _, _, _, h => nomatch h
  | .lst _ :: _, _, _, _, _, h => nomatch h
  | .lck _ :: _, _, _, _, _, h => nomatch h
  | .dic _ _ :: _, _, _, _, _, h => nomatch h
  | .dlk _ _ :: _, _, _, _, _, h => nomatch h
def oJoin (sep d : D) : Option D := match sep, d.items with
  | .str a, some ds => match D.strs ds with
    | some ys => if (ys.map (·.length)).sum + ys.length * a.length ≤ 16777216 then some (.str (Txt.join a ys)) else none
    | none => none
  | _, _ => none
def rJoin (K : PySem.W.Frag) : R2 := fun x y H Q => (∃ a, x = .str a) ∧ ∃ a p, ∃ ys : List Str, x = .str a ∧ [y] = [.ref p] ∧ (SqL K H p (ys.map V.str) ∨ SqT K H p (ys.map V.str)) ∧ (ys.map (·.length)).sum + ys.length * a.length ≤ 16777216 ∧ Q (.str (Txt.join a ys)) H
end
end DV
set_option Elab.async false
set_option linter.all false
set_option maxRecDepth 100000
set_option maxHeartbeats 1000000
namespace DV
open PySem PySem.Spec PyProof.Rows L2

/-! ### statements -/
inductive Fl where
  | next | brk | cont
  | ret (d : D)
def Kept (kp : List Nat) (σ σ' : L2.St) : Prop := σ'.length = σ.length ∧ ∀ i ∈ kp, σ'[i]? = σ[i]?
theorem Kept.refl {kp : List Nat} {σ : L2.St} : Kept kp σ σ := ⟨rfl, fun _ _ => rfl⟩
theorem Kept.trans {kp : List Nat} {σ σ1 σ2 : L2.St} (a : Kept kp σ σ1) (b : Kept kp σ1 σ2) : Kept kp σ σ2 := ⟨b.1.trans a.1, fun i h => (b.2 i h).trans (a.2 i h)⟩
theorem Kept.set {kp : List Nat} {σ : L2.St} {i : Nat} {x : Option V} (h : i ∉ kp) : Kept kp σ (σ.set i x) := ⟨List.length_set, fun j hj => by
  rw [List.getElem?_set_ne]
  rintro rfl
  exact h hj⟩
/-- what the end f of a statement promises -/
def Post (X : Cx) [KFr X.w] (kp : List Nat) (E : Ends) (σ : L2.St) (H : Hp) (S : AS) (ρ' : Rho) : Fl → Prop
  | .next => ∀ σ' H' S', Kept kp σ σ' → Step H H' S S' → Rep X.prog X.w H' ρ' σ' S' → E.nx σ' H'
  | .brk => ∀ σ' H' S', Kept kp σ σ' → Step H H' S S' → Rep X.prog X.w H' ρ' σ' S' → E.bk σ' H'
  | .cont => ∀ σ' H' S', Kept kp σ σ' → Step H H' S S' → Rep X.prog X.w H' ρ' σ' S' → E.ct σ' H'
  | .ret d => ∀ v σ' H' S1 S2, Kept kp σ σ' → Step H H' S (fun b => S1 b ∨ S2 b) → Own X.prog X.w H' d v S1 → Rep X.prog X.w H' ρ' σ' S2 → (∀ b, S1 b → S2 b → False) → E.rt v H'
def AnsS (X : Cx) [KFr X.w] (W : WX) (kp : List Nat) (E : Ends) (σ : L2.St) (H : Hp) (S : AS) : Res (Fl × Rho) → Prop
  | .ok p => Post X kp E σ H S p.2 p.1
  | .raise x ρ' => ∀ σ' C dx H' S2, Kept kp σ σ' → OutX X.prog X.w X.mg H S σ' x ρ' C dx H' S2 → W C dx σ' H'
  | .stuck => False
def tS (X : Cx) [KFr X.w] (W : WX) (kp : List Nat) (g : Rho → Res (Fl × Rho)) : TS := fun E σ H => ∃ ρ S, Rep X.prog X.w H ρ σ S ∧ Dom S H ∧ AnsS X W kp E σ H S (g ρ)
def SS (X : Cx) [KFr X.w] (W : WX) (kp : List Nat) (st : Stmt) (g : Rho → Res (Fl × Rho)) : Prop := PS X st (tS X W kp g)
def SSs (X : Cx) [KFr X.w] (W : WX) (kp : List Nat) (st : List Stmt) (g : Rho → Res (Fl × Rho)) : Prop := PSs X st (tS X W kp g)

section
variable {X : Cx} [KFr X.w] [XKf X] {W : WX} {kp : List Nat} {E : Ends} {σ σ1 : L2.St} {H H1 : Hp} {S S1 : AS} {ro own : Bool} {e a : Expr} {st : Stmt} {rest : List Stmt} {pos : Pos} {g : Rho → Res (D × Rho)} {gs gu : Rho → Res (Fl × Rho)}
theorem Post.step {ρ' : Rho} {f : Fl} (k : Kept kp σ σ1) (s : Step H H1 S S1) (h : Post X kp E σ H S ρ' f) : Post X kp E σ1 H1 S1 ρ' f := by
  cases f with
  | next => exact fun σ' H' S' k' s' r => h σ' H' S' (k.trans k') (s.trans s') r
  | brk => exact fun σ' H' S' k' s' r => h σ' H' S' (k.trans k') (s.trans s') r
  | cont => exact fun σ' H' S' k' s' r => h σ' H' S' (k.trans k') (s.trans s') r
  | ret d => exact fun v σ' H' T1 T2 k' s' o r dj => h v σ' H' T1 T2 (k.trans k') (s.trans s') o r dj
theorem AnsS.step {r : Res (Fl × Rho)} (k : Kept kp σ σ1) (s : Step H H1 S S1) (h : AnsS X W kp E σ H S r) : AnsS X W kp E σ1 H1 S1 r := by
  cases r with
  | ok p => exact Post.step k s h
  | raise x ρ' => exact fun σ' C dx H' S2 k' o => h σ' C dx H' S2 (k.trans k') (o.trans s)
  | stuck => exact h
/-- a statement's answer, behind an expression's -/
theorem AnsS.bind {α : Type} {r : Res α} {f : α → Res (Fl × Rho)} (h : AnsS X W kp E σ H S (r.bind f)) : Ans X W σ H S r fun a => AnsS X W kp E σ H S (f a) := by
  cases r with
  | ok a => exact h
  | raise x ρ' => exact fun C dx H' S2 o => h σ C dx H' S2 Kept.refl o
  | stuck => exact h
theorem AnsS.of_bind {α : Type} {o : Option α} {f : α → Res (Fl × Rho)} (q : AnsS X W kp E σ H S ((Res.of o).bind f)) : ∃ a, o = some a ∧ AnsS X W kp E σ H S (f a) := by
  cases o with
  | none => exact q.elim
  | some a => exact ⟨a, rfl, q⟩
theorem AnsS.ite {c : Prop} [Decidable c] {r : Res (Fl × Rho)} (h : AnsS X W kp E σ H S (if c then r else .stuck)) : c ∧ AnsS X W kp E σ H S r := by
  by_cases hc : c
  · rw [if_pos hc] at h; exact ⟨hc, h⟩
  · rw [if_neg hc] at h; exact h.elim
/-- the frame of a statement over an expression: what is wanted behind the value -/
theorem tJ.of {own : Bool} {g : Rho → Res (D × Rho)} {k : D × Rho → Res (Fl × Rho)} {Q : VK} {ρ : Rho} (r : Rep X.prog X.w H ρ σ S) (dm : Dom S H) (q : AnsS X W kp E σ H S ((g ρ).bind k))
    (h : ∀ p, AnsS X W kp E σ H S (k p) → ∀ v H' S1 S2, Out X.prog X.w ro own H S σ ρ p.1 p.2 v H' S1 S2 → Q v H') : tJ X W ro own g σ H Q :=
  ⟨ρ, S, r, dm, q.bind.mono fun p _ q v H' S1 S2 o => h p q v H' S1 S2 o⟩

def gNext : Rho → Res (Fl × Rho) := fun ρ => .ok (.next, ρ)
def gSeq (g h : Rho → Res (Fl × Rho)) : Rho → Res (Fl × Rho) := fun ρ => (g ρ).bind fun p => match p.1 with
  | .next => h p.2
  | f => .ok (f, p.2)
theorem sss_nil : SSs X W kp [] gNext := PSs.weak pss_nil fun E σ H ⟨ρ, S, r, dm, q⟩ => q σ H S Kept.refl (Step.refl dm) r
theorem t_seq : ∀ E σ H, tS X W kp (gSeq gs gu) E σ H → tSeq (tS X W kp gs) (tS X W kp gu) E σ H := fun E σ H ⟨ρ, S, r, dm, q⟩ => ⟨ρ, S, r, dm, by
  unfold gSeq at q
  cases hg : gs ρ with
  | ok p =>
    obtain ⟨f, ρ'⟩ := p
    rw [hg] at q
    cases f with
    | next => exact fun σ' H' S' k s r' => ⟨ρ', S', r', s.dm, AnsS.step k s q⟩
    | brk => exact q
    | cont => exact q
    | ret d => exact q
  | raise x ρ' => rw [hg] at q; exact q
  | stuck => rw [hg] at q; exact q⟩
theorem sss_cons (h1 : SS X W kp st gs) (h2 : SSs X W kp rest gu) : SSs X W kp (st :: rest) (gSeq gs gu) := PSs.weak (pss_cons h1 h2) t_seq
theorem sss_one (h1 : SS X W kp st gs) : SSs X W kp [st] gs := pss_one h1
theorem ss_pass : SS X W kp (.Pass pos) gNext := PS.weak ps_pass fun E σ H ⟨ρ, S, r, dm, q⟩ => q σ H S Kept.refl (Step.refl dm) r
theorem ss_break : SS X W kp (.Break pos) (fun ρ => .ok (.brk, ρ)) := PS.weak ps_break fun E σ H ⟨ρ, S, r, dm, q⟩ => q σ H S Kept.refl (Step.refl dm) r
theorem ss_continue : SS X W kp (.Continue pos) (fun ρ => .ok (.cont, ρ)) := PS.weak ps_continue fun E σ H ⟨ρ, S, r, dm, q⟩ => q σ H S Kept.refl (Step.refl dm) r

/-- an expression whose value is dropped -/
def gDrop (g : Rho → Res (D × Rho)) : Rho → Res (Fl × Rho) := fun ρ => (g ρ).bind fun p => .ok (.next, p.2)
theorem ss_expr (h : J X W ro own e g) (hs : swapsWith e none pos.line X.env = pure false := by rfl) : SS X W kp (.Expr e pos) (gDrop g) := PS.weak (ps_expr h hs) fun E σ H ⟨ρ, S, r, dm, q⟩ =>
  tJ.of r dm q fun p q v H' S1 S2 o => q σ H' S2 Kept.refl o.st2 o.rep
/-- return e -/
def gRet (g : Rho → Res (D × Rho)) : Rho → Res (Fl × Rho) := fun ρ => (g ρ).bind fun p => .ok (.ret p.1, p.2)
theorem ss_ret (h : J X W ro true e g) : SS X W kp (.Return (some e) pos) (gRet g) := PS.weak (ps_ret h) fun E σ H ⟨ρ, S, r, dm, q⟩ =>
  tJ.of r dm q fun p q v H' S1 S2 o => q v σ H' S1 S2 Kept.refl o.st o.ow o.rep (o.dj rfl)
theorem ss_retN : SS X W kp (.Return none pos) (fun ρ => .ok (.ret .non, ρ)) := PS.weak ps_retN fun E σ H ⟨ρ, S, r, dm, q⟩ =>
  q .non σ H (fun _ => False) S Kept.refl ((Step.refl dm).sub fun b hb => hb.elim False.elim id) rfl r fun b z => z.elim
/-- if -/
def gIfS (t : Rho → Res (Bool × Rho)) (g h : Rho → Res (Fl × Rho)) : Rho → Res (Fl × Rho) := fun ρ => (t ρ).bind fun p => if p.1 = true then g p.2 else h p.2
theorem ss_if {c : Expr} {gt : Rho → Res (Bool × Rho)} {x y : List Stmt} (hc : JT X W c gt) (hx : SSs X W kp x gs) (hy : SSs X W kp y gu) : SS X W kp (.If c x y pos) (gIfS gt gs gu) := PS.weak (ps_if hc hx hy) fun E σ H ⟨ρ, S, r, dm, q⟩ => ⟨ρ, S, r, dm, q.bind.mono fun p _ q H' S2 s r' => by
  obtain ⟨b, ρ'⟩ := p
  cases b with
  | true => exact ⟨ρ', S2, r', s.dm, AnsS.step Kept.refl s q⟩
  | false => exact ⟨ρ', S2, r', s.dm, AnsS.step Kept.refl s q⟩⟩

/-! ### names stored -/
def gSet (i : Nat) (g : Rho → Res (D × Rho)) : Rho → Res (Fl × Rho) := fun ρ => (g ρ).bind fun p => if i < p.2.length then .ok (.next, p.2.set i (some p.1)) else .stuck
theorem Rep.store {P : Program} {w : World} [KFr w] {H : Hp} {ρ : Rho} {σ : L2.St} {S S1 : AS} {i : Nat} {d : D} {v : V} (r : Rep P w H ρ σ S) (o : Own P w H d v S1) (dj : ∀ b, S1 b → S b → False) (hi : i < ρ.length) :
    Rep P w H (ρ.set i (some d)) (σ.set i (some v)) (fun b => S1 b ∨ S b) := Rep.put r.drop o dj hi
theorem ss_set {i : Nat} {x : Str} {pos' : Pos} (hN : X.N.Nodup) (hi : X.N[i]? = some x) (hx : Loc X.env.scope x) (hk : i ∉ kp) (h : J X W ro true e g) (hs : swapsWith e (some (.Name x pos')) pos.line X.env = pure false := by rfl)
    (hf : X.fn x = true ∨ X.env.scope.names.lookup x = some .local := by first | exact .inl rfl | exact .inr rfl | assumption) : SS X W kp (.Assign [.Name x pos'] e pos) (gSet i g) := PS.weak (ps_set hN hi hx h hs hf) fun E σ H ⟨ρ, S, r, dm, q⟩ =>
  tJ.of r dm q fun p q v H' S1 S2 o => by
    obtain ⟨hl, q⟩ := q.ite
    exact q _ H' _ (Kept.set hk) o.st (o.rep.store o.ow (o.dj rfl) hl)

/-! ### targets -/
/-- binding a value's data to a target -/
def tG (X : Cx) [KFr X.w] (kp : List Nat) (b : D → Rho → Option Rho) : TG := fun v σ H Q => ∃ d ρ S1 S, Own X.prog X.w H d v S1 ∧ Rep X.prog X.w H ρ σ S ∧ (∀ c, S1 c → S c → False) ∧ ∃ ρ', b d ρ = some ρ' ∧
  ∀ σ', Kept kp σ σ' → Rep X.prog X.w H ρ' σ' (fun c => S1 c ∨ S c) → Q σ' H
def tGs (X : Cx) [KFr X.w] (kp : List Nat) (b : List D → Rho → Option Rho) : TGs := fun vs σ H Q => ∃ ds ρ S1 S, OwnL X.prog X.w H ds vs S1 ∧ Rep X.prog X.w H ρ σ S ∧ (∀ c, S1 c → S c → False) ∧ ∃ ρ', b ds ρ = some ρ' ∧
  ∀ σ', Kept kp σ σ' → Rep X.prog X.w H ρ' σ' (fun c => S1 c ∨ S c) → Q σ' H
def SG (X : Cx) [KFr X.w] (kp : List Nat) (tg : Expr) (b : D → Rho → Option Rho) : Prop := PG X tg (tG X kp b)
def SGs (X : Cx) [KFr X.w] (kp : List Nat) (tg : List Expr) (b : List D → Rho → Option Rho) : Prop := PGs X tg (tGs X kp b)
theorem PG.weak {tg : Expr} {t t' : TG} (h : PG X tg t) (k : ∀ v σ H Q, t' v σ H Q → t v σ H Q) : PG X tg t' := ⟨fun pins s σ H v u Q I r hq => h.run pins s σ H v u Q I r (k v σ H Q hq)⟩
theorem PGs.weak {tg : List Expr} {t t' : TGs} (h : PGs X tg t) (k : ∀ v σ H Q, t' v σ H Q → t v σ H Q) : PGs X tg t' := ⟨fun pins s σ H v u Q I r hq => h.run pins s σ H v u Q I r (k v σ H Q hq)⟩
def bName (i : Nat) : D → Rho → Option Rho := fun d ρ => if i < ρ.length then some (ρ.set i (some d)) else none
theorem sg_name {i : Nat} {x : Str} (hN : X.N.Nodup) (hi : X.N[i]? = some x) (hx : Loc X.env.scope x) (hk : i ∉ kp) (hf : X.fn x = true ∨ X.env.scope.names.lookup x = some .local := by first | exact .inl rfl | exact .inr rfl | assumption) : SG X kp (.Name x pos) (bName i) :=
  PG.weak (pg_name hN hi hx hf) fun v σ H Q ⟨d, ρ, S1, S, o, r, dj, ρ', hb, q⟩ => by
    unfold bName at hb
    split at hb
    · rename_i hl; cases hb; exact q _ (Kept.set hk) (r.store o dj hl)
    · cases hb
def bNil : List D → Rho → Option Rho := fun ds ρ => match ds with
  | [] => some ρ
  | _ => none
def bCons (b : D → Rho → Option Rho) (bs : List D → Rho → Option Rho) : List D → Rho → Option Rho := fun ds ρ => match ds with
  | d :: ds => (b d ρ).bind fun ρ' => bs ds ρ'
  | [] => none
theorem sgs_nil : SGs X kp [] bNil := PGs.weak pgs_nil fun vs σ H Q ⟨ds, ρ, S1, S, o, r, dj, ρ', hb, q⟩ => by
  cases ds with
  | nil => cases hb; exact ⟨o, q σ Kept.refl (r.mono fun b hb => .inr hb)⟩
  | cons d ds => cases hb
theorem sgs_cons {x : Expr} {xs : List Expr} {b : D → Rho → Option Rho} {bs : List D → Rho → Option Rho} (h1 : SG X kp x b) (h2 : SGs X kp xs bs)
    (hs : (assignEach (x :: xs) X.env).map (·.2) = assign x X.env :: (assignEach xs X.env).map (·.2) := by rfl) : SGs X kp (x :: xs) (bCons b bs) := PGs.weak (pgs_cons h1 h2 hs) fun vs σ H Q ⟨ds, ρ, S1, S, o, r, dj, ρ', hb, q⟩ => by
  cases ds with
  | nil => cases hb
  | cons d ds =>
    obtain ⟨v, vr, T1, T2, rfl, o1, o2, k1, k2, d12⟩ := o
    obtain ⟨ρ1, e1, e2⟩ := Option.bind_eq_some_iff.mp hb
    refine ⟨v, vr, rfl, d, ρ, T1, S, o1, r, fun c h1 h2 => dj c (k1 c h1) h2, ρ1, e1, fun σ1 kk r1 => ?_⟩
    refine ⟨ds, ρ1, T2, fun c => T1 c ∨ S c, o2, r1, fun c h1 h2 => h2.elim (fun z => d12 c z h1) (fun z => dj c (k2 c h1) z), ρ', e2, fun σ2 kk2 r2 => q σ2 (kk.trans kk2) (r2.mono fun c hc => ?_)⟩
    rcases hc with hc | hc | hc
    · exact .inl (k2 c hc)
    · exact .inl (k1 c hc)
    · exact .inr hc
def bTup (n : Nat) (bs : List D → Rho → Option Rho) : D → Rho → Option Rho := fun d ρ => match d with
  | .tup ds => if ds.length = n then bs ds ρ else none
  | _ => none
theorem sg_tup {es : List Expr} {k n : Nat} {bs : List D → Rho → Option Rho} (hc : X.calm = true) (h : SGs X kp es bs) (hn : (assignEach es X.env).length = n := by rfl) (hst : (assignEach es X.env).findIdx? (·.1) = none := by rfl) : SG X kp (.Tuple es k pos) (bTup n bs) :=
  PG.weak (pg_tup hc h hn hst) fun v σ H Q ⟨d, ρ, S1, S, o, r, dj, ρ', hb, q⟩ => by
    unfold bTup at hb
    split at hb
    · split at hb
      · rename_i ds hl
        obtain ⟨a, vs, rfl, t, ol⟩ := o
        exact ⟨a, vs, rfl, t.sq, by rw [ol.length, hl], ds, ρ, S1, S, ol, r, dj, ρ', hb, q⟩
      · cases hb
    · cases hb
/-- target = e -/
def gAsg (b : D → Rho → Option Rho) (g : Rho → Res (D × Rho)) : Rho → Res (Fl × Rho) := fun ρ => (g ρ).bind fun p => (Res.of (b p.1 p.2)).bind fun ρ' => .ok (.next, ρ')
theorem ss_asg {tg : Expr} {b : D → Rho → Option Rho} (h : J X W ro true e g) (hg : SG X kp tg b) (hs : swapsWithSole [tg] e pos.line X.env = pure false := by rfl) (hw : swappedStores [tg] e X.env = pure none := by rfl)
    (h1 : (assignEach [tg] X.env).map (·.2) = [assign tg X.env] := by rfl) : SS X W kp (.Assign [tg] e pos) (gAsg b g) := PS.weak (ps_asg h hg hs hw h1) fun E σ H ⟨ρ, S, r, dm, q⟩ =>
  tJ.of r dm q fun p q v H' S1 S2 o => by
    obtain ⟨ρ', hb, q⟩ := q.of_bind
    exact ⟨p.1, p.2, S1, S2, o.ow, o.rep, o.dj rfl, ρ', hb, fun σ' k r' => q σ' H' _ k o.st r'⟩
end
end DV
set_option Elab.async false
set_option linter.all false
set_option maxRecDepth 100000
set_option maxHeartbeats 1000000
namespace DV
open PySem PySem.Spec PyProof.Rows L2

/-! ### what a loop walks -/
/-- the items; the name that is walked and must stay as it is -/
structure Src where
  items : List D
  lk : Option Nat
def Src.chk (s : Src) (ρ : Rho) : Bool := match s.lk with
  | none => true
  | some i => decide (ρ[i]? = some (some (.lck s.items)))
def unlock (i : Nat) (ρ : Rho) : Rho := match ρ[i]? with
  | some (some (.lck ds)) => ρ.set i (some (.lst ds))
  | _ => ρ
def Src.fin (s : Src) (ρ : Rho) : Rho := match s.lk with
  | none => ρ
  | some i => unlock i ρ
/-- J yields the items as long as the state is as told -/
def SrcOk (X : Cx) [KFr X.w] (kp : List Nat) (J : It) (s : Src) (σ1 : L2.St) (H1 : Hp) (S1 : AS) : Prop := ∀ σ H ρ S, Kept kp σ1 σ → Step H1 H S1 S → Rep X.prog X.w H ρ σ S → s.chk ρ = true →
  J.stop s.items.length H ∧ ∀ (i : Nat) d, s.items[i]? = some d → J.go i H ∧ ∀ x H', J.yld i H x H' → H' = H ∧ Own X.prog X.w H d x (fun _ => False)
def tI (X : Cx) [KFr X.w] (W : WX) (kp : List Nat) (g : Rho → Res (Src × Rho)) : TI := fun σ H R => ∃ ρ S, Rep X.prog X.w H ρ σ S ∧ Dom S H ∧ Ans X W σ H S (g ρ) fun p => ∀ J H' S2, Step H H' S S2 → Rep X.prog X.w H' p.2 σ S2 → SrcOk X kp J p.1 σ H' S2 → R J H'
def SI (X : Cx) [KFr X.w] (W : WX) (kp : List Nat) (tg iter : Expr) (g : Rho → Res (Src × Rho)) : Prop := PI X tg iter (tI X W kp g)

def forL (chk : Rho → Bool) (b : D → Rho → Option Rho) (body : Rho → Res (Fl × Rho)) : List D → Rho → Res (Fl × Rho)
  | [], ρ => if chk ρ = true then .ok (.next, ρ) else .stuck
  | x :: xs, ρ => if chk ρ = true then (Res.of (b x ρ)).bind fun ρ1 => (body ρ1).bind fun p => match p.1 with
    | .next => forL chk b body xs p.2
    | .cont => forL chk b body xs p.2
    | .brk => .ok (.next, p.2)
    | .ret d => .ok (.ret d, p.2) else .stuck
def gFor (g : Rho → Res (Src × Rho)) (b : D → Rho → Option Rho) (body : Rho → Res (Fl × Rho)) : Rho → Res (Fl × Rho) := fun ρ => (g ρ).bind fun p => (forL p.1.chk b body p.1.items p.2).bind fun q => .ok (q.1, p.1.fin q.2)

section
variable {X : Cx} [KFr X.w] [XKf X] {W : WX} {kp kq : List Nat} {E : Ends} {σ σ1 : L2.St} {H H1 : Hp} {S S1 : AS} {ro own : Bool} {e a tg iter : Expr} {st : Stmt} {body : List Stmt} {pos : Pos} {g : Rho → Res (D × Rho)} {gs gu : Rho → Res (Fl × Rho)} {gi : Rho → Res (Src × Rho)} {b : D → Rho → Option Rho}
theorem Kept.sub (h : ∀ i ∈ kp, i ∈ kq) (k : Kept kq σ σ1) : Kept kp σ σ1 := ⟨k.1, fun i hi => k.2 i (h i hi)⟩
theorem own_unlock {P : Program} {w : World} [KFr w] {ds : List D} {v : V} (o : Own P w H (.lck ds) v S) : Own P w H (.lst ds) v S := o
theorem rep_unlock {P : Program} {w : World} [KFr w] {i : Nat} : ∀ {ρ : Rho} {σ : L2.St} {S : AS}, Rep P w H ρ σ S → Rep P w H (unlock i ρ) σ S := fun {ρ σ S} r => by
  unfold unlock
  split
  · rename_i ds h
    obtain ⟨v, T1, T2, hs, o, r2, k1, k2, dj⟩ := r.take h
    exact (Rep.back r2 (own_unlock o) dj hs).mono fun b hb => hb.elim (k1 b) (k2 b)
  · exact r
theorem rep_fin {P : Program} {w : World} [KFr w] {s : Src} {ρ : Rho} {σ : L2.St} {S : AS} (r : Rep P w H ρ σ S) : Rep P w H (s.fin ρ) σ S := by
  unfold Src.fin
  split
  · exact r
  · exact rep_unlock r
theorem Post.fin {s : Src} {ρ : Rho} {f : Fl} (h : Post X kp E σ H S (s.fin ρ) f) : Post X kp E σ H S ρ f := by
  cases f with
  | next => exact fun σ' H' S' k st r => h σ' H' S' k st (rep_fin r)
  | brk => exact fun σ' H' S' k st r => h σ' H' S' k st (rep_fin r)
  | cont => exact fun σ' H' S' k st r => h σ' H' S' k st (rep_fin r)
  | ret d => exact fun v σ' H' T1 T2 k st o r dj => h v σ' H' T1 T2 k st o (rep_fin r) dj
theorem ss_for (hp : PassesOwn (model X.prog X.w) X.A X.env X.xe) (hc : X.calm = true) (hi : SI X W kq tg iter gi) (hg : SG X kq tg b) (hb : SSs X W kq body gs) (hk : ∀ i ∈ kp, i ∈ kq := by decide)
    (hs : ∀ x, foldedSetIterable iter X.env x = pure x := by intro _; rfl) : SS X W kp (.For tg iter body [] pos) (gFor gi b gs) := PS.weak (ps_for hp hc hi hg hb hs) fun E σ H ⟨ρ, S, r, dm, q⟩ =>
  ⟨ρ, S, r, dm, q.bind.mono fun p _ q J H1 S1 st1 r1 src => by
    obtain ⟨s, ρ1⟩ := p
    have q1 := AnsS.step (Kept.refl (kp := kp)) st1 q
    refine ⟨fun i m σ' H' => ∃ ρ' S', Rep X.prog X.w H' ρ' σ' S' ∧ Kept kq σ σ' ∧ Step H1 H' S1 S' ∧ m = s.items.length - i ∧ i ≤ s.items.length ∧ AnsS X W kp E σ' H' S' ((forL s.chk b gs (s.items.drop i) ρ').bind fun q => .ok (q.1, s.fin q.2)),
      ⟨_, ρ1, S1, r1, Kept.refl, Step.refl st1.dm, rfl, Nat.zero_le _, q1⟩, ?_⟩
    rintro i m σ' H' ⟨ρ', S', r', k', st', rfl, hi, q'⟩
    by_cases hlt : i < s.items.length
    · rw [List.drop_eq_getElem_cons hlt] at q'
      simp only [forL] at q'
      by_cases hchk : s.chk ρ' = true
      · rw [if_pos hchk] at q'
        obtain ⟨_, yl⟩ := src σ' H' ρ' S' k' st' r' hchk
        obtain ⟨go, yl⟩ := yl i s.items[i] (by simp [hlt])
        refine .inr ⟨go, _, fun σ2 H2 w2 => ⟨s.items.length - (i + 1), by omega, w2⟩, fun x H2 y => ?_⟩
        obtain ⟨rfl, ox⟩ := yl x H2 y
        cases hbx : b s.items[i] ρ' with
        | none => rw [hbx] at q'; exact q'.elim
        | some ρ2 =>
          rw [hbx] at q'
          refine ⟨s.items[i], ρ', fun _ => False, S', ox, r', fun c z => z.elim, ρ2, hbx, fun σ2 k2 r2 => ⟨ρ2, S', r2.mono fun c hc => hc.elim False.elim id, st'.dm, ?_⟩⟩
          simp only [Res.of, Res.bind] at q'
          have kk : Kept kp σ' σ2 := Kept.sub hk k2
          cases hgs : gs ρ2 with
          | ok p2 =>
            obtain ⟨f, ρ3⟩ := p2
            rw [hgs] at q'
            cases f with
            | next => exact fun σ3 H3 S3 k3 st3 r3 => ⟨ρ3, S3, r3, (k'.trans k2).trans k3, st'.trans st3, rfl, hlt, AnsS.step (kk.trans (Kept.sub hk k3)) st3 q'⟩
            | cont => exact fun σ3 H3 S3 k3 st3 r3 => ⟨ρ3, S3, r3, (k'.trans k2).trans k3, st'.trans st3, rfl, hlt, AnsS.step (kk.trans (Kept.sub hk k3)) st3 q'⟩
            | brk => exact fun σ3 H3 S3 k3 st3 r3 => q' σ3 H3 S3 (kk.trans (Kept.sub hk k3)) st3 (rep_fin r3)
            | ret d => exact fun v σ3 H3 T1 T2 k3 st3 o3 r3 dj => q' v σ3 H3 T1 T2 (kk.trans (Kept.sub hk k3)) st3 o3 (rep_fin r3) dj
          | raise x ρ3 => rw [hgs] at q'; exact fun σ3 C dx H3 S3 k3 o3 => q' σ3 C dx H3 S3 (kk.trans (Kept.sub hk k3)) o3
          | stuck => rw [hgs] at q'; exact q'
      · rw [if_neg hchk] at q'; exact q'.elim
    · have e : i = s.items.length := by omega
      subst e
      rw [List.drop_length] at q'
      simp only [forL] at q'
      by_cases hchk : s.chk ρ' = true
      · rw [if_pos hchk] at q'
        obtain ⟨stop, _⟩ := src σ' H' ρ' S' k' st' r' hchk
        exact .inl ⟨stop, q' σ' H' S' Kept.refl (Step.refl st'.dm) (rep_fin r')⟩
      · rw [if_neg hchk] at q'; exact q'.elim⟩

/-! ### the sources -/
/-- a list or a tuple, whichever it is -/
def iSeq (K : PySem.W.Frag) (tl : TE) : TI := fun σ H R => tl σ H fun x H1 => ∃ a, x = .ref a ∧ (((∃ xs, SqL K H1 a xs) ∧ R (Itl K a) H1) ∨ ((∃ xs, SqT K H1 a xs) ∧ R (Itt K a) H1))
theorem pi_seq {l : Expr} {tl : TE} (hl : PE X l tl) : PI X tg l (iSeq X.K tl) := by
  refine ⟨fun pins s σ H R I h => ?_⟩
  refine thn (hl.run pins s σ H _ I h) fun v s1 ⟨x, H1, I1, r1, q1⟩ => ?_
  obtain ⟨a, e, q⟩ := q1
  subst e
  cases r1
  rcases q with ⟨⟨xs, hq⟩, q⟩ | ⟨⟨xs, hq⟩, q⟩
  · obtain ⟨its, rv, p, hz⟩ := I1.list hq
    refine wpAny_pyIter_list p.isList ?_
    refine ⟨s1.heap.objs.size, [s1.heap.objs.size], _, _, H1, rfl, I1.kept (t' := s1.toks) fun b o e => Heap.get?_push_of_some _ e, turn_list a _, ⟨_, Heap.get?_push_size _ rfl, rfl, rfl⟩, fun b hb => ?_, q⟩
    have e : b = s1.heap.objs.size := by simpa using hb
    subst e
    exact I1.fpOk (Nat.le_refl _) (I1.hok.fresh (Nat.le_refl _))
  · obtain ⟨its, rv, p, hz⟩ := I1.tuple hq
    refine wpAny_pyIter_tuple (show s1.heap.IsTuple a its.toArray from p) ?_
    refine ⟨s1.heap.objs.size, [s1.heap.objs.size], _, _, H1, rfl, I1.kept (t' := s1.toks) fun b o e => Heap.get?_push_of_some _ e, turn_tuple a _, ⟨_, Heap.get?_push_size _ rfl, rfl, rfl⟩, fun b hb => ?_, q⟩
    have e : b = s1.heap.objs.size := by simpa using hb
    subst e
    exact I1.fpOk (Nat.le_refl _) (I1.hok.fresh (Nat.le_refl _))
theorem src_seq {s : Src} {a : Addr} {d : D} (hd : d.items = some s.items) (hp : D.pures s.items = true) (h : ∀ σ H' ρ S', Kept kp σ1 σ → Step H1 H' S1 S' → Rep X.prog X.w H' ρ σ S' → s.chk ρ = true → ∃ T, Own X.prog X.w H' d (.ref a) T) :
    (∃ T, Own X.prog X.w H1 d (.ref a) T) → ∀ {R : It → Hp → Prop}, (∀ J, SrcOk X kp J s σ1 H1 S1 → R J H1) → ((∃ xs, SqL X.K H1 a xs) ∧ R (Itl X.K a) H1) ∨ ((∃ xs, SqT X.K H1 a xs) ∧ R (Itt X.K a) H1) := by
  rintro ⟨T0, o0⟩ R hR
  have lists : ∀ {vs : List V}, SqL X.K H1 a vs → (∀ {H'} {T}, Own X.prog X.w H' d (.ref a) T → ∃ vs T, SqL X.K H' a vs ∧ OwnL X.prog X.w H' s.items vs T) → ((∃ xs, SqL X.K H1 a xs) ∧ R (Itl X.K a) H1) ∨ ((∃ xs, SqT X.K H1 a xs) ∧ R (Itt X.K a) H1) := fun sq0 k => .inl ⟨⟨_, sq0⟩, hR _ fun σ H ρ S kk st r c => by
    obtain ⟨T, o⟩ := h σ H ρ S kk st r c
    obtain ⟨vs, T1, sq, ol⟩ := k o
    refine ⟨⟨vs, sq, by rw [ol.length]; exact Nat.le_refl _⟩, fun i d hd => ?_⟩
    obtain ⟨v, T1, hv, ow, _⟩ := ol.get hd
    exact ⟨⟨vs, v, sq, hv⟩, fun x H' ⟨e1, e2⟩ => ⟨e1, by
      have e3 := e2 vs sq
      rw [hv] at e3
      cases e3
      exact ow.ofPure (pures_get hp hd)⟩⟩⟩
  cases d with
  | tup es =>
    cases hd
    obtain ⟨a', vs, e, t, ol⟩ := o0
    cases e
    refine .inr ⟨⟨vs, t.sq⟩, hR _ fun σ H ρ S kk st r c => ?_⟩
    obtain ⟨T, a', vs, e, t, ol⟩ := h σ H ρ S kk st r c
    cases e
    refine ⟨⟨vs, t.sq, by rw [ol.length]; exact Nat.le_refl _⟩, fun i d hd => ?_⟩
    obtain ⟨v, T1, hv, ow, _⟩ := ol.get hd
    exact ⟨⟨vs, v, t.sq, hv⟩, fun x H' ⟨e1, e2⟩ => ⟨e1, by
      have e3 := e2 vs (t.sq)
      rw [hv] at e3
      cases e3
      exact ow.ofPure (pures_get hp hd)⟩⟩
  | fro es =>
    cases hd
    obtain ⟨a', ob, vs, e, t, ol⟩ := o0
    cases e
    exact lists (.inl (.inr ⟨ob, t⟩)) fun {H' T} ⟨a2, ob, vs, e, t, ol⟩ => by cases e; exact ⟨vs, T, .inl (.inr ⟨ob, t⟩), ol⟩
  | lst es =>
    cases hd
    obtain ⟨a', vs, e, _, t, ol⟩ := o0
    cases e
    exact lists (SqL.of t) fun {H' T} ⟨a2, vs, e, _, t, ol⟩ => by cases e; exact ⟨vs, _, SqL.of t, ol⟩
  | lck es =>
    cases hd
    obtain ⟨a', vs, e, _, t, ol⟩ := o0
    cases e
    exact lists (SqL.of t) fun {H' T} ⟨a2, vs, e, _, t, ol⟩ => by cases e; exact ⟨vs, _, SqL.of t, ol⟩
  | _ => cases hd
/-- a list or a tuple that no name of ours can change -/
def gItems (g : Rho → Res (D × Rho)) : Rho → Res (Src × Rho) := fun ρ => (g ρ).bind fun p => (Res.of p.1.items).bind fun ds => if D.pures ds = true then .ok (⟨ds, none⟩, p.2) else .stuck
theorem own_ref {P : Program} {w : World} [KFr w] {d : D} {ds : List D} {v : V} {T : AS} (o : Own P w H d v T) (h : d.items = some ds) : ∃ a, v = .ref a := by
  obtain ⟨a, vs, e, _⟩ := own_items (K := KFr.kfr w) rfl o h
  exact ⟨a, e⟩
theorem si_items (h : J X W ro true iter g) : SI X W kp tg iter (gItems g) := PI.weak (pi_seq h) fun σ H R ⟨ρ, S, r, dm, q⟩ => ⟨ρ, S, r, dm, q.bind.mono fun p _ q v H1 S1 S2 o => by
  obtain ⟨ds, hd, q⟩ := Ans.of_bind q
  obtain ⟨hp, q⟩ := Ans.ite q
  obtain ⟨a, rfl⟩ := own_ref o.ow hd
  exact ⟨a, rfl, src_seq (s := ⟨ds, none⟩) (σ1 := σ) (S1 := S2) (kp := kp) hd hp (fun σ2 H2 ρ2 S3 k st r c => ⟨S1, o.ow.step st (o.dj rfl)⟩) ⟨S1, o.ow⟩ fun J src => q J H1 S2 o.st2 o.rep src⟩⟩
/-- a name of ours: its list stays as it is while the loop runs -/
def gItemsV (i : Nat) : Rho → Res (Src × Rho) := fun ρ => match ρ[i]? with
  | some (some (.lst ds)) => if D.pures ds = true then .ok (⟨ds, some i⟩, ρ.set i (some (.lck ds))) else .stuck
  | some (some d) => (Res.of d.items).bind fun ds => if D.pures ds = true ∧ d.pure = true then .ok (⟨ds, none⟩, ρ) else .stuck
  | _ => .stuck
theorem si_name {i : Nat} {x : Str} (hN : X.N[i]? = some x) (hv : Vis X.env.scope x) (hk : i ∈ kp) (hd : (x == ("__debug__" : Str)) = false := by decide) (hcd : (x == ("__classdict__" : Str)) = false := by decide) : SI X W kp tg (.Name x pos) (gItemsV i) :=
  PI.weak (pi_seq (pe_var hN hv hd hcd)) fun σ H R ⟨ρ, S, r, dm, q⟩ => by
    unfold gItemsV at q
    cases hρ : ρ[i]? with
    | none => rw [hρ] at q; exact q.elim
    | some o =>
      cases o with
      | none => rw [hρ] at q; exact q.elim
      | some d =>
        rw [hρ] at q
        obtain ⟨v, T1, T2, hs, o, r2, k1, k2, dj⟩ := r.take hρ
        refine ⟨v, hs, ?_⟩
        have pureCase : Ans X W σ H S ((Res.of d.items).bind fun ds => if D.pures ds = true ∧ d.pure = true then .ok (⟨ds, none⟩, ρ) else .stuck) (fun p => ∀ J H' S2, Step H H' S S2 → Rep X.prog X.w H' p.2 σ S2 → SrcOk X kp J p.1 σ H' S2 → R J H') →
            ∃ a, v = .ref a ∧ (((∃ xs, SqL X.K H a xs) ∧ R (Itl X.K a) H) ∨ ((∃ xs, SqT X.K H a xs) ∧ R (Itt X.K a) H)) := fun q => by
          obtain ⟨ds, hd, q⟩ := Ans.of_bind q
          obtain ⟨hp, q⟩ := Ans.ite q
          obtain ⟨a, rfl⟩ := own_ref o hd
          exact ⟨a, rfl, src_seq (s := ⟨ds, none⟩) (σ1 := σ) (S1 := S) (kp := kp) hd hp.1 (fun σ2 H2 ρ2 S3 k st r c => ⟨fun _ => False, (o.ofPure (S' := fun _ => False) hp.2).step st fun b z => z.elim⟩) ⟨T1, o⟩ fun J src => q J H S (Step.refl dm) r src⟩
        cases d with
        | lst ds =>
          simp only at q
          obtain ⟨hp, q⟩ := Ans.ite q
          obtain ⟨a, rfl⟩ := own_ref o (ds := ds) rfl
          have rl : Rep X.prog X.w H (ρ.set i (some (.lck ds))) σ (fun b => T1 b ∨ T2 b) := Rep.back r2 (d := .lck ds) o dj hs
          have st0 : Step H H S (fun b => T1 b ∨ T2 b) := (Step.refl dm).sub fun b hb => hb.elim (k1 b) (k2 b)
          refine ⟨a, rfl, src_seq (s := ⟨ds, some i⟩) (d := .lck ds) (σ1 := σ) (S1 := fun b => T1 b ∨ T2 b) (kp := kp) rfl hp (fun σ2 H2 ρ2 S3 k st r c => ?_) ⟨T1, o⟩ fun J src => q J H _ st0 rl src⟩
          have hc : ρ2[i]? = some (some (.lck ds)) := of_decide_eq_true c
          obtain ⟨v2, U1, U2, hs2, o2, _⟩ := r.take hc
          rw [k.2 i hk, hs] at hs2
          cases hs2
          exact ⟨U1, o2⟩
        | tup ds => exact pureCase q
        | fro ds => exact pureCase q
        | lck ds => exact pureCase q
        | non => exact pureCase q
        | bl _ => exact pureCase q
        | int _ => exact pureCase q
        | str _ => exact pureCase q
        | dic _ _ => exact pureCase q
        | dlk _ _ => exact pureCase q
/-- range(n), range(m, n) -/
def rangeD (lo : Int) (n : Nat) : List D := (List.range n).map fun (k : Nat) => D.int (lo + k)
noncomputable def gRange1 (g : Rho → Res (D × Rho)) : Rho → Res (Src × Rho) := fun ρ => (g ρ).bind fun p => match p.1 with
  | .int j => if Hid (-(2 ^ 62) ≤ j ∧ j < 2 ^ 62) then .ok (⟨rangeD 0 j.toNat, none⟩, p.2) else .stuck
  | _ => .stuck
theorem src_range {lo : Int} {n : Nat} : SrcOk X kp (Itr lo n) ⟨rangeD lo n, none⟩ σ1 H1 S1 := fun σ H ρ S k st r c => by
  refine ⟨by show n ≤ (rangeD lo n).length; simp [rangeD], fun i d hd => ?_⟩
  have hi : i < n := by
    have := (List.getElem?_eq_some_iff.mp hd).1
    simpa [rangeD] using this
  have ed : d = .int (lo + i) := by
    unfold rangeD at hd
    rw [List.getElem?_map, List.getElem?_range hi] at hd
    exact (Option.some.inj hd).symm
  exact ⟨hi, fun x H' ⟨e1, e2⟩ => ⟨e1, by rw [ed, e2]; rfl⟩⟩
theorem si_range1 {p : Pos} (hg : Gl X "range") (hm : X.mg "range" = none) (h : J X W ro own a g) (hs : starEach [a] X.env = [(false, eval a X.env)] := by rfl) : SI X W kp tg (.Call (.Name "range" p) [a] [] pos) (gRange1 g) :=
  PI.weak (pi_range1 hg hm (pa_cons h pa_nil hs) hs) fun σ H R ⟨ρ, S, r, dm, q⟩ => ⟨ρ, S, r, dm, q.bind.mono fun p _ q v H1 S1 S2 o => by
    obtain ⟨d, ρ'⟩ := p
    cases d with
    | int j =>
      obtain ⟨hj, q⟩ := Ans.ite q
      exact ⟨j, by rw [show v = .int j from o.ow], hj.1, hj.2, q _ H1 S2 o.st2 o.rep src_range⟩
    | _ => exact q.elim⟩
end
end DV
set_option Elab.async false
set_option linter.all false
set_option maxRecDepth 100000
set_option maxHeartbeats 1000000
namespace DV
open PySem PySem.Spec PyProof.Rows L2

/-! ### list comprehensions -/
def wipeR (ρ : Rho) : List Nat → Rho
  | [] => ρ
  | v :: vs => (wipeR ρ vs).set v none
/-- the slots' plain values stand again -/
def backR (ρ0 : Rho) : List Nat → Rho → Rho
  | [], ρ => ρ
  | v :: vs, ρ => match ρ0[v]? with
    | some (some d) => if d.pure = true then (backR ρ0 vs ρ).set v (some d) else backR ρ0 vs ρ
    | _ => backR ρ0 vs ρ
def unR : Rho → List Nat → Rho
  | ρ, [] => ρ
  | ρ, v :: vs => unR (ρ.set v none) vs
def Res.quiet {α : Type} : Res α → Res α
  | .ok a => .ok a
  | _ => .stuck
theorem Res.quiet_ok {α : Type} {r : Res α} {a : α} (h : r.quiet = .ok a) : r = .ok a := by
  cases r with
  | ok b => exact h
  | _ => cases h
def compL (chk : Rho → Bool) (vs : List Nat) (b : D → Rho → Option Rho) (cond : Rho → Res (Bool × Rho)) (elt : Rho → Res (D × Rho)) : List D → Rho → Res (List D × Rho)
  | [], ρ => if chk ρ = true then .ok ([], ρ) else .stuck
  | x :: xs, ρ => if chk ρ = true then (Res.of (b x ρ)).bind fun ρ1 => (cond ρ1).quiet.bind fun p =>
      if p.1 = true then (elt p.2).quiet.bind fun q => (compL chk vs b cond elt xs (wipeR q.2 vs)).bind fun r => .ok (q.1 :: r.1, r.2)
      else compL chk vs b cond elt xs (wipeR p.2 vs)
    else .stuck
def gComp (gi : Rho → Res (Src × Rho)) (vs : List Nat) (b : D → Rho → Option Rho) (cond : Rho → Res (Bool × Rho)) (elt : Rho → Res (D × Rho)) : Rho → Res (D × Rho) := fun ρ => (gi ρ).bind fun p =>
  if p.1.items.length ≤ sizeLine then (compL p.1.chk vs b cond elt p.1.items (wipeR p.2 vs)).quiet.bind fun q => .ok (.lst q.1, p.1.fin (backR p.2 vs (unR q.2 vs))) else .stuck
def gYes : Rho → Res (Bool × Rho) := fun ρ => .ok (true, ρ)
/-- no exception is wished for -/
def WF : WX := fun _ _ _ _ => False

section
variable {P : Program} {w : World} [KFr w] {H : Hp}
theorem rep_wipe {ρ : Rho} {σ : L2.St} {S : AS} (r : Rep P w H ρ σ S) : ∀ vs : List Nat, Rep P w H (wipeR ρ vs) (wipe σ vs) S
  | [] => r
  | v :: vs => (Rep.drop (rep_wipe r vs)).any
theorem rep_unset {ρ : Rho} {τ : L2.St} {S : AS} {v : Nat} (r : Rep P w H ρ (τ.set v none) S) : Rep P w H (ρ.set v none) τ S := by
  by_cases hv : v < τ.length
  · have h := Rep.any (i := v) (x := τ[v]) r.drop
    have e : (τ.set v none).set v τ[v] = τ := by rw [List.set_set]; exact List.set_getElem_self hv
    rwa [e] at h
  · have e : τ.set v none = τ := List.set_eq_of_length_le (by omega)
    rw [e] at r
    exact r.drop
theorem rep_unwipe : ∀ {vs : List Nat} {ρ : Rho} {σ : L2.St} {S : AS}, Rep P w H ρ (wipe σ vs) S → Rep P w H (unR ρ vs) σ S
  | [], ρ, σ, S, r => r
  | v :: vs, ρ, σ, S, r => rep_unwipe (vs := vs) (rep_unset r)
/-- a plain value that a slot still holds -/
theorem rep_plain {ρ : Rho} {σ : L2.St} {S T : AS} {i : Nat} {d : D} {v : V} (r : Rep P w H ρ σ S) (hs : σ[i]? = some (some v)) (o : Own P w H d v T) (p : d.pure = true) : Rep P w H (ρ.set i (some d)) σ S :=
  (Rep.back r.drop (o.ofPure (S' := fun _ => False) p) (fun b z => z.elim) hs).mono fun b hb => hb.elim False.elim id
theorem rep_back {H0 : Hp} {S0 : AS} {ρ0 : Rho} {σ : L2.St} {S : AS} (r0 : Rep P w H0 ρ0 σ S0) (st : ∀ (d : D) (v : V) (T : AS), Own P w H0 d v T → d.pure = true → Own P w H d v (fun _ => False)) : ∀ {vs : List Nat} {ρ : Rho}, Rep P w H ρ σ S → Rep P w H (backR ρ0 vs ρ) σ S
  | [], ρ, r => r
  | v :: vs, ρ, r => by
    unfold backR
    have ih := rep_back r0 st (vs := vs) r
    split
    · rename_i d hd
      split
      · rename_i hp
        obtain ⟨x, T1, T2, hs, o, _⟩ := r0.take hd
        exact rep_plain ih hs (st d x T1 o hp) hp
      · exact ih
    · exact ih
end
section
variable {X : Cx} [KFr X.w] [XKf X] {W : WX} {kp : List Nat} {σ σ1 : L2.St} {H H1 : Hp} {S S1 : AS} {ro own : Bool} {elt tg iter : Expr} {ifs : List Expr} {pos : Pos} {ge : Rho → Res (D × Rho)} {gt : Rho → Res (Bool × Rho)} {gi : Rho → Res (Src × Rho)} {b : D → Rho → Option Rho} {vs : List Nat}
theorem wipe_get {σ : L2.St} {i : Nat} : ∀ {vs : List Nat}, i ∈ vs → i < σ.length → (wipe σ vs)[i]? = some none
  | v :: vs, h, hl => by
    unfold wipe
    by_cases e : v = i
    · subst e
      rw [List.getElem?_set_self (by rw [wipe_length]; exact hl)]
    · rw [List.getElem?_set_ne e]
      exact wipe_get ((List.mem_cons.mp h).resolve_left fun z => e z.symm) hl
/-- the slots that are not the block's own -/
def others (n : Nat) (vs : List Nat) : List Nat := (List.range n).filter fun i => decide (i ∉ vs)
theorem wipe_kept {σ σ2 : L2.St} {n : Nat} (hn : σ.length = n) (k : Kept (others n vs) (wipe σ vs) σ2) : wipe σ2 vs = wipe σ vs := by
  have hl : σ2.length = σ.length := k.1.trans (wipe_length σ vs)
  refine List.ext_getElem? fun i => ?_
  by_cases hi : i < σ.length
  · by_cases hv : i ∈ vs
    · rw [wipe_get hv hi, wipe_get hv (by omega)]
    · have h1 := k.2 i (List.mem_filter.mpr ⟨List.mem_range.mpr (by omega), decide_eq_true hv⟩)
      rw [wipe_out hv, wipe_out hv]
      rw [wipe_out hv] at h1
      exact h1
  · rw [List.getElem?_eq_none (by rw [wipe_length]; omega), List.getElem?_eq_none (by rw [wipe_length]; omega)]
theorem Ans.quiet {α : Type} {X' : Cx} [KFr X'.w] {W' : WX} {σ' : L2.St} {H' : Hp} {S' : AS} {r : Res α} {K : α → Prop} (h : ∃ a, r = .ok a ∧ K a) : Ans X' W' σ' H' S' r K := by
  obtain ⟨a, rfl, k⟩ := h
  exact k
/-- one owned list beside the slots -/
theorem t_lc {Q : VK} (hk : ∀ i ∈ kp, i ∉ vs) : tJ X W false true (gComp gi vs b gt ge) σ H Q → X.N.length = σ.length →
    tLc (tI X W kp gi) (tG X (others X.N.length vs) b) (tJT X WF gt) (tJ X WF ro true ge) vs σ H Q := fun ⟨ρ, S, r, dm, q⟩ hN => ⟨ρ, S, r, dm, q.bind.mono fun p _ q J H1 S1 st1 r1 src D hD => by
  obtain ⟨s, ρ1⟩ := p
  obtain ⟨hlen, q⟩ := Ans.ite q
  have hlen : s.items.length ≤ sizeLine := hlen
  -- what the loop comes to
  have hq : ∃ l ρ2, compL s.chk vs b gt ge s.items (wipeR ρ1 vs) = .ok (l, ρ2) ∧ ∀ v H' T1 T2, Out X.prog X.w false true H S σ ρ (.lst l) (s.fin (backR ρ1 vs (unR ρ2 vs))) v H' T1 T2 → Q v H' := by
    cases hc : compL s.chk vs b gt ge s.items (wipeR ρ1 vs) with
    | ok a =>
      obtain ⟨l, ρ2⟩ := a
      rw [hc] at q
      exact ⟨l, ρ2, rfl, q⟩
    | raise x ρ2 => rw [hc] at q; exact q.elim
    | stuck => rw [hc] at q; exact q.elim
  obtain ⟨l, ρ2, hcomp, hQ⟩ := hq
  have st0 : Step H1 (upd H1 D (.lst [])) S1 (fun b => b = D ∨ S1 b) := Step.ext (ext_upd hD) st1.dm (fun b hb => by rw [show b = D from hb]; exact hD) dom_one
  have dD : ∀ b, b = D → S1 b → False := fun b e hb => st1.dm b hb (by rw [e]; exact hD)
  refine ⟨fun i m H' => ∃ ρ' S' T acc rest, Rep X.prog X.w H' ρ' (wipe σ vs) S' ∧ Own X.prog X.w H' (.lst acc) (.ref D) T ∧ (∀ b, T b → S' b → False) ∧ Step H1 H' S1 (fun b => T b ∨ S' b) ∧ acc.length ≤ i ∧ m = s.items.length - i ∧ i ≤ s.items.length ∧
      compL s.chk vs b gt ge (s.items.drop i) ρ' = .ok (rest, ρ2) ∧ acc ++ rest = l,
    ⟨_, wipeR ρ1 vs, S1, (fun b => b = D), [], l, (rep_wipe r1 vs).ext (ext_upd hD), ⟨D, [], rfl, rfl, upd_same, rfl⟩, dD, st0, Nat.le_refl _, rfl, Nat.zero_le _, hcomp, rfl⟩, ?_⟩
  rintro i m H' ⟨ρ', S', T, acc, rest, r', ow, dj, st', hacc, rfl, hi, hcl, hl⟩
  have kw : Kept kp σ (wipe σ vs) := ⟨wipe_length σ vs, fun i hi => wipe_out (hk i hi)⟩
  have stS : Step H1 H' S1 S' := st'.sub fun b hb => .inr hb
  by_cases hlt : i < s.items.length
  · rw [List.drop_eq_getElem_cons hlt] at hcl
    simp only [compL] at hcl
    by_cases hchk : s.chk ρ' = true
    · rw [if_pos hchk] at hcl
      obtain ⟨_, yl⟩ := src (wipe σ vs) H' ρ' S' kw stS r' hchk
      obtain ⟨go, yl⟩ := yl i s.items[i] (by simp [hlt])
      refine .inr ⟨go, _, fun H2 w2 => ⟨s.items.length - (i + 1), by omega, w2⟩, fun x H2 y => ?_⟩
      obtain ⟨rfl, ox⟩ := yl x H2 y
      cases hbx : b s.items[i] ρ' with
      | none => rw [hbx] at hcl; cases hcl
      | some ρ3 =>
        rw [hbx] at hcl
        simp only [Res.of, Res.bind] at hcl
        refine ⟨s.items[i], ρ', fun _ => False, S', ox, r', fun c z => z.elim, ρ3, hbx, fun σ2 k2 r2 => ?_⟩
        have r2' : Rep X.prog X.w H2 ρ3 σ2 S' := r2.mono fun c hc => hc.elim False.elim id
        have ew : wipe σ2 vs = wipe σ vs := wipe_kept hN.symm k2
        refine ⟨ew, ρ3, S', r2', fun b hb => st'.dm b (.inr hb), ?_⟩
        cases hgt : gt ρ3 with
        | ok pt =>
          obtain ⟨bt, ρ4⟩ := pt
          rw [hgt] at hcl
          simp only [Res.quiet] at hcl
          refine fun H3 S3 st3 r3 => ?_
          have ow3 : Own X.prog X.w H3 (.lst acc) (.ref D) T := ow.step st3 dj
          have dm' : ∀ b, T b → H2 b ≠ none := fun b hb => st'.dm b (.inl hb)
          cases bt with
          | false =>
            simp only [Bool.false_eq_true, if_false] at hcl ⊢
            have rw3 := rep_wipe r3 vs
            rw [ew] at rw3
            obtain ⟨st4, n4⟩ := step_two (T1 := fun _ => False) st' (st3.sub fun b hb => hb.elim False.elim id) dj
            exact ⟨_, S3, T, acc, rest, rw3, ow3, fun b h1 h2 => n4 b h1 (.inr h2), st4.sub fun b hb => hb.imp .inl id, Nat.le_succ_of_le hacc, (by trivial), hlt, hcl, hl⟩
          | true =>
            simp only [if_true] at hcl ⊢
            refine ⟨ρ4, S3, r3, st3.dm, ?_⟩
            cases hge : ge ρ4 with
            | ok pe =>
              obtain ⟨de, ρ5⟩ := pe
              rw [hge] at hcl
              simp only [Res.quiet] at hcl
              refine fun y H4 U1 U2 o4 => ?_
              obtain ⟨st4, n4⟩ := step_two (T1 := fun _ => False) st' (st3.sub fun b hb => hb.elim False.elim id) dj
              have n3 : ∀ b, T b → S3 b → False := fun b h1 h2 => n4 b h1 (.inr h2)
              obtain ⟨st5, n5⟩ := step_two (st4.sub (S2 := fun b => T b ∨ S3 b) fun b hb => hb.imp .inl id) o4.st n3
              have ow4 : Own X.prog X.w H4 (.lst acc) (.ref D) T := ow3.step o4.st n3
              obtain ⟨D', av, eD, tD, hD4, ol⟩ := ow4
              cases eD
              refine ⟨av, hD4, by rw [ol.length]; omega, ?_⟩
              cases hcr : compL s.chk vs b gt ge (s.items.drop (i + 1)) (wipeR ρ5 vs) with
              | ok a =>
                obtain ⟨rest', ρ6⟩ := a
                rw [hcr] at hcl
                cases hcl
                have mu : ∀ c, c ≠ D → ∀ u, H4 c = some u → upd H4 D (.lst (av ++ [y])) c = some u := fun c hc u e => by rw [upd_ne hc]; exact e
                have nt : ∀ (c : Addr) (xs : List V), H4 c = some (.tup xs) → c ≠ D := fun c xs e z => by rw [z, hD4] at e; cases e
                have nf : ∀ (c : Addr) (o : Obj) (u : HO), H4 c = some (.frz o u) → c ≠ D := fun c o u e z => by rw [z, hD4] at e; cases e
                have rw5 := rep_wipe o4.rep vs
                rw [ew] at rw5
                have tt : ∀ (a : Addr) (xs : List V), H4 a = some (.tup xs) → upd H4 D (.lst (av ++ [y])) a = some (.tup xs) := fun a xs e => mu a (nt a xs e) _ e
                have tf : ∀ (a : Addr) (o : Obj) (u : HO), H4 a = some (.frz o u) → upd H4 D (.lst (av ++ [y])) a = some (.frz o u) := fun a o u e => mu a (nf a o u e) _ e
                have rw5' := rw5.stay (H' := upd H4 D (.lst (av ++ [y]))) (fun c u hc e => mu c (fun z => n5 D tD (.inr (by rw [← z]; exact hc))) u e) tt tf
                have ol' := ol.stay (H' := upd H4 D (.lst (av ++ [y]))) (fun c u hc e => mu c hc.2 u e) tt tf
                have oe' := o4.ow.stay (H' := upd H4 D (.lst (av ++ [y]))) (fun c u hc e => mu c (fun z => n5 D tD (.inl (by rw [← z]; exact hc))) u e) tt tf
                refine ⟨_, U2, fun c => T c ∨ U1 c, acc ++ [de], rest', rw5', ⟨D, av ++ [y], rfl, .inl tD, upd_same, (OwnL.snoc ol' oe' fun c h1 h2 => n5 c h2.1 (.inl h1)).mono fun c hc => ?_⟩, ?_, ?_, ?_, (by trivial), hlt, hcr, ?_⟩
                · rcases hc with hc | hc
                  · exact ⟨.inr hc, fun z => n5 D tD (.inl (by rw [← z]; exact hc))⟩
                  · exact ⟨.inl hc.1, hc.2⟩
                · rintro c (h1 | h1) h2
                  · exact n5 c h1 (.inr h2)
                  · exact o4.dj rfl c h1 h2
                · refine ⟨fun c u e hc => mu c ?_ u (st5.fr c u e hc), fun c hc => st5.nw c hc, fun c hc => ?_, fun c xs e => tt c xs (st5.tp c xs e), fun c o u e => tf c o u (st5.fz c o u e)⟩
                  · rintro rfl
                    rw [hD] at e; cases e
                  · by_cases z : c = D
                    · rw [z, upd_same]; exact fun q => nomatch q
                    · rw [upd_ne z]; exact st5.dm c hc
                · rw [List.length_append, List.length_singleton]; omega
                · rw [List.append_assoc, List.singleton_append]; exact hl
              | raise x ρ6 => rw [hcr] at hcl; cases hcl
              | stuck => rw [hcr] at hcl; cases hcl
            | raise x ρ5 => rw [hge] at hcl; cases hcl
            | stuck => rw [hge] at hcl; cases hcl
        | raise x ρ4 => rw [hgt] at hcl; cases hcl
        | stuck => rw [hgt] at hcl; cases hcl
    · rw [if_neg hchk] at hcl; cases hcl
  · have e : i = s.items.length := by omega
    subst e
    rw [List.drop_length] at hcl
    simp only [compL] at hcl
    by_cases hchk : s.chk ρ' = true
    · rw [if_pos hchk] at hcl
      obtain ⟨stop, _⟩ := src (wipe σ vs) H' ρ' S' kw stS r' hchk
      cases hcl
      refine .inl ⟨stop, hQ _ H' T S' ⟨st1.trans st', ?_, ?_, fun _ => dj, fun z => (nomatch z)⟩⟩
      · rw [← hl, List.append_nil]; exact ow
      · exact rep_fin (rep_back r1 (fun d v T0 o p => (o.ofPure (S' := fun _ => False) p).step st' fun b z => z.elim) (rep_unwipe r'))
    · rw [if_neg hchk] at hcl; cases hcl⟩
theorem PE.weakI {e : Expr} {t t' : TE} (h : PE X e t) (k : ∀ pins s σ H Q, Inv X pins σ H s → t' σ H Q → t σ H Q) : PE X e t' := ⟨fun pins s σ H Q I hq => h.run pins s σ H Q I (k pins s σ H Q I hq)⟩
theorem PS.weakI {st : Stmt} {t t' : TS} (h : PS X st t) (k : ∀ pins s D σ H, Inv X pins σ H s → t' D σ H → t D σ H) : PS X st t' := ⟨fun pins s σ H D I hq => h.run pins s σ H D I (k pins s D σ H I hq)⟩
theorem PTs.yes : PTs X [] (tJT X W gYes) := ⟨fun pins s σ H Q I ⟨ρ, S, r, dm, q⟩ => pts_nil.run pins s σ H Q I (q H S (Step.refl dm) r)⟩
/-- [elt for tg in iter if ..]: own names at own -/
theorem j_lc {scope : Scope} {own : List (Str × Nat)} (hc : X.calm = true) (hN : X.N.Nodup) (hi : SI X W kp tg iter gi) (ok : BlkOk X.N X.env.scope scope own) (hk : ∀ i ∈ kp, i ∉ own.map (·.2))
    (hg : ∀ (s : Shared) (H : Hp) (C : Addr) (cl : List (Str × Addr)) (fp : List Addr), SG (X.blk s H scope (compEnvC scope cl C X.env) fp) (others X.N.length (own.map (·.2))) tg b)
    (ht : ∀ (s : Shared) (H : Hp) (C : Addr) (cl : List (Str × Addr)) (fp : List Addr), PTs (X.blk s H scope (compEnvC scope cl C X.env) fp) ifs (tJT (X.blk s H scope (compEnvC scope cl C X.env) fp) WF gt))
    (he : ∀ (s : Shared) (H : Hp) (C : Addr) (cl : List (Str × Addr)) (fp : List Addr), J (X.blk s H scope (compEnvC scope cl C X.env) fp) WF ro true elt ge) (hs : ∀ x, foldedSetIterable iter X.env x = pure x := by intro _; rfl) :
    J X W false true (.ListComp elt [⟨tg, iter, ifs, 0⟩] scope pos) (gComp gi (own.map (·.2)) b gt ge) :=
  PE.weakI (pe_lc (te := tJ X WF ro true ge) (tt := tJT X WF gt) (g := tG X (others X.N.length (own.map fun p : Str × Nat => p.2)) b) hc hN hi ok hg ht he hs) fun pins s σ H Q I q => t_lc hk q I.len.symm
/-- x = [..] on one line -/
theorem ss_setLc {i : Nat} {y : Str} {py spos : Pos} {kq : List Nat} {scope : Scope} {own : List (Str × Nat)} (hc : X.calm = true) (hN : X.N.Nodup) (hy : X.N[i]? = some y) (hyl : X.env.scope.names.lookup y = some .local) (hkq : i ∉ kq)
    (hsw : swapsWith (.ListComp elt [⟨tg, iter, ifs, 0⟩] scope pos) (some (.Name y py)) spos.line X.env = pure true) (hi : SI X W kp tg iter gi) (ok : BlkOk X.N X.env.scope scope own) (hk : ∀ i ∈ kp, i ∉ own.map (·.2))
    (hg : ∀ (s : Shared) (H : Hp) (C : Addr) (cl : List (Str × Addr)) (fp : List Addr), SG (X.blk s H scope (compEnvC scope cl C X.env) fp) (others X.N.length (own.map (·.2))) tg b)
    (ht : ∀ (s : Shared) (H : Hp) (C : Addr) (cl : List (Str × Addr)) (fp : List Addr), PTs (X.blk s H scope (compEnvC scope cl C X.env) fp) ifs (tJT (X.blk s H scope (compEnvC scope cl C X.env) fp) WF gt))
    (he : ∀ (s : Shared) (H : Hp) (C : Addr) (cl : List (Str × Addr)) (fp : List Addr), J (X.blk s H scope (compEnvC scope cl C X.env) fp) WF ro true elt ge) (hs : ∀ x, foldedSetIterable iter X.env x = pure x := by intro _; rfl) :
    SS X W kq (.Assign [.Name y py] (.ListComp elt [⟨tg, iter, ifs, 0⟩] scope pos) spos) (gSet i (gComp gi (own.map (·.2)) b gt ge)) :=
  PS.weakI (ps_setLc (te := tJ X WF ro true ge) (tt := tJT X WF gt) (g := tG X (others X.N.length (own.map fun p : Str × Nat => p.2)) b) hc hN hy hyl hsw hi ok hg ht he hs) fun pins s E σ H I ⟨ρ, S, r, dm, q⟩ => by
    refine t_lc (ro := ro) hk (tJ.of r dm q fun p q v H' S1 S2 o => ?_) I.len.symm
    obtain ⟨hl, q⟩ := q.ite
    exact q _ H' _ (Kept.set hkq) o.st (o.rep.store o.ow (o.dj rfl) hl)
end
end DV
set_option Elab.async false
set_option linter.all false
set_option maxRecDepth 100000
set_option maxHeartbeats 1000000
namespace DV
open PySem PySem.Spec PyProof.Rows L2

section
variable {P : Program} {w : World} [KFr w] {H : Hp} {S U : AS} {a : Addr} {o' : HO}
/-- a write beside what is told -/
theorem upd_stays (mu : Mut (H a)) : (∀ (c : Addr) (xs : List V), H c = some (.tup xs) → upd H a o' c = some (.tup xs)) ∧ ∀ (c : Addr) (o : Obj) (u : HO), H c = some (.frz o u) → upd H a o' c = some (.frz o u) :=
  ⟨fun c xs e => by rw [upd_ne (fun z => by rw [← z, e] at mu; exact mu)]; exact e, fun c o u e => by rw [upd_ne (fun z => by rw [← z, e] at mu; exact mu)]; exact e⟩
theorem Own.upd {d : D} {v : V} (o : Own P w H d v S) (mu : Mut (H a)) (n : ¬ S a) : Own P w (upd H a o') d v S :=
  o.stay (fun c u hc e => by rw [upd_ne (fun z => n (by rw [← z]; exact hc))]; exact e) (upd_stays mu).1 (upd_stays mu).2
theorem OwnL.upd {d : List D} {v : List V} (o : OwnL P w H d v S) (mu : Mut (H a)) (n : ¬ S a) : OwnL P w (upd H a o') d v S :=
  o.stay (fun c u hc e => by rw [upd_ne (fun z => n (by rw [← z]; exact hc))]; exact e) (upd_stays mu).1 (upd_stays mu).2
theorem Rep.upd {ρ : Rho} {σ : L2.St} (o : Rep P w H ρ σ S) (mu : Mut (H a)) (n : ¬ S a) : Rep P w (upd H a o') ρ σ S :=
  o.stay (fun c u hc e => by rw [upd_ne (fun z => n (by rw [← z]; exact hc))]; exact e) (upd_stays mu).1 (upd_stays mu).2
theorem Step.upd (dm : Dom S H) (mu : Mut (H a)) (ha : S a) : Step H (upd H a o') S S :=
  ⟨fun c u e n => by rw [upd_ne (fun z => n (by rw [z]; exact ha))]; exact e, fun c h => .inl h, fun c h => by
    by_cases z : c = a
    · rw [z, upd_same]; exact fun q => nomatch q
    · rw [upd_ne z]; exact dm c h, (upd_stays mu).1, (upd_stays mu).2⟩
end

/-! ### a list of ours changed by a method -/
def slotL (ρ : Rho) (i : Nat) : Option (List D) := match ρ[i]? with
  | some (some (.lst xs)) => some xs
  | _ => none
theorem slotL_eq {ρ : Rho} {i : Nat} {xs : List D} (h : slotL ρ i = some xs) : ρ[i]? = some (some (.lst xs)) := by
  unfold slotL at h
  split at h
  · rename_i ys e; cases h; exact e
  · cases h
/-- what r asks is there where op takes the list's items and the arguments; the answer, the new items -/
def ConM (X : Cx) [KFr X.w] (op : List D → List D → Option (D × List D)) (r : V → List V → Hp → VK → Prop) : Prop := ∀ (H : Hp) (a : Addr) (xs : List D) (vs : List V) (ds : List D) (us : List V) (S U : AS) (d' : D) (xs' : List D),
  H a = some (.lst vs) → OwnL X.prog X.w H xs vs S → OwnL X.prog X.w H ds us U → (∀ b, S b → U b → False) → ¬ S a → ¬ U a → op xs ds = some (d', xs') → ∀ Q : VK,
  (∀ vs' v' S' T, OwnL X.prog X.w H xs' vs' S' → Own X.prog X.w H d' v' T → (∀ b, S' b → S b ∨ U b) → (∀ b, T b → S b ∨ U b) → (∀ b, S' b → T b → False) → Q v' (upd H a (.lst vs'))) → r (.ref a) us H Q
def gMut (i : Nat) (op : List D → List D → Option (D × List D)) (gs : Rho → Res (List D × Rho)) : Rho → Res (D × Rho) := fun ρ => (Res.of (slotL ρ i)).bind fun _ => (gs ρ).bind fun p => (Res.of (slotL p.2 i)).bind fun xs => (Res.of (op xs p.1)).bind fun q => .ok (q.1, p.2.set i (some (.lst q.2)))
section
variable {X : Cx} [KFr X.w] [XKf X] {W : WX} {kp : List Nat} {σ : L2.St} {H : Hp} {S : AS} {ro own own' : Bool} {e a k : Expr} {pos : Pos} {g h : Rho → Res (D × Rho)} {gs : Rho → Res (List D × Rho)} {i : Nat}
theorem t_mut {op : List D → List D → Option (D × List D)} {r : V → List V → Hp → VK → Prop} (con : ConM X op r) : ∀ σ H Q, tJ X W false true (gMut i op gs) σ H Q → tBM X.K "list" r (tVar i) (tJA X W ro gs) σ H Q := fun σ H Q ⟨ρ, S, r0, dm, q⟩ => by
  obtain ⟨xs0, hx0, q⟩ := Ans.of_bind q
  obtain ⟨v, T1, T2, hs, ⟨a, vs0, rfl, sa, ht, _⟩, _⟩ := r0.take (slotL_eq hx0)
  refine ⟨.ref a, hs, .inl ⟨rfl, vs0, SqL.of ht⟩, ρ, S, r0, dm, q.bind.mono fun p _ q us H1 S1 S2 o => ?_⟩
  obtain ⟨xs, hx, q⟩ := Ans.of_bind q
  obtain ⟨⟨d', xs'⟩, hop, q⟩ := Ans.of_bind q
  obtain ⟨v2, R1, R2, hs2, ⟨a2, vs, e2, sa2, ht2, ol⟩, r2, k1, k2, dj2⟩ := o.rep.take (slotL_eq hx)
  rw [hs] at hs2
  cases hs2
  cases e2
  have na : ¬ S1 a := fun z => o.dj a z (k1 a sa2)
  have mu : Mut (H1 a) := by rw [ht2]; exact True.intro
  refine con H1 a xs vs p.1 us _ S1 d' xs' ht2 ol o.ow (fun b h1 h2 => o.dj b h2 (k1 b h1.1)) (fun z => z.2 rfl) na hop Q fun vs' v' S' T ol' od' sS sT dST => ?_
  have nS : ¬ S' a := fun z => (sS a z).elim (fun q => q.2 rfl) na
  have nT : ¬ T a := fun z => (sT a z).elim (fun q => q.2 rfl) na
  have sub : ∀ b, S' b ∨ T b → R1 b ∨ S1 b := fun b hb => hb.elim (fun z => (sS b z).imp (fun q => q.1) id) fun z => (sT b z).imp (fun q => q.1) id
  have offR : ∀ b, (S' b ∨ T b) → R2 b → False := fun b hb hr => (sub b hb).elim (fun z => dj2 b z hr) fun z => o.dj b z (k2 b hr)
  have ow' : Own X.prog X.w (upd H1 a (.lst vs')) (.lst xs') (.ref a) (fun b => b = a ∨ S' b) := ⟨a, vs', rfl, .inl rfl, upd_same, (ol'.upd mu nS).mono fun b hb => ⟨.inr hb, fun z => nS (by rw [← z]; exact hb)⟩⟩
  have rr := Rep.back (r2.upd (o' := .lst vs') mu (fun z => dj2 a sa2 z)) ow' (fun b h1 h2 => h1.elim (fun z => dj2 a sa2 (by rw [← z]; exact h2)) fun z => offR b (.inl z) h2) hs
  refine q v' _ T (fun b => (b = a ∨ S' b) ∨ R2 b) ⟨?_, od'.upd mu nT, rr, fun _ b h1 h2 => ?_, fun z => (nomatch z)⟩
  · have st := o.st.trans (Step.upd (o' := .lst vs') o.st.dm mu (.inr (k1 a sa2)))
    refine st.sub fun b hb => ?_
    rcases hb with hb | (hb | hb) | hb
    · exact (sub b (.inr hb)).elim (fun z => .inr (k1 b z)) .inl
    · rw [hb]; exact .inr (k1 a sa2)
    · exact (sub b (.inl hb)).elim (fun z => .inr (k1 b z)) .inl
    · exact .inr (k2 b hb)
  · rcases h2 with (h2 | h2) | h2
    · exact nT (by rw [← h2]; exact h1)
    · exact dST b h2 h1
    · exact offR b (.inr h1) h2

/-! #### append, pop, extend -/
def oAppend (xs ds : List D) : Option (D × List D) := match ds with
  | [d] => if xs.length < sizeLine then some (.non, xs ++ [d]) else none
  | _ => none
theorem ownL_one {P : Program} {w : World} [KFr w] {d : D} {us : List V} (o : OwnL P w H [d] us S) : ∃ u, us = [u] ∧ Own P w H d u S := by
  obtain ⟨v, vr, S1, S2, e, o1, o2, k1, _⟩ := o
  rw [show vr = [] from o2] at e
  exact ⟨v, e, o1.mono k1⟩
theorem con_append : ConM X oAppend rAppend := fun H a xs vs ds us S U d' xs' ht ol oa dj nS nU hop Q kk => by
  unfold oAppend at hop
  split at hop
  · rename_i d
    split at hop
    · rename_i hl
      cases hop
      obtain ⟨u, rfl, ou⟩ := ownL_one oa
      exact ⟨a, vs, u, rfl, rfl, ht, by rw [ol.length]; exact hl, kk _ .non (fun b => U b ∨ S b) (fun _ => False) (OwnL.snoc ol ou (fun b h1 h2 => dj b h2 h1)) rfl (fun b hb => hb.symm) (fun b z => z.elim) fun b _ z => z⟩
    · cases hop
  · cases hop
def oExtend (xs ds : List D) : Option (D × List D) := match ds with
  | [.lst ys] => if xs.length + ys.length ≤ sizeLine ∧ D.pures ys = true then some (.non, xs ++ ys) else none
  | _ => none
theorem OwnL.app {P : Program} {w : World} [KFr w] : ∀ {ds es : List D} {vs us : List V} {S : AS}, OwnL P w H ds vs S → OwnL P w H es us (fun _ => False) → OwnL P w H (ds ++ es) (vs ++ us) S
  | [], es, vs, us, S, h, k => by rw [show vs = [] from h]; exact k.mono fun b z => z.elim
  | d :: ds, es, vs, us, S, ⟨v, vr, S1, S2, e, o1, o2, k1, k2, dj⟩, k => ⟨v, vr ++ us, S1, S2, by rw [e]; rfl, o1, OwnL.app o2 k, k1, k2, dj⟩
theorem con_extend : ConM X oExtend rExtend := fun H a xs vs ds us S U d' xs' ht ol oa dj nS nU hop Q kk => by
  unfold oExtend at hop
  split at hop
  · rename_i ys
    split at hop
    · rename_i hl
      cases hop
      obtain ⟨u, rfl, b, ws, rfl, _, hb, oy⟩ := ownL_one oa
      exact ⟨a, b, vs, ws, rfl, rfl, ht, hb, by rw [ol.length, oy.length]; exact hl.1, kk _ .non S (fun _ => False) (OwnL.app ol (oy.ofPure hl.2)) rfl (fun b hb => .inl hb) (fun b z => z.elim) fun b _ z => z⟩
    · cases hop
  · cases hop
def oPop (xs ds : List D) : Option (D × List D) := match ds with
  | [] => match xs[xs.length - 1]? with
    | some d => some (d, xs.dropLast)
    | none => none
  | _ => none
theorem OwnL.erase {P : Program} {w : World} [KFr w] : ∀ {ds : List D} {vs : List V} {S : AS} {i : Nat} {d : D}, OwnL P w H ds vs S → ds[i]? = some d → ∃ v S1 S2, vs[i]? = some v ∧ Own P w H d v S1 ∧ OwnL P w H (ds.eraseIdx i) (vs.eraseIdx i) S2 ∧ (∀ b, S1 b → S b) ∧ (∀ b, S2 b → S b) ∧ ∀ b, S1 b → S2 b → False
  | d0 :: ds, vs, S, 0, d, ⟨v, vr, S1, S2, e, o1, o2, k1, k2, dj⟩, h => by
    simp only [List.getElem?_cons_zero, Option.some.injEq] at h
    subst h e
    exact ⟨v, S1, S2, rfl, o1, o2, k1, k2, dj⟩
  | d0 :: ds, vs, S, i + 1, d, ⟨v, vr, S1, S2, e, o1, o2, k1, k2, dj⟩, h => by
    subst e
    obtain ⟨v', T1, T2, e', o', oe, j1, j2, dj'⟩ := OwnL.erase (i := i) (d := d) o2 (by simpa using h)
    refine ⟨v', T1, fun b => S1 b ∨ T2 b, by simpa using e', o', ⟨v, vr.eraseIdx i, S1, T2, rfl, o1, oe, fun b hb => .inl hb, fun b hb => .inr hb, fun b h1 h2 => dj b h1 (j2 b h2)⟩, fun b hb => k2 b (j1 b hb), fun b hb => hb.elim (k1 b) fun z => k2 b (j2 b z), fun b h1 h2 => h2.elim (fun z => dj b z (j1 b h1)) fun z => dj' b h1 z⟩
theorem con_pop : ConM X oPop rPop := fun H a xs vs ds us S U d' xs' ht ol oa dj nS nU hop Q kk => by
  unfold oPop at hop
  split at hop
  · split at hop
    · rename_i d hd
      cases hop
      have hl := ol.length
      obtain ⟨v, S1, S2, hv, ov, oe, k1, k2, dj'⟩ := ol.erase hd
      refine ⟨a, vs, v, rfl, oa, ht, by rw [hl]; exact hv, kk _ v S2 S1 ?_ ov (fun b hb => .inl (k2 b hb)) (fun b hb => .inl (k1 b hb)) fun b h1 h2 => dj' b h2 h1⟩
      rw [← List.eraseIdx_length_sub_one, ← List.eraseIdx_length_sub_one, hl]
      exact oe
    · cases hop
  · cases hop
noncomputable def oPopAt (xs ds : List D) : Option (D × List D) := match ds with
  | [.int i] => if Hid (-(2 ^ 63) ≤ i ∧ i < 2 ^ 63) then (match seqIndex? i xs.length with
    | some k => (match xs[k]? with
      | some d => some (d, xs.eraseIdx k)
      | none => none)
    | none => none) else none
  | _ => none
theorem con_popAt : ConM X oPopAt rPopAt := fun H a xs vs ds us S U d' xs' ht ol oa dj nS nU hop Q kk => by
  unfold oPopAt at hop
  split at hop
  · rename_i i
    split at hop
    · rename_i hi
      split at hop
      · rename_i k hk
        split at hop
        · rename_i d hd
          cases hop
          obtain ⟨u, rfl, eu⟩ := ownL_one oa
          have hl := ol.length
          obtain ⟨v, S1, S2, hv, ov, oe, k1, k2, dj'⟩ := ol.erase hd
          exact ⟨a, vs, i, k, v, rfl, by rw [show u = .int i from eu], ht, hi.1, hi.2, by rw [hl]; exact hk, hv, kk _ v S2 S1 oe ov (fun b hb => .inl (k2 b hb)) (fun b hb => .inl (k1 b hb)) fun b h1 h2 => dj' b h2 h1⟩
        · cases hop
      · cases hop
    · cases hop
  · cases hop
variable {x : Str} {p apos cpos : Pos} {es : List Expr}
/-- x.m(e), x a name of ours that holds a list -/
theorem j_mut1 {op : List D → List D → Option (D × List D)} {r : V → List V → Hp → VK → Prop} {m : Str} {id : String} (con : ConM X op r) (slot : Slot "list" m id) (hty : typeOf (.builtin id) = pure (.type "method_descriptor")) (hm : MtR X id r) (hN : X.N[i]? = some x) (hv : Vis X.env.scope x) (ha : JA X W ro (e :: es) gs)
    (hbase : attributeBase (.Name x p) m X.env (eval (.Name x p) X.env) = eval (.Name x p) X.env := by rfl)
    (hfew : ((backTo cpos (starEach (e :: es) X.env)).all (fun x => !x.1) && (backToKw cpos (keywordEach [] X.env)).all (fun x => x.1.isSome)
      && decide ((e :: es).length + ([] : List Keyword).length + (if ([] : List Keyword).isEmpty then 0 else 1) < 30)) = true := by rfl)
    (hline : (apos.endLine == cpos.line) = true := by rfl) (hs : starEach (e :: es) X.env = (false, eval e X.env) :: starEach es X.env := by rfl) (hplain : (backTo cpos (starEach es X.env)).any (·.1) = false := by rfl) (hd : (x == ("__debug__" : Str)) = false := by decide) (hcd : (x == ("__classdict__" : Str)) = false := by decide) :
    J X W false true (.Call (.Attribute (.Name x p) m apos) (e :: es) [] cpos) (gMut i op gs) :=
  PE.weak (pe_bm PySem.F.plainAttrs_list slot hty hm (pe_var hN hv hd hcd) ha hbase hfew hline hs hplain) (t_mut con)
theorem j_append (hN : X.N[i]? = some x) (hv : Vis X.env.scope x) (ha : J X W ro true e g)
    (hbase : attributeBase (.Name x p) "append" X.env (eval (.Name x p) X.env) = eval (.Name x p) X.env := by rfl)
    (hline : (apos.endLine == cpos.line) = true := by rfl) (hs : starEach [e] X.env = (false, eval e X.env) :: starEach [] X.env := by rfl)
    (hfew : ((backTo cpos (starEach [e] X.env)).all (fun x => !x.1) && (backToKw cpos (keywordEach [] X.env)).all (fun x => x.1.isSome)
      && decide (([e] : List Expr).length + ([] : List Keyword).length + (if ([] : List Keyword).isEmpty then 0 else 1) < 30)) = true := by rfl) (hplain : (backTo cpos (starEach ([] : List Expr) X.env)).any (·.1) = false := by rfl)
    (hd : (x == ("__debug__" : Str)) = false := by decide) (hcd : (x == ("__classdict__" : Str)) = false := by decide) :
    J X W false true (.Call (.Attribute (.Name x p) "append" apos) [e] [] cpos) (gMut i oAppend (gCons g gNil)) := j_mut1 con_append PySem.F.slot_list_append PySem.F.type_list_append mt_append hN hv (ja_cons ha ja_nil hs) hbase hfew hline hs hplain hd hcd
theorem j_extend (hN : X.N[i]? = some x) (hv : Vis X.env.scope x) (ha : J X W ro true e g)
    (hbase : attributeBase (.Name x p) "extend" X.env (eval (.Name x p) X.env) = eval (.Name x p) X.env := by rfl)
    (hline : (apos.endLine == cpos.line) = true := by rfl) (hs : starEach [e] X.env = (false, eval e X.env) :: starEach [] X.env := by rfl)
    (hfew : ((backTo cpos (starEach [e] X.env)).all (fun x => !x.1) && (backToKw cpos (keywordEach [] X.env)).all (fun x => x.1.isSome)
      && decide (([e] : List Expr).length + ([] : List Keyword).length + (if ([] : List Keyword).isEmpty then 0 else 1) < 30)) = true := by rfl) (hplain : (backTo cpos (starEach ([] : List Expr) X.env)).any (·.1) = false := by rfl)
    (hd : (x == ("__debug__" : Str)) = false := by decide) (hcd : (x == ("__classdict__" : Str)) = false := by decide) :
    J X W false true (.Call (.Attribute (.Name x p) "extend" apos) [e] [] cpos) (gMut i oExtend (gCons g gNil)) := j_mut1 con_extend PySem.F.slot_list_extend PySem.F.type_list_extend mt_extend hN hv (ja_cons ha ja_nil hs) hbase hfew hline hs hplain hd hcd
theorem j_popAt (hN : X.N[i]? = some x) (hv : Vis X.env.scope x) (ha : J X W ro true e g)
    (hbase : attributeBase (.Name x p) "pop" X.env (eval (.Name x p) X.env) = eval (.Name x p) X.env := by rfl)
    (hline : (apos.endLine == cpos.line) = true := by rfl) (hs : starEach [e] X.env = (false, eval e X.env) :: starEach [] X.env := by rfl)
    (hfew : ((backTo cpos (starEach [e] X.env)).all (fun x => !x.1) && (backToKw cpos (keywordEach [] X.env)).all (fun x => x.1.isSome)
      && decide (([e] : List Expr).length + ([] : List Keyword).length + (if ([] : List Keyword).isEmpty then 0 else 1) < 30)) = true := by rfl) (hplain : (backTo cpos (starEach ([] : List Expr) X.env)).any (·.1) = false := by rfl)
    (hd : (x == ("__debug__" : Str)) = false := by decide) (hcd : (x == ("__classdict__" : Str)) = false := by decide) :
    J X W false true (.Call (.Attribute (.Name x p) "pop" apos) [e] [] cpos) (gMut i oPopAt (gCons g gNil)) := j_mut1 con_popAt PySem.F.slot_list_pop PySem.F.type_list_pop mt_popAt hN hv (ja_cons ha ja_nil hs) hbase hfew hline hs hplain hd hcd
theorem j_pop (hN : X.N[i]? = some x) (hv : Vis X.env.scope x)
    (hbase : attributeBase (.Name x p) "pop" X.env (eval (.Name x p) X.env) = eval (.Name x p) X.env := by rfl)
    (hline : (apos.endLine == cpos.line) = true := by rfl)
    (hd : (x == ("__debug__" : Str)) = false := by decide) (hcd : (x == ("__classdict__" : Str)) = false := by decide) :
    J X W false true (.Call (.Attribute (.Name x p) "pop" apos) [] [] cpos) (gMut i oPop gNil) :=
  PE.weak (pe_bm0 PySem.F.plainAttrs_list PySem.F.slot_list_pop PySem.F.type_list_pop mt_pop (pe_var hN hv hd hcd) hbase hline) fun σ H Q q => by
    obtain ⟨v, hs, ty, ρ, S, r, dm, q⟩ := t_mut (ro := true) (gs := gNil) con_pop σ H Q q
    exact ⟨v, hs, ty, q [] H (fun _ => False) S ⟨(Step.refl dm).sub fun b hb => hb.elim False.elim id, rfl, r, fun b z => z.elim, fun _ => ⟨fun _ _ e => e, rfl⟩⟩⟩
end
end DV
set_option Elab.async false
set_option linter.all false
set_option maxRecDepth 100000
set_option maxHeartbeats 1000000
namespace DV
open PySem PySem.Spec PyProof.Rows L2

/-! ### what a def is worth -/
abbrev FRes := Res (D × List (Option D))
/-- the promise: from the arguments' data to the answer and what the arguments are behind it -/
def AnsF (P : Program) (w : World) [KFr w] (mg : Str → Option Value) (vs : List V) (H : Hp) (S : AS) (Q : VK) (E : XK) : FRes → Prop
  | .ok p => ∀ v H' S1 S2, Step H H' S (fun b => S1 b ∨ S2 b) → Own P w H' p.1 v S1 → Rep P w H' p.2 (vs.map some) S2 → (∀ b, S1 b → S2 b → False) → Q v H'
  | .raise x _ => ∀ C dx H', Step H H' S (fun _ => False) → ExR P w mg H' x C dx → E C dx H'
  | .stuck => False
def spD (P : Program) (w : World) [KFr w] (mg : Str → Option Value) (n : Nat) (g : List D → FRes) : Sp := fun vs H Q E => ∃ ds S, ds.length = n ∧ OwnL P w H ds vs S ∧ Dom S H ∧ AnsF P w mg vs H S Q E (g ds)
/-- f keeps the promise g, at level k -/
def FnD (P : Program) (w : World) [KFr w] (K : PySem.W.Frag) (mg : Str → Option Value) (base : Heap) (k : Nat) (f : Addr) (fd : FuncData) (ps : List Str) (g : List D → FRes) : Prop := FnOk P w K mg base (L2.CX P w) k f fd ps (spD P w mg ps.length g)
/-- a promise said otherwise, where it says something -/
theorem FnD.imp {P : Program} {w : World} [KFr w] {K : PySem.W.Frag} {mg : Str → Option Value} {base : Heap} {k : Nat} {f : Addr} {fd : FuncData} {ps : List Str} {g g' : List D → FRes} (F : FnD P w K mg base k f fd ps g) (h : ∀ ds, g' ds ≠ .stuck → g ds = g' ds) : FnD P w K mg base k f fd ps g' :=
  FnOk.imp F fun vs H Q E ⟨ds, S, hl, o, dm, q⟩ => ⟨ds, S, hl, o, dm, by
    by_cases hs : g' ds = .stuck
    · rw [hs] at q; exact q.elim
    · rw [h ds hs]; exact q⟩

/-! ### arguments: values, and names of ours that are lent -/
inductive Arg where
  | own (d : D)
  | lent (i : Nat)
def ArgL (P : Program) (w : World) [KFr w] (H : Hp) (σ : L2.St) : List Arg → List V → AS → Prop
  | [], vs, _ => vs = []
  | .own d :: as, vs, S => ∃ v vr S1 S2, vs = v :: vr ∧ Own P w H d v S1 ∧ ArgL P w H σ as vr S2 ∧ (∀ b, S1 b → S b) ∧ (∀ b, S2 b → S b) ∧ ∀ b, S1 b → S2 b → False
  | .lent i :: as, vs, S => ∃ v vr, vs = v :: vr ∧ σ[i]? = some (some v) ∧ ArgL P w H σ as vr S
def takeArgs : List Arg → Rho → Option (List D × Rho)
  | [], ρ => some ([], ρ)
  | .own d :: as, ρ => (takeArgs as ρ).map fun p => (d :: p.1, p.2)
  | .lent i :: as, ρ => match ρ[i]? with
    | some (some d) => if d.pure = true then (takeArgs as ρ).map fun p => (d :: p.1, p.2) else (takeArgs as (ρ.set i none)).map fun p => (d :: p.1, p.2)
    | _ => none
def putArgs : List Arg → List D → List (Option D) → Rho → Rho
  | .own _ :: as, _ :: ds, _ :: os, ρ => putArgs as ds os ρ
  | .lent i :: as, d :: ds, o :: os, ρ => if d.pure = true then putArgs as ds os ρ else putArgs as ds os (ρ.set i o)
  | _, _, _, ρ => ρ
section
variable {P : Program} {w : World} [KFr w] {H H' : Hp} {σ : L2.St}
theorem ArgL.stay : ∀ {as : List Arg} {vs : List V} {S : AS}, ArgL P w H σ as vs S → (∀ a o, S a → H a = some o → H' a = some o) → (∀ a xs, H a = some (.tup xs) → H' a = some (.tup xs)) → (∀ a o u, H a = some (.frz o u) → H' a = some (.frz o u)) → ArgL P w H' σ as vs S
  | [], _, _, h, _, _, _ => h
  | .own d :: as, vs, S, ⟨v, vr, S1, S2, e, o1, o2, k1, k2, dj⟩, k, kt, kf => ⟨v, vr, S1, S2, e, o1.stay (fun b u hb => k b u (k1 _ hb)) kt kf, ArgL.stay o2 (fun b u hb => k b u (k2 _ hb)) kt kf, k1, k2, dj⟩
  | .lent i :: as, vs, S, ⟨v, vr, e, h, o2⟩, k, kt, kf => ⟨v, vr, e, h, ArgL.stay o2 k kt kf⟩
theorem takeArgs_ok : ∀ {as : List Arg} {vs : List V} {S1 S2 : AS} {ρ ρ' : Rho} {ds : List D}, ArgL P w H σ as vs S1 → Rep P w H ρ σ S2 → (∀ b, S1 b → S2 b → False) → takeArgs as ρ = some (ds, ρ') →
    ∃ A R, OwnL P w H ds vs A ∧ Rep P w H ρ' σ R ∧ (∀ b, A b → R b → False) ∧ (∀ b, A b → S1 b ∨ S2 b) ∧ ∀ b, R b → S2 b
  | [], vs, S1, S2, ρ, ρ', ds, h, r, dj, e => by
    cases e
    exact ⟨fun _ => False, S2, h, r, fun b z => z.elim, fun b z => z.elim, fun b hb => hb⟩
  | .own d :: as, vs, S1, S2, ρ, ρ', ds, ⟨v, vr, T1, T2, ev, o1, o2, k1, k2, dT⟩, r, dj, e => by
    rw [takeArgs, Option.map_eq_some_iff] at e
    obtain ⟨⟨ds', ρ2⟩, e1, e2⟩ := e
    cases e2
    subst ev
    obtain ⟨A, R, oA, rR, dAR, sA, sR⟩ := takeArgs_ok o2 r (fun b h1 h2 => dj b (k2 b h1) h2) e1
    have dTA : ∀ b, T1 b → A b → False := fun b h1 h2 => (sA b h2).elim (fun z => dT b h1 z) fun z => dj b (k1 b h1) z
    refine ⟨fun b => T1 b ∨ A b, R, ⟨v, vr, T1, A, rfl, o1, oA, fun b hb => .inl hb, fun b hb => .inr hb, dTA⟩, rR, fun b h1 h2 => h1.elim (fun z => dj b (k1 b z) (sR b h2)) fun z => dAR b z h2, fun b hb => hb.elim (fun z => .inl (k1 b z)) fun z => (sA b z).imp (k2 b) id, sR⟩
  | .lent i :: as, vs, S1, S2, ρ, ρ', ds, ⟨v, vr, ev, hv, o2⟩, r, dj, e => by
    rw [takeArgs] at e
    split at e
    · rename_i d hd
      subst ev
      split at e
      · rename_i hp
        rw [Option.map_eq_some_iff] at e
        obtain ⟨⟨ds', ρ2⟩, e1, e2⟩ := e
        cases e2
        obtain ⟨A, R, oA, rR, dAR, sA, sR⟩ := takeArgs_ok o2 r dj e1
        obtain ⟨v2, T1, T2, hs, o1, _⟩ := r.take hd
        rw [hv] at hs
        cases hs
        exact ⟨A, R, ⟨v, vr, fun _ => False, A, rfl, o1.ofPure hp, oA, fun b z => z.elim, fun b hb => hb, fun b z => z.elim⟩, rR, dAR, sA, sR⟩
      · rw [Option.map_eq_some_iff] at e
        obtain ⟨⟨ds', ρ2⟩, e1, e2⟩ := e
        cases e2
        obtain ⟨v2, T1, T2, hs, o1, r2, k1, k2, dT⟩ := r.take hd
        rw [hv] at hs
        cases hs
        obtain ⟨A, R, oA, rR, dAR, sA, sR⟩ := takeArgs_ok o2 r2 (fun b h1 h2 => dj b h1 (k2 b h2)) e1
        have dTA : ∀ b, T1 b → A b → False := fun b h1 h2 => (sA b h2).elim (fun z => dj b z (k1 b h1)) fun z => dT b h1 z
        exact ⟨fun b => T1 b ∨ A b, R, ⟨v, vr, T1, A, rfl, o1, oA, fun b hb => .inl hb, fun b hb => .inr hb, dTA⟩, rR, fun b h1 h2 => h1.elim (fun z => dT b z (sR b h2)) fun z => dAR b z h2, fun b hb => hb.elim (fun z => .inr (k1 b z)) fun z => (sA b z).imp id (k2 b), fun b hb => k2 b (sR b hb)⟩
    · cases e
theorem putArgs_ok : ∀ {as : List Arg} {vs : List V} {S1 T R : AS} {ρ : Rho} {ds : List D} {os : List (Option D)}, ArgL P w H σ as vs S1 → Rep P w H' os (vs.map some) T → Rep P w H' ρ σ R → (∀ b, T b → R b → False) →
    Rep P w H' (putArgs as ds os ρ) σ (fun b => T b ∨ R b)
  | [], vs, S1, T, R, ρ, ds, os, h, ro, r, dj => by
    cases ds <;> cases os <;> exact r.mono fun b hb => .inr hb
  | .own d :: as, vs, S1, T, R, ρ, [], os, h, ro, r, dj => by cases os <;> exact r.mono fun b hb => .inr hb
  | .own d :: as, vs, S1, T, R, ρ, d0 :: ds, [], h, ro, r, dj => r.mono fun b hb => .inr hb
  | .own d :: as, vs, S1, T, R, ρ, d0 :: ds, o :: os, ⟨v, vr, T1, T2, ev, o1, o2, k1, k2, dT⟩, ro, r, dj => by
    subst ev
    rw [putArgs]
    cases o with
    | none =>
      obtain ⟨x, σ', e, ro⟩ := ro
      cases e
      exact putArgs_ok o2 ro r dj
    | some d' =>
      obtain ⟨v', σ', U1, U2, e, ow, ro, j1, j2, dU⟩ := ro
      cases e
      exact (putArgs_ok o2 ro r (fun b h1 h2 => dj b (j2 b h1) h2)).mono fun b hb => hb.imp (j2 b) id
  | .lent i :: as, vs, S1, T, R, ρ, [], os, h, ro, r, dj => by cases os <;> exact r.mono fun b hb => .inr hb
  | .lent i :: as, vs, S1, T, R, ρ, d0 :: ds, [], h, ro, r, dj => r.mono fun b hb => .inr hb
  | .lent i :: as, vs, S1, T, R, ρ, d0 :: ds, o :: os, ⟨v, vr, ev, hv, o2⟩, ro, r, dj => by
    subst ev
    rw [putArgs]
    cases o with
    | none =>
      obtain ⟨x, σ', e, ro⟩ := ro
      cases e
      split
      · exact putArgs_ok o2 ro r dj
      · exact putArgs_ok o2 ro r.drop dj
    | some d' =>
      obtain ⟨v', σ', U1, U2, e, ow, ro, j1, j2, dU⟩ := ro
      cases e
      split
      · exact (putArgs_ok o2 ro r (fun b h1 h2 => dj b (j2 b h1) h2)).mono fun b hb => hb.imp (j2 b) id
      · have rb := Rep.back r.drop ow (fun b h1 h2 => dj b (j1 b h1) h2) hv
        exact (putArgs_ok o2 ro rb (fun b h1 h2 => h2.elim (fun z => dU b z h1) fun z => dj b (j2 b h1) z)).mono fun b hb => by
          rcases hb with hb | hb | hb
          · exact .inl (j2 b hb)
          · exact .inl (j1 b hb)
          · exact .inr hb
end
structure OutA (P : Program) (w : World) [KFr w] (H : Hp) (S : AS) (σ : L2.St) (as : List Arg) (ρ' : Rho) (vs : List V) (H' : Hp) (S1 S2 : AS) : Prop where
  st : Step H H' S (fun b => S1 b ∨ S2 b)
  ow : ArgL P w H' σ as vs S1
  rep : Rep P w H' ρ' σ S2
  dj : ∀ b, S1 b → S2 b → False
def tJL (X : Cx) [KFr X.w] (W : WX) (gs : Rho → Res (List Arg × Rho)) : TA := fun σ H Q => ∃ ρ S, Rep X.prog X.w H ρ σ S ∧ Dom S H ∧
  Ans X W σ H S (gs ρ) fun p => ∀ vs H' S1 S2, OutA X.prog X.w H S σ p.1 p.2 vs H' S1 S2 → Q vs H'
def JL (X : Cx) [KFr X.w] (W : WX) (es : List Expr) (gs : Rho → Res (List Arg × Rho)) : Prop := PA X es (tJL X W gs)
def lNil : Rho → Res (List Arg × Rho) := fun ρ => .ok ([], ρ)
def lOwn (g : Rho → Res (D × Rho)) (gs : Rho → Res (List Arg × Rho)) : Rho → Res (List Arg × Rho) := fun ρ => (g ρ).bind fun p => (gs p.2).bind fun q => .ok (.own p.1 :: q.1, q.2)
def lLent (i : Nat) (gs : Rho → Res (List Arg × Rho)) : Rho → Res (List Arg × Rho) := fun ρ => match ρ[i]? with
  | some (some _) => (gs ρ).bind fun q => .ok (.lent i :: q.1, q.2)
  | _ => .stuck
section
variable {X : Cx} [KFr X.w] [XKf X] {W : WX} {ro own own' : Bool} {e : Expr} {es : List Expr} {pos p : Pos} {g : Rho → Res (D × Rho)} {gs : Rho → Res (List Arg × Rho)} {ga : Rho → Res (List D × Rho)} {i : Nat} {x : Str}
theorem jl_nil : JL X W [] lNil := PA.weak pa_nil fun σ H Q ⟨ρ, S, r, dm, q⟩ => q [] H (fun _ => False) S ⟨(Step.refl dm).sub fun b hb => hb.elim False.elim id, rfl, r, fun b z => z.elim⟩
theorem jl_own (ha : J X W ro true e g) (hr : JL X W es gs) (hs : starEach (e :: es) X.env = (false, eval e X.env) :: starEach es X.env := by rfl) : JL X W (e :: es) (lOwn g gs) := PA.weak (pa_cons ha hr hs) fun σ H Q ⟨ρ, S, r, dm, q⟩ => ⟨ρ, S, r, dm, q.bind.mono fun p _ q v H1 S1 S2 o =>
  ⟨p.2, S2, o.rep, o.dm2, (q.bind.step o.st2).mono fun p2 _ q vs H2 T1 T2 o2 => by
    obtain ⟨st, n1⟩ := step_two o.st o2.st (o.dj rfl)
    exact q (v :: vs) H2 (fun b => S1 b ∨ T1 b) T2 ⟨st, ⟨v, vs, S1, T1, rfl, o.ow.step o2.st (o.dj rfl), o2.ow, fun b hb => .inl hb, fun b hb => .inr hb, fun b h1 h2 => n1 b h1 (.inl h2)⟩, o2.rep, fun b h1 h2 => h1.elim (fun z => n1 b z (.inr h2)) fun z => o2.dj b z h2⟩⟩⟩
theorem jl_lent (hN : X.N[i]? = some x) (hv : Vis X.env.scope x) (hr : JL X W es gs) (hs : starEach (.Name x pos :: es) X.env = (false, eval (.Name x pos) X.env) :: starEach es X.env := by rfl) (hd : (x == ("__debug__" : Str)) = false := by decide) (hcd : (x == ("__classdict__" : Str)) = false := by decide) :
    JL X W (.Name x pos :: es) (lLent i gs) := PA.weak (pa_cons (pe_var hN hv hd hcd) hr hs) fun σ H Q ⟨ρ, S, r, dm, q⟩ => by
  obtain ⟨d, hρ, q⟩ := gVar_ok (f := fun _ => (gs ρ).bind fun q => .ok (.lent i :: q.1, q.2)) q
  obtain ⟨v, _, _, hs, _⟩ := r.take hρ
  exact ⟨v, hs, ρ, S, r, dm, q.bind.mono fun p2 _ q vs H2 T1 T2 o2 => q (v :: vs) H2 T1 T2 ⟨o2.st, ⟨v, vs, rfl, hs, o2.ow⟩, o2.rep, o2.dj⟩⟩

/-! ### calls -/
def callK (f : List D → FRes) (as : List Arg) (ρ : Rho) : Res (D × Rho) := match takeArgs as ρ with
  | some (ds, ρ') => (match f ds with
    | .ok (d, os) => .ok (d, putArgs as ds os ρ')
    | .raise x _ => .raise x ρ'
    | .stuck => .stuck)
  | none => .stuck
def gCall (f : List D → FRes) (gs : Rho → Res (List Arg × Rho)) : Rho → Res (D × Rho) := fun ρ => (gs ρ).bind fun p => callK f p.1 p.2
variable {k : Nat} {f : Addr} {fd : FuncData} {ps : List Str} {fs : List D → FRes}
theorem Step.frame {H H' : Hp} {A R T : AS} (st : Step H H' A T) (dm : Dom R H) (dj : ∀ b, A b → R b → False) : Step H H' (fun b => A b ∨ R b) (fun b => T b ∨ R b) ∧ ∀ b, T b → R b → False :=
  ⟨⟨fun a o e n => st.fr a o e fun z => n (.inl z), fun a h => h.elim (fun z => (st.nw a z).imp .inl id) fun z => .inl (.inr z), fun a h => h.elim (st.dm a) fun z => by
    cases e : H a with
    | none => exact absurd e (dm a z)
    | some o => rw [st.fr a o e fun y => dj a y z]; exact fun q => (nomatch q), st.tp, st.fz⟩, fun b h1 h2 => (st.nw b h1).elim (fun z => dj b z h2) fun z => dm b h2 z⟩
theorem t_call (hn : ∀ p ρ, gs ρ = .ok p → p.1.length = ps.length) : ∀ σ H Q, tJ X W false true (gCall fs gs) σ H Q → tCallS (spD X.prog X.w X.mg ps.length fs) (fun σ => WE W σ) (tJL X W gs) σ H Q := fun σ H Q ⟨ρ, S, r, dm, q⟩ => ⟨ρ, S, r, dm, q.bind.mono fun p hp q vs H1 S1 S2 o => by
  obtain ⟨as, ρ1⟩ := p
  unfold callK at q
  cases ht : takeArgs as ρ1 with
  | none => rw [ht] at q; exact q.elim
  | some t =>
    obtain ⟨ds, ρ2⟩ := t
    rw [ht] at q
    obtain ⟨A, R, oA, rR, dAR, sA, sR⟩ := takeArgs_ok o.ow o.rep o.dj ht
    have dA : Dom A H1 := fun b hb => o.st.dm b (sA b hb)
    have dR : Dom R H1 := fun b hb => o.st.dm b (.inr (sR b hb))
    have lens : ds.length = ps.length := by
      have l1 : ∀ {as : List Arg} {ρ ρ' : Rho} {ds : List D}, takeArgs as ρ = some (ds, ρ') → ds.length = as.length := by
        intro as
        induction as with
        | nil => intro ρ ρ' ds h; cases h; rfl
        | cons a as ih =>
          intro ρ ρ' ds h
          cases a with
          | own d =>
            rw [takeArgs, Option.map_eq_some_iff] at h
            obtain ⟨⟨d1, r1⟩, e1, e2⟩ := h
            cases e2
            rw [List.length_cons, List.length_cons, ih e1]
          | lent i =>
            rw [takeArgs] at h
            split at h
            · split at h
              · rw [Option.map_eq_some_iff] at h
                obtain ⟨⟨d1, r1⟩, e1, e2⟩ := h
                cases e2
                rw [List.length_cons, List.length_cons, ih e1]
              · rw [Option.map_eq_some_iff] at h
                obtain ⟨⟨d1, r1⟩, e1, e2⟩ := h
                cases e2
                rw [List.length_cons, List.length_cons, ih e1]
            · cases h
      rw [l1 ht]
      exact hn _ _ hp
    have stA : Step H H1 S (fun b => A b ∨ R b) := o.st.sub fun b hb => hb.elim (sA b) fun z => .inr (sR b z)
    refine ⟨ds, A, lens, oA, dA, ?_⟩
    cases hf : fs ds with
    | ok z =>
      obtain ⟨d, os⟩ := z
      simp only [hf] at q
      intro v H2 T1 T2 st oT rT dT
      obtain ⟨st2, dTR⟩ := Step.frame st dR dAR
      have rR2 : Rep X.prog X.w H2 ρ2 σ R := rR.stay (fun a u h e => st.fr a u e fun z => dAR a z h) st.tp st.fz
      have rep := putArgs_ok (ds := ds) (H' := H2) o.ow rT rR2 (fun b h1 h2 => dTR b (.inr h1) h2)
      exact q v H2 T1 _ ⟨(stA.trans st2).sub fun b hb => by
        rcases hb with hb | hb | hb
        · exact .inl (.inl hb)
        · exact .inl (.inr hb)
        · exact .inr hb, oT, rep, fun _ b h1 h2 => h2.elim (fun z => dT b h1 z) fun z => dTR b (.inl h1) z, fun z => (nomatch z)⟩
    | raise x y =>
      simp only [hf] at q
      intro C dx H2 st ex
      obtain ⟨st2, _⟩ := Step.frame st dR dAR
      have rR2 : Rep X.prog X.w H2 ρ2 σ R := rR.stay (fun a u h e => st.fr a u e fun z => dAR a z h) st.tp st.fz
      exact q C dx H2 R ⟨(stA.trans st2).sub fun b hb => .inr hb, rR2, ex⟩
    | stuck => simp only [hf] at q; exact q.elim⟩
theorem j_call (F : FnD X.prog X.w X.K X.mg X.base k f fd ps fs) (hr : Room k X.A) (hg : Gl X x) (hm : X.mg x = some (.ref f)) (hk : PySem.W.keepIn X.K (.ref f) = true) (hb : Binds X.K fd ps []) (tk : Takes X W) (ha : JL X W (e :: es) gs)
    (hn : ∀ p ρ, gs ρ = .ok p → p.1.length = ps.length) (hdb : (x == ("__debug__" : Str)) = false := by decide) (he : starEach (e :: es) X.env = (false, eval e X.env) :: starEach es X.env := by rfl) (hpl : (backTo pos (starEach es X.env)).any (·.1) = false := by rfl) :
    J X W false true (.Call (.Name x p) (e :: es) [] pos) (gCall fs gs) := PE.weak (pe_callS F hr hg hm hk hb (fun σ => passAt tk σ) ha hdb he hpl) (t_call hn)
theorem lNil_len : ∀ p ρ, lNil ρ = .ok p → p.1.length = 0 := fun p ρ h => by cases h; rfl
theorem lOwn_len {n : Nat} (h : ∀ p ρ, gs ρ = .ok p → p.1.length = n) : ∀ p ρ, lOwn g gs ρ = .ok p → p.1.length = n + 1 := fun p ρ e => by
  unfold lOwn at e
  cases h1 : g ρ with
  | ok q =>
    rw [h1] at e
    simp only [Res.bind] at e
    cases h2 : gs q.2 with
    | ok q2 => rw [h2] at e; cases e; rw [List.length_cons, h q2 _ h2]
    | raise y z => rw [h2] at e; cases e
    | stuck => rw [h2] at e; cases e
  | raise y z => rw [h1] at e; cases e
  | stuck => rw [h1] at e; cases e
theorem lLent_len {n : Nat} (h : ∀ p ρ, gs ρ = .ok p → p.1.length = n) : ∀ p ρ, lLent i gs ρ = .ok p → p.1.length = n + 1 := fun p ρ e => by
  unfold lLent at e
  split at e
  · cases h2 : gs ρ with
    | ok q2 => rw [h2] at e; cases e; rw [List.length_cons, h q2 _ h2]
    | raise y z => rw [h2] at e; cases e
    | stuck => rw [h2] at e; cases e
  · cases e
end
end DV
set_option Elab.async false
set_option linter.all false
set_option maxRecDepth 100000
set_option maxHeartbeats 1000000
namespace DV
open PySem PySem.Spec PyProof.Rows L2

instance {CX : CXT} {P : Program} {w : World} {K : PySem.W.Frag} {mg : Str → Option Value} {base : Heap} {N : List Str} {qual : Str} {scope : Scope} {f : Addr} {cd : Value} {A : Around} {outer : List Env} {s : Shared} {H : Hp} {E : XK} [h : KFr w] :
    KFr (cxOf CX P w K mg base N qual scope f cd A outer s H E).w := h
instance {CX : CXT} {P : Program} {w : World} {mg : Str → Option Value} {base : Heap} {N : List Str} {qual : Str} {scope : Scope} {f : Addr} {cd : Value} {A : Around} {outer : List Env} {s : Shared} {H : Hp} {E : XK} [h : KFr w] :
    XKf (cxOf CX P w (KFr.kfr w) mg base N qual scope f cd A outer s H E) := ⟨rfl⟩
/-! ### a def by its body -/
def outsL (kp : List Nat) : Nat → List D → Rho → List (Option D)
  | _, [], _ => []
  | i, d :: ds, ρ => (if d.pure = true then some d else if i ∈ kp then ρ.headD none else none) :: outsL kp (i + 1) ds ρ.tail
def gFn (n N : Nat) (kp : List Nat) (gb : Rho → Res (Fl × Rho)) : List D → FRes := fun ds => match gb (ds.map some ++ List.replicate (N - n) none) with
  | .ok (.ret d, ρ) => .ok (d, outsL kp 0 ds ρ)
  | .ok (.next, ρ) => .ok (.non, outsL kp 0 ds ρ)
  | .raise x _ => .raise x []
  | _ => .stuck
section
variable {P : Program} {w : World} [KFr w] {K : PySem.W.Frag} {mg : Str → Option Value} {base : Heap} {H H' H0 : Hp}
theorem rep_none : ∀ (n : Nat) {S : AS}, Rep P w H (List.replicate n none) (List.replicate n none) S
  | 0, _ => rfl
  | n + 1, _ => ⟨none, List.replicate n none, rfl, rep_none n⟩
theorem rep_start : ∀ {ds : List D} {vs : List V} {S : AS} (n : Nat), OwnL P w H ds vs S → Rep P w H (ds.map some ++ List.replicate n none) (vs.map some ++ List.replicate n none) S
  | [], vs, S, n, o => by rw [show vs = [] from o]; exact rep_none n
  | d :: ds, vs, S, n, ⟨v, vr, S1, S2, e, o1, o2, k1, k2, dj⟩ => by
    subst e
    exact ⟨v, _, S1, S2, rfl, o1, rep_start n o2, k1, k2, dj⟩
theorem rep_outs {kp : List Nat} (st : ∀ (d : D) (v : V) (T : AS), Own P w H0 d v T → d.pure = true → Own P w H d v (fun _ => False)) : ∀ {ds : List D} {vs : List V} {S0 S : AS} {ρ : Rho} {σ : L2.St} {i : Nat}, OwnL P w H0 ds vs S0 → Rep P w H ρ σ S →
    (∀ j v, i + j ∈ kp → vs[j]? = some v → σ[j]? = some (some v)) → Rep P w H (outsL kp i ds ρ) (vs.map some) S
  | [], vs, S0, S, ρ, σ, i, o, r, h => by rw [show vs = [] from o]; rfl
  | d :: ds, vs, S0, S, ρ, σ, i, ⟨v, vr, T1, T2, e, o1, o2, _⟩, r, h => by
    subst e
    have tailR : ∃ S', Rep P w H ρ.tail σ.tail S' ∧ (∀ b, S' b → S b) ∧ ∀ d', ρ.head? = some (some d') → ∃ x U, σ.head? = some (some x) ∧ Own P w H d' x U ∧ (∀ b, U b → S b) ∧ ∀ b, U b → S' b → False := by
      cases ρ with
      | nil => rw [show σ = [] from r]; exact ⟨S, rfl, fun b hb => hb, fun d' z => nomatch z⟩
      | cons o ρ =>
        cases o with
        | none => obtain ⟨x, σ', e, r⟩ := r; subst e; exact ⟨S, r, fun b hb => hb, fun d' z => by simp at z⟩
        | some d' =>
          obtain ⟨x, σ', U1, U2, e, o, r, k1, k2, dj⟩ := r
          subst e
          exact ⟨U2, r, k2, fun d2 z => by simp at z; subst z; exact ⟨x, U1, rfl, o, k1, dj⟩⟩
    obtain ⟨S', rt, sS, hd⟩ := tailR
    have ih := rep_outs (i := i + 1) (kp := kp) st o2 rt (fun j u hj hu => by
      have := h (j + 1) u (by rw [show i + (j + 1) = i + 1 + j by omega]; exact hj) (by simpa using hu)
      rw [List.getElem?_tail]; exact this)
    show Rep P w H ((if d.pure = true then some d else if i ∈ kp then ρ.headD none else none) :: outsL kp (i + 1) ds ρ.tail) _ _
    by_cases hp : d.pure = true
    · rw [if_pos hp]
      exact ⟨v, _, fun _ => False, S', rfl, st d v T1 o1 hp, ih, fun b z => z.elim, sS, fun b z => z.elim⟩
    · rw [if_neg hp]
      by_cases hk : i ∈ kp
      · rw [if_pos hk]
        cases ρ with
        | nil => exact ⟨some v, _, rfl, ih.mono sS⟩
        | cons o ρ =>
          cases o with
          | none => exact ⟨some v, _, rfl, ih.mono sS⟩
          | some d' =>
            obtain ⟨x, U, hx, ow, sU, dU⟩ := hd d' rfl
            have hv := h 0 v (by simpa using hk) rfl
            have ex : x = v := by
              cases σ with
              | nil => cases hx
              | cons y σ => simp at hx hv; rw [hx] at hv; exact Option.some.inj hv
            subst ex
            exact ⟨x, _, U, S', rfl, ow, ih, sU, sS, dU⟩
      · rw [if_neg hk]
        exact ⟨some v, _, rfl, ih.mono sS⟩
theorem start_get {N : List Str} {vs : List V} {j : Nat} {v : V} (h : vs[j]? = some v) : (L2.start N vs)[j]? = some (some v) := by
  unfold L2.start
  rw [List.getElem?_append_left (by rw [List.length_map]; exact (List.getElem?_eq_some_iff.mp h).1), List.getElem?_map, h]
  rfl
/-- THE RULE: a def of the text keeps the promise that its body computes -/
theorem fnD_of {x qual : Str} {params : Arguments} {body : List Stmt} {scope : Scope} {dvs : List V} {kws : List (Str × V)} {f : Addr} {fd : FuncData} {N ps : List Str} {k : Nat} {kp : List Nat} {gb : Rho → Res (Fl × Rho)} (F : FunD K x qual params body scope dvs kws f fd) (S : FnScope N ps scope)
    (hbody : ∀ (cdv : Value) (A : Around) (outer : List Env) (s : Shared) (H : Hp) (E : XK), Room k (A.deeper (envOfC qual scope s.heap.objs.size f cdv)) →
      SSs (cxOf (L2.CX P w) P w K mg base N qual scope f cdv A outer s H E) (fun cls d _ H => E cls d H) kp body gb) :
    FnD P w K mg base (k + 1) f fd ps (gFn ps.length N.length kp gb) := by
  have hpl : ps.length ≤ N.length := by have := congrArg List.length S.pre; rw [List.length_take] at this; omega
  refine F.ok S (fun vs H Q E ⟨ds, T, hl, o, dm, q⟩ => by rw [o.length, hl]) fun cdv A outer s H vs Q E hr ⟨ds, T, hl, o, dm, q⟩ => ⟨_, hbody cdv A outer s H E hr, ?_⟩
  have hvl : vs.length = ps.length := by rw [o.length, hl]
  have r0 : Rep P w H (ds.map some ++ List.replicate (N.length - ps.length) none) (L2.start N vs) T := by
    unfold L2.start
    rw [hvl]
    exact rep_start _ o
  refine ⟨_, T, r0, dm, ?_⟩
  have outs : ∀ {ρ' : Rho} {σ' : L2.St} {H' : Hp} {S1 S2 : AS}, Kept kp (L2.start N vs) σ' → Step H H' T (fun b => S1 b ∨ S2 b) → Rep P w H' ρ' σ' S2 → Rep P w H' (outsL kp 0 ds ρ') (vs.map some) S2 := fun {ρ' σ' H' S1 S2} kk st r =>
    rep_outs (fun d v T0 o p => (o.ofPure (S' := fun _ => False) p).step st fun b z => z.elim) o r fun j v hj hv => by
      rw [kk.2 j (by simpa using hj)]
      exact start_get hv
  unfold gFn at q
  cases hg : gb (ds.map some ++ List.replicate (N.length - ps.length) none) with
  | ok p =>
    obtain ⟨fl, ρ'⟩ := p
    rw [hg] at q
    cases fl with
    | ret d => exact fun v σ' H' S1 S2 kk st ow r dj => q v H' S1 S2 st ow (outs kk st r) dj
    | next => exact fun σ' H' S' kk st r => q .non H' (fun _ => False) S' (st.sub fun b hb => hb.elim False.elim id) rfl (outs (S1 := fun _ => False) kk (st.sub fun b hb => hb.elim False.elim id) r) fun b z => z.elim
    | brk => exact q.elim
    | cont => exact q.elim
  | raise y ρ' =>
    rw [hg] at q
    exact fun σ' C dx H' S2 kk o => q C dx H' (o.st.sub fun b z => z.elim) o.ex
  | stuck => rw [hg] at q; exact q.elim
end
end DV
set_option Elab.async false
set_option linter.all false
set_option maxRecDepth 100000
set_option maxHeartbeats 1000000
namespace DV
open PySem PySem.Spec PyProof.Rows L2

/-! ### x[k] = e -/
def slotD (ρ : Rho) (i : Nat) : Option D := match ρ[i]? with
  | some (some d) => some d
  | _ => none
theorem slotD_eq {ρ : Rho} {i : Nat} {d : D} (h : slotD ρ i = some d) : ρ[i]? = some (some d) := by
  unfold slotD at h
  split at h
  · rename_i e he; cases h; exact he
  · cases h
def sput (c k v : D) : Option D := match c with
  | .lst xs => match k with
    | .int i => (ixN xs.length i).map fun j => .lst (xs.set j v)
    | _ => none
  | .dic ks ds => if k.hk = true ∧ sameSort ks k = true ∧ ks.length < sizeLine ∧ ds.length = ks.length then
      some (.dic (if (dget ks ds k).isSome then ks else ks ++ [k]) (if (dget ks ds k).isSome then dset ks ds k v else ds ++ [v])) else none
  | _ => none
section
variable {P : Program} {w : World} [KFr w] {H : Hp}
theorem OwnL.setAt : ∀ {ds : List D} {vs : List V} {S T : AS} {j : Nat} {d : D} {v : V}, OwnL P w H ds vs S → Own P w H d v T → (∀ b, T b → S b → False) → OwnL P w H (ds.set j d) (vs.set j v) (fun b => T b ∨ S b)
  | [], vs, S, T, j, d, v, h, _, _ => by rw [show vs = [] from h]; rfl
  | d0 :: ds, vs, S, T, 0, d, v, ⟨v0, vr, S1, S2, e, o1, o2, k1, k2, dj⟩, o, dt => by
    subst e
    exact ⟨v, vr, T, S2, rfl, o, o2, fun b hb => .inl hb, fun b hb => .inr (k2 b hb), fun b h1 h2 => dt b h1 (k2 b h2)⟩
  | d0 :: ds, vs, S, T, j + 1, d, v, ⟨v0, vr, S1, S2, e, o1, o2, k1, k2, dj⟩, o, dt => by
    subst e
    exact ⟨v0, vr.set j v, S1, fun b => T b ∨ S2 b, rfl, o1, OwnL.setAt o2 o (fun b h1 h2 => dt b h1 (k2 b h2)), fun b hb => .inr (k1 b hb), fun b hb => hb.imp id (k2 b), fun b h1 h2 => h2.elim (fun z => dt b z (k1 b h1)) (fun z => dj b h1 z)⟩
end
section
variable {X : Cx} [KFr X.w] [XKf X] {W : WX} {kp : List Nat} {E : Ends} {σ : L2.St} {H : Hp} {S : AS} {ro own own' : Bool} {e a k : Expr} {pos tpos : Pos} {g h : Rho → Res (D × Rho)} {i : Nat} {x : Str} {p : Pos}
def rSetD (P : Program) (w : World) [KFr w] : L2.V → L2.V → L2.V → Hp → (Hp → Prop) → Prop := fun o i v H Q => ∃ a o', o = .ref a ∧ DPutN P w H a i v o' ∧ Q (upd H a o')
theorem set_dict (hu : X.A.units + 64 < cLine) : PSet X (rSetD X.prog X.w) := fun pins s σ H o i v ov iv u Q I ro ri rv ⟨a, o', eo, g, q⟩ => by
  subst eo
  obtain rfl : ov = .ref a := ro
  exact dN_setItem (by omega) I g ri rv fun s' I' => ⟨_, I', q⟩
def rSetA (P : Program) (w : World) [KFr w] : L2.V → L2.V → L2.V → Hp → (Hp → Prop) → Prop := fun o i v H Q => rSetL o i v H Q ∨ rSetD P w o i v H Q
theorem set_any (hu : X.A.units + 64 < cLine) : PSet X (rSetA X.prog X.w) := fun pins s σ H o i v ov iv u Q I ro ri rv q => by
  rcases q with q | q
  · exact set_list pins s σ H o i v ov iv u Q I ro ri rv q
  · exact set_dict hu pins s σ H o i v ov iv u Q I ro ri rv q
theorem dput_mut {P : Program} {w : World} [KFr w] {H : Hp} {a : Addr} {y v : V} {o' : HO} (h : DPutN P w H a y v o') : Mut (H a) := by
  rcases h with ⟨kvs, k, e, _⟩ | ⟨es, k, b, e, _⟩
  · rw [e]; exact True.intro
  · rcases e with e | ⟨_, e⟩
    · rw [e]; exact True.intro
    · rw [e]; exact True.intro
theorem con_sput {P : Program} {w : World} [KFr w] {H : Hp} {c k v c' : D} {o y x : V} {SC SK SV : AS} (oc : Own P w H c o SC) (ok : Own P w H k y SK) (ov : Own P w H v x SV) (dj : ∀ b, SC b → SV b → False) (dv : Dom SV H) (h : sput c k v = some c') :
    ∃ a o', o = .ref a ∧ SC a ∧ Mut (H a) ∧ Own P w (upd H a o') c' (.ref a) (fun b => SC b ∨ SV b) ∧ ∀ Q : Hp → Prop, Q (upd H a o') → rSetA P w o y x H Q := by
  cases c with
  | lst xs =>
    cases k with
    | int n =>
      obtain ⟨j, hj, rfl⟩ := Option.map_eq_some_iff.mp h
      obtain ⟨a, vs, rfl, sa, ht, ol⟩ := oc
      have mu : Mut (H a) := by rw [ht]; exact True.intro
      refine ⟨a, .lst (vs.set j x), rfl, sa, mu, ⟨a, _, rfl, .inl sa, upd_same, ?_⟩, fun Q q => .inl ⟨a, vs, n, j, rfl, ok, ht, by rw [ol.length]; exact hj, q⟩⟩
      have na : ¬ SV a := dj a sa
      refine (OwnL.setAt (ol.upd mu fun z => z.2 rfl) (ov.upd mu na) fun b h1 h2 => dj b h2.1 h1).mono fun b hb => ?_
      rcases hb with hb | hb
      · exact ⟨.inr hb, fun z => na (by rw [← z]; exact hb)⟩
      · exact ⟨.inl hb.1, hb.2⟩
    | _ => cases h
  | dic ks ds =>
    unfold sput at h
    simp only at h
    split at h
    · rename_i hc
      cases h
      obtain ⟨a, ob, kv, vs, rfl, sa, ht, q, okk, od⟩ := oc
      have hv : vs.length = ks.length := by rw [od.length, hc.2.2.2]
      have hlen : (dget ks ds k).isSome = (dget ks vs k).isSome := dget_isSome hc.2.2.2 hv
      obtain ⟨o', dp, kv', q', okk'⟩ := dic_put (v := x) ht q okk ok hc.1 hc.2.1 hc.2.2.1 hv
      have mu := dput_mut dp
      have na : ¬ SV a := dj a sa
      refine ⟨a, o', rfl, sa, mu, ⟨a, o', kv', _, rfl, .inl sa, upd_same, by rw [hlen]; exact q', by rw [hlen]; exact okk'.upd mu fun z => z, ?_⟩, fun Q q => .inr ⟨a, o', rfl, dp, q⟩⟩
      have od' := od.upd (o' := o') mu fun z => z.2 rfl
      have ov' := ov.upd (o' := o') mu na
      have fin : ∀ b, SV b ∨ (SC b ∧ b ≠ a) → (SC b ∨ SV b) ∧ b ≠ a := fun b hb => by
        rcases hb with hb | hb
        · exact ⟨.inr hb, fun z => na (by rw [← z]; exact hb)⟩
        · exact ⟨.inl hb.1, hb.2⟩
      rw [hlen]
      split
      · exact (OwnL.dset od' ov' fun b h1 h2 => dj b h2.1 h1).mono fin
      · exact (OwnL.snoc od' ov' fun b h1 h2 => dj b h2.1 h1).mono fin
    · cases h
  | _ => cases h
def gStore (i : Nat) (gk ge : Rho → Res (D × Rho)) : Rho → Res (Fl × Rho) := fun ρ => (ge ρ).bind fun p => (Res.of (slotD p.2 i)).bind fun _ => (gk p.2).bind fun q => (Res.of (slotD q.2 i)).bind fun c => (Res.of (sput c q.1 p.1)).bind fun c' => .ok (.next, q.2.set i (some c'))
/-- behind a write into the box of slot i -/
theorem rep_write {P : Program} {w : World} [KFr w] {ρ : Rho} {σ : L2.St} {c' : D} {a : Addr} {o' : HO} {U R1 R2 : AS} (hs : σ[i]? = some (some (.ref a))) (r2 : Rep P w H (ρ.set i none) σ R2) (mu : Mut (H a)) (sa : R1 a) (d12 : ∀ b, R1 b → R2 b → False) (dU : ∀ b, U b → R2 b → False)
    (ow : Own P w (upd H a o') c' (.ref a) (fun b => R1 b ∨ U b)) : Rep P w (upd H a o') (ρ.set i (some c')) σ (fun b => (R1 b ∨ U b) ∨ R2 b) :=
  Rep.back (r2.upd mu fun z => d12 a sa z) ow (fun b h1 h2 => h1.elim (fun z => d12 b z h2) fun z => dU b z h2) hs
theorem ss_store (hu : X.A.units + 64 < cLine) (hN : X.N[i]? = some x) (hv : Vis X.env.scope x) (he : J X W ro true e g) (hk : J X W ro true k h)
    (ha : ∀ v, assign (.Subscript (.Name x p) k tpos) X.env v = (do
      let ov ← holding [v] (eval (.Name x p) X.env)
      let iv ← holding [v, ov] (eval k X.env)
      standAt tpos
      holding [v, ov, iv] (setItem ov iv v)
      release [v, ov, iv] []) := by intro _; rfl)
    (hs : swapsWithSole [.Subscript (.Name x p) k tpos] e pos.line X.env = pure false := by rfl) (hw : swappedStores [.Subscript (.Name x p) k tpos] e X.env = pure none := by rfl)
    (h1 : (assignEach [.Subscript (.Name x p) k tpos] X.env).map (·.2) = [assign (.Subscript (.Name x p) k tpos) X.env] := by rfl) (hd : (x == ("__debug__" : Str)) = false := by decide) (hcd : (x == ("__classdict__" : Str)) = false := by decide) :
    SS X W kp (.Assign [.Subscript (.Name x p) k tpos] e pos) (gStore i h g) := PS.weak (ps_asg he (pg_sub (pe_var hN hv hd hcd) hk (set_any hu) ha) hs hw h1) fun E σ H ⟨ρ, S, r, dm, q⟩ =>
  tJ.of r dm q fun p q v H1 S1 S2 o => by
    obtain ⟨c0, hc0, q⟩ := q.of_bind
    obtain ⟨v0, _, _, hs0, _⟩ := o.rep.take (slotD_eq hc0)
    refine ⟨v0, hs0, p.2, S2, o.rep, o.dm2, (q.bind.step o.st2).mono fun p2 _ q u H2 T1 T2 o2 => ?_⟩
    obtain ⟨c, hc, q⟩ := q.of_bind
    obtain ⟨c', hc', q⟩ := q.of_bind
    obtain ⟨v2, R1, R2, hs2, oc, r2, k1, k2, d12⟩ := o2.rep.take (slotD_eq hc)
    rw [hs0] at hs2
    cases hs2
    obtain ⟨st, n1⟩ := step_two o.st o2.st (o.dj rfl)
    have ov := o.ow.step o2.st (o.dj rfl)
    have dS1 : Dom S1 H2 := fun b hb => st.dm b (.inl (.inl hb))
    obtain ⟨a, o', rfl, sa, mu, ow, rd⟩ := con_sput oc o2.ow ov (fun b h1 h2 => n1 b h2 (.inr (k1 b h1))) dS1 hc'
    refine rd _ ?_
    have rep := rep_write (U := S1) hs0 r2 mu sa d12 (fun b h1 h2 => n1 b h1 (.inr (k2 b h2))) ow
    refine q σ _ _ Kept.refl ?_ rep
    refine (st.trans (Step.upd (o' := o') st.dm mu (.inr (k1 a sa)))).sub fun b hb => ?_
    rcases hb with (hb | hb) | hb
    · exact .inr (k1 b hb)
    · exact .inl (.inl hb)
    · exact .inr (k2 b hb)
end
end DV
namespace DV
open PySem PySem.Spec PyProof.Rows L2
section
variable {X : Cx} [KFr X.w] [XKf X] {W : WX} {kp : List Nat} {E : Ends} {σ : L2.St} {H : Hp} {S : AS} {ro own own' : Bool} {e a k : Expr} {pos tpos pos' : Pos} {g h : Rho → Res (D × Rho)} {i : Nat} {x : Str} {p : Pos}
/-! ### x += e, x[k] += e on ints -/
def gAugI (i : Nat) (f : Int → Int → Int) (g : Rho → Res (D × Rho)) : Rho → Res (Fl × Rho) := fun ρ => match slotD ρ i with
  | some (.int a) => (g ρ).bind fun p => match p.1 with
    | .int b => if i < p.2.length then .ok (.next, p.2.set i (some (.int (f a b)))) else .stuck
    | _ => .stuck
  | _ => .stuck
theorem ss_augI {op : Operator} {f : Int → Int → Int} (ho : PIp X op (ipI f)) (hN : X.N.Nodup) (hi : X.N[i]? = some x) (hx : Loc X.env.scope x) (hk : i ∉ kp) (h : J X W ro own e g)
    (hf : X.fn x = true ∨ X.env.scope.names.lookup x = some .local := by first | exact .inl rfl | exact .inr rfl | assumption) : SS X W kp (.AugAssign (.Name x pos') op e pos) (gAugI i f g) := PS.weak (ps_aug hN hi hx h ho hf) fun E σ H ⟨ρ, S, r, dm, q⟩ => by
  unfold gAugI at q
  split at q
  · rename_i n hs
    obtain ⟨v, T1, T2, hv, o, _⟩ := r.take (slotD_eq hs)
    refine ⟨v, hv, tJ.of r dm q fun p q u H' S1 S2 o' => ?_⟩
    split at q
    · rename_i b m hb
      obtain ⟨hl, q⟩ := q.ite
      refine ⟨n, m, o, by rw [hb] at o'; exact o'.ow, ?_⟩
      exact q _ H' S2 (Kept.set hk) o'.st2 ((o'.rep.store (d := .int (f n m)) (S1 := fun _ => False) rfl (fun b z => z.elim) hl).mono fun b hb => hb.elim False.elim id)
    · exact q.elim
  · exact q.elim
theorem ss_addI (hN : X.N.Nodup) (hi : X.N[i]? = some x) (hx : Loc X.env.scope x) (hk : i ∉ kp) (h : J X W ro own e g) (hf : X.fn x = true ∨ X.env.scope.names.lookup x = some .local := by first | exact .inl rfl | exact .inr rfl | assumption) :
    SS X W kp (.AugAssign (.Name x pos') .Add e pos) (gAugI i (fun a b => a + b) g) := ss_augI ip_add hN hi hx hk h hf
theorem ss_subI (hN : X.N.Nodup) (hi : X.N[i]? = some x) (hx : Loc X.env.scope x) (hk : i ∉ kp) (h : J X W ro own e g) (hf : X.fn x = true ∨ X.env.scope.names.lookup x = some .local := by first | exact .inl rfl | exact .inr rfl | assumption) :
    SS X W kp (.AugAssign (.Name x pos') .Sub e pos) (gAugI i (fun a b => a - b) g) := ss_augI ip_sub hN hi hx hk h hf

def rGetL : L2.V → L2.V → Hp → VK → Prop := fun o i H Q => ∃ a xs j v, o = .ref a ∧ i = .int (j : Nat) ∧ H a = some (.lst xs) ∧ xs[j]? = some v ∧ Q v H
theorem pg_list : PGet X rGetL := fun pins s σ H o i ov iv Q I ro ri ⟨a, xs, j, v, eo, ei, ha, hj, q⟩ => by
  subst eo ei
  obtain rfl : ov = .ref a := ro
  obtain ⟨t, rfl⟩ := ri
  obtain ⟨its, r, pl, hz⟩ := I.list (SqL.of ha)
  obtain ⟨u, hu, ru⟩ := r.get hj
  have hl := r.length
  have hjl := (List.getElem?_eq_some_iff.mp hj).1
  have h63 : (j : Int) < 2 ^ 63 := by
    have := line63
    omega
  exact wpAny_getItem_list pl.isList (by omega) h63 (x := u) (by simpa using hu) ⟨v, H, I, ru, q⟩
def gAugS (i : Nat) (f : Int → Int → Int) (j : Nat) (g : Rho → Res (D × Rho)) : Rho → Res (Fl × Rho) := fun ρ => match slotL ρ i with
  | some xs => (match xs[j]? with
    | some (.int a) => (g ρ).bind fun p => (match p.1, slotL p.2 i with
      | .int b, some ys => if j < ys.length then .ok (.next, p.2.set i (some (.lst (ys.set j (.int (f a b)))))) else .stuck
      | _, _ => .stuck)
    | _ => .stuck)
  | none => .stuck
/-- x[j] op= e, j written -/
theorem ss_augS {op : Operator} {f : Int → Int → Int} {j : Nat} {kk : Nat} {p2 : Pos} (ho : PIp X op (ipI f)) (hN : X.N[i]? = some x) (hv : Vis X.env.scope x) (h : J X W ro own e g)
    (ha : ∀ ov iv new, augStore (.Constant (.int (j : Nat)) kk p2) ov iv new = (do holding [new, ov, iv] (setItem ov iv new); release [new, ov, iv] []; pure .next) := by intros; rfl) (hd : (x == ("__debug__" : Str)) = false := by decide) (hcd : (x == ("__classdict__" : Str)) = false := by decide) :
    SS X W kp (.AugAssign (.Subscript (.Name x p) (.Constant (.int (j : Nat)) kk p2) tpos) op e pos) (gAugS i f j g) := PS.weak (ps_augS (pe_var hN hv hd hcd) pe_int pg_list h ho set_list ha) fun E σ H ⟨ρ, S, r, dm, q⟩ => by
  unfold gAugS at q
  cases hx : slotL ρ i with
  | none => rw [hx] at q; exact q.elim
  | some xs =>
    rw [hx] at q
    simp only at q
    obtain ⟨v, T1, T2, hs, ⟨a, vs, rfl, sa, ht, ol⟩, _⟩ := r.take (slotL_eq hx)
    cases hj : xs[j]? with
    | none => rw [hj] at q; exact q.elim
    | some d =>
      rw [hj] at q
      cases d with
      | int n =>
        simp only at q
        obtain ⟨u, _, hu, ou, _⟩ := ol.get hj
        refine ⟨.ref a, hs, a, vs, j, u, rfl, rfl, ht, hu, tJ.of r dm q fun p q y H' S1 S2 o => ?_⟩
        split at q
        · rename_i b1 m1 m ys hb hy
          obtain ⟨hl, q⟩ := q.ite
          obtain ⟨v2, R1, R2, hs2, ⟨a2, vs2, e2, sa2, ht2, ol2⟩, r2, k1, k2, d12⟩ := o.rep.take (slotL_eq hy)
          rw [hs] at hs2
          cases hs2
          cases e2
          have mu : Mut (H' a) := by rw [ht2]; exact True.intro
          refine ⟨n, m, ou, by rw [hb] at o; exact o.ow, a, vs2, (j : Nat), j, rfl, rfl, ht2, ?_, ?_⟩
          · rw [ol2.length]
            unfold ixN
            rw [if_pos (by omega), if_pos (by omega)]
            simp
          · have ow : Own X.prog X.w (upd H' a (.lst (vs2.set j (.int (f n m))))) (.lst (ys.set j (.int (f n m)))) (.ref a) (fun b => R1 b ∨ False) :=
              ⟨a, _, rfl, .inl sa2, upd_same, (OwnL.setAt (T := fun _ => False) (d := .int (f n m)) (v := .int (f n m)) (ol2.upd mu fun z => z.2 rfl) (show Own X.prog X.w _ (.int (f n m)) (.int (f n m)) _ from rfl) fun b z => z.elim).mono fun b hb => ⟨.inl (hb.elim False.elim fun z => z.1), hb.elim False.elim fun z => z.2⟩⟩
            have rep := rep_write (U := fun _ => False) hs r2 mu sa2 d12 (fun b z => z.elim) ow
            refine q σ _ _ Kept.refl ((o.st2.trans (Step.upd (o' := .lst (vs2.set j (.int (f n m)))) o.dm2 mu (k1 a sa2))).sub fun b hb => ?_) rep
            rcases hb with (hb | hb) | hb
            · exact k1 b hb
            · exact hb.elim
            · exact k2 b hb
        · exact q.elim
      | _ => exact q.elim
end
end DV
set_option Elab.async false
set_option linter.all false
set_option maxRecDepth 100000
set_option maxHeartbeats 1000000
/-! join, all, max, list(range), slices. -/
namespace DV
open PySem PySem.Spec PyProof.Rows L2
section
variable {X : Cx} [KFr X.w] [XKf X] {W : WX} {ro ro2 own own' own2 : Bool} {e a b o : Expr} {es : List Expr} {pos : Pos} {g h : Rho → Res (D × Rho)}

def oJoin1 (a : Str) (d : D) : Option D := oJoin (.str a) d
theorem con_join1 (a : Str) : Con1 X (oJoin1 a) (fun v H Q => ∃ a' p, ∃ ys : List Str, V.str a = .str a' ∧ [v] = [.ref p] ∧ (SqL X.K H p (ys.map V.str) ∨ SqT X.K H p (ys.map V.str)) ∧ (ys.map (·.length)).sum + ys.length * a'.length ≤ 16777216 ∧ Q (.str (Txt.join a' ys)) H) := fun H d v S d' o ho Q k => by
  unfold oJoin1 oJoin at ho
  split at ho
  · rename_i a' ds e1 hd
    cases e1
    split at ho
    · rename_i ys hy
      split at ho
      · rename_i hz
        cases ho
        obtain ⟨p, vs, rfl, sq, ol⟩ := own_items (K := X.K) XKf.eq o hd
        rw [own_strs ol hy] at sq
        exact ⟨_, _, ys, rfl, rfl, sq, hz, ans_pure k rfl⟩
      · cases ho
    · cases ho
  · cases ho
/-- 'sep'.join(e), the text written -/
theorem j_join {sep : Str} {kk : Nat} {p1 apos : Pos} (ha : J X W ro own a g) (hs : starEach [a] X.env = [(false, eval a X.env)] := by rfl)
    (hbase : attributeBase (.Constant (.str sep) kk p1) "join" X.env (eval (.Constant (.str sep) kk p1) X.env) = eval (.Constant (.str sep) kk p1) X.env := by rfl) (hline : (apos.endLine == pos.line) = true := by rfl) :
    J X W ro true (.Call (.Attribute (.Constant (.str sep) kk p1) "join" apos) [a] [] pos) (gOp1 (oJoin1 sep) g) :=
  PE.weak (pe_join pe_str ha hs hbase hline) fun σ H Q q => by
    obtain ⟨ρ, S, r0, dm, q'⟩ := t_op1 (own' := own) (con_join1 (X := X) sep) σ H Q q
    exact ⟨⟨sep, rfl⟩, ρ, S, r0, dm, q'⟩

def oAll (d : D) : Option D := match d with
  | .lst ds => (D.bools ds).map fun bs => .bl (bs.all id)
  | _ => none
theorem con_all : Con1 X oAll (fun v H Q => rAll X.K [v] H Q) := fun H d v S d' o ho Q k => by
  unfold oAll at ho
  split at ho
  · rename_i ds
    obtain ⟨bs, hb, rfl⟩ := Option.map_eq_some_iff.mp ho
    obtain ⟨p, vs, rfl, _, t, ol⟩ := o
    exact ⟨p, bs, rfl, by rw [← own_bools ol hb]; exact SqL.of t, ans_pure k rfl⟩
  · cases ho
theorem j_all {p : Pos} (hc : X.calm = true) (hg : Gl X "all") (hm : X.mg "all" = none) (ha : J X W ro own a g) (hs : starEach [a] X.env = (false, eval a X.env) :: starEach [] X.env := by rfl) : J X W ro true (.Call (.Name "all" p) [a] [] pos) (gOp1 oAll g) :=
  j_blt1 (cr_all hc) hg hm (by decide +kernel) con_all ha hs
def oAny (d : D) : Option D := match d with
  | .lst ds => (D.bools ds).map fun bs => .bl (bs.any id)
  | _ => none

/-- the greatest of ints -/
def maxL : List Int → Int
  | [] => 0
  | [x] => x
  | x :: y :: r => if maxL (y :: r) < x then x else maxL (y :: r)
theorem maxL_of : ∀ {ns : List Int} {m : Int}, m ∈ ns → (∀ y, y ∈ ns → y ≤ m) → m = maxL ns
  | [x], m, h, _ => by
    rw [List.mem_singleton] at h
    exact h
  | x :: y :: r, m, h, k => by
    have ih : ∀ m', m' ∈ (y :: r) → (∀ z, z ∈ (y :: r) → z ≤ m') → m' = maxL (y :: r) := fun m' h1 h2 => maxL_of h1 h2
    have key : maxL (y :: r) ∈ (y :: r) ∧ ∀ z, z ∈ (y :: r) → z ≤ maxL (y :: r) := maxL_is (y :: r) (by simp)
    rw [maxL]
    by_cases hx : maxL (y :: r) < x
    · rw [if_pos hx]
      rcases List.mem_cons.mp h with e | e
      · exact e
      · have h1 := key.2 m e
        have h2 := k x List.mem_cons_self
        omega
    · rw [if_neg hx]
      rcases List.mem_cons.mp h with e | e
      · have h1 := k _ (List.mem_cons_of_mem _ key.1)
        omega
      · exact ih m e fun z hz => k z (List.mem_cons_of_mem _ hz)
where
  maxL_is : ∀ ns : List Int, ns ≠ [] → maxL ns ∈ ns ∧ ∀ z, z ∈ ns → z ≤ maxL ns
  | [], h => absurd rfl h
  | [x], _ => ⟨by simp [maxL], fun z hz => by rw [List.mem_singleton.mp hz]; exact Int.le_refl _⟩
  | x :: y :: r, _ => by
    obtain ⟨h1, h2⟩ := maxL_is (y :: r) (by simp)
    rw [maxL]
    split
    · rename_i hx
      refine ⟨List.mem_cons_self, fun z hz => ?_⟩
      rcases List.mem_cons.mp hz with e | e
      · omega
      · have := h2 z e; omega
    · rename_i hx
      refine ⟨List.mem_cons_of_mem _ h1, fun z hz => ?_⟩
      rcases List.mem_cons.mp hz with e | e
      · omega
      · exact h2 z e
def oMax (d : D) : Option D := match d with
  | .lst ds => (match D.ints ds with
    | some ns => if 0 < ns.length then some (.int (maxL ns)) else none
    | none => none)
  | _ => none
theorem con_max : Con1 X oMax (fun v H Q => rMax X.K [v] H Q) := fun H d v S d' o ho Q k => by
  unfold oMax at ho
  split at ho
  · rename_i ds
    split at ho
    · rename_i ns hn
      split at ho
      · rename_i hz
        cases ho
        obtain ⟨p, vs, rfl, _, t, ol⟩ := o
        refine ⟨p, ns, rfl, by rw [← own_ints ol hn]; exact SqL.of t, hz, fun m h1 h2 => ?_⟩
        rw [maxL_of h1 h2]
        exact ans_pure k rfl
      · cases ho
    · cases ho
  · cases ho
theorem j_max {p : Pos} (hc : X.calm = true) (hg : Gl X "max") (hm : X.mg "max" = none) (ha : J X W ro own a g) (hs : starEach [a] X.env = (false, eval a X.env) :: starEach [] X.env := by rfl) : J X W ro true (.Call (.Name "max" p) [a] [] pos) (gOp1 oMax g) :=
  j_blt1 (cr_max hc) hg hm (by decide +kernel) con_max ha hs

/-! ### list(range(n)) -/
def ints0 (n : Int) : List D := (List.range n.toNat).map fun i => .int (i : Nat)
noncomputable def oRange1 (d : D) : Option D := match d with
  | .int n => if Hid (n ≤ 16777216 ∧ -16777216 ≤ n) then some (.lst (ints0 n)) else none
  | _ => none
theorem con_range1 : Con1 X oRange1 (fun x H Q => ∃ n, x = .int n ∧ RgOk 0 n ∧ ∀ q, H q = none → Q (.ref q) (upd H q (.lst (rgV 0 n)))) := fun H d v S d' o ho Q k => by
  unfold oRange1 at ho
  split at ho
  · rename_i n
    split at ho
    · rename_i hn
      unfold Hid at hn
      cases ho
      refine ⟨n, o, ⟨by omega, by omega, by omega, by omega, by omega⟩, fun q hq => ?_⟩
      have e : rgV 0 n = (List.range n.toNat).map fun i => V.int (i : Nat) := by
        unfold rgV
        rw [Int.sub_zero]
        exact List.map_congr_left fun i _ => by rw [Int.zero_add]
      rw [e]
      refine new_one k hq (own_lst hq (S := fun _ => False) (ownL_map (fun i : Nat => D.int (i : Nat)) (fun i : Nat => V.int (i : Nat)) (fun _ => rfl) _) ?_)
      refine pures_all.mpr fun d hd => ?_
      obtain ⟨c, _, rfl⟩ := List.mem_map.mp hd
      rfl
    · cases ho
  · cases ho
theorem j_listRg {p p1 pos1 : Pos} (hc : X.calm = true) (hg : Gl X "list") (hm : X.mg "list" = none) (hg1 : Gl X "range") (hm1 : X.mg "range" = none) (ha : J X W ro own a g) (na1 : starEach [a] X.env = (false, eval a X.env) :: starEach [] X.env := by rfl)
    (na : starEach [.Call (.Name "range" p1) [a] [] pos1] X.env = (false, eval (.Call (.Name "range" p1) [a] [] pos1) X.env) :: starEach [] X.env := by rfl) :
    J X W ro true (.Call (.Name "list" p) [.Call (.Name "range" p1) [a] [] pos1] [] pos) (gOp1 oRange1 g) :=
  PE.weak (pe_listRg hc hg hm (prg_1 hg1 hm1 ha na1) na) fun σ H Q q => by
    obtain ⟨ρ, S, r0, dm, q'⟩ := t_op1 (own' := own) (con_range1 (X := X)) σ H Q q
    exact ⟨ρ, S, r0, dm, q'.mono fun p _ q v H' S1 S2 o => q v H' S1 S2 o⟩

/-! ### slices -/
def tJO (X : Cx) [KFr X.w] (W : WX) (ro : Bool) (g : Rho → Res (Option Int × Rho)) : TO := fun σ H Q => ∃ ρ S, Rep X.prog X.w H ρ σ S ∧ Dom S H ∧
  Ans X W σ H S (g ρ) fun p => ∀ H' S2, Step H H' S S2 → Rep X.prog X.w H' p.2 σ S2 → (ro = true → Ext H H' ∧ p.2 = ρ) → Q p.1 H'
def JO (X : Cx) [KFr X.w] (W : WX) (ro : Bool) (e : Option Expr) (g : Rho → Res (Option Int × Rho)) : Prop := PO X e (tJO X W ro g)
def gPN : Rho → Res (Option Int × Rho) := fun ρ => .ok (none, ρ)
def gPS (g : Rho → Res (D × Rho)) : Rho → Res (Option Int × Rho) := fun ρ => (g ρ).bind fun p => match p.1 with
  | .int i => .ok (some i, p.2)
  | _ => .stuck
theorem PO.weak {e : Option Expr} {t t' : TO} (h : PO X e t) (k : ∀ σ H Q, t' σ H Q → t σ H Q) : PO X e t' := ⟨fun pins s σ H Q I hq => h.run pins s σ H Q I (k σ H Q hq)⟩
theorem jo_none : JO X W ro none gPN := PO.weak po_none fun σ H Q ⟨ρ, S, r, dm, q⟩ => q H S (Step.refl dm) r fun _ => ⟨fun _ _ e => e, rfl⟩
theorem jo_some (h : J X W ro own e g) : JO X W ro (some e) (gPS g) := PO.weak (po_some h) fun σ H Q ⟨ρ, S, r, dm, q⟩ => ⟨ρ, S, r, dm, q.bind.mono fun p _ q v H' S1 S2 o => by
  split at q
  · rename_i i hi
    refine ⟨i, ?_, q H' S2 o.st2 o.rep o.ext⟩
    have ow := o.ow
    rw [hi] at ow
    exact ow
  · exact q.elim⟩
def cutL {α : Type} (xs : List α) (lo hi : Option Int) : List α := (xs.drop (HT.sIx xs.length 0 lo)).take (HT.sIx xs.length xs.length hi - HT.sIx xs.length 0 lo)
def oSl (d : D) (lo hi : Option Int) : Option D := match d with
  | .str z => if z.length ≤ sizeLine then some (.str (Txt.slice z lo hi)) else none
  | .tup ds => if D.pures ds = true then some (.tup (cutL ds lo hi)) else none
  | .lst ds => if D.pures ds = true then some (.lst (cutL ds lo hi)) else none
  | .lck ds => if D.pures ds = true then some (.lst (cutL ds lo hi)) else none
  | .fro ds => if D.pures ds = true then some (.lst (cutL ds lo hi)) else none
  | _ => none
def gSl (g : Rho → Res (D × Rho)) (gl gh : Rho → Res (Option Int × Rho)) : Rho → Res (D × Rho) := fun ρ => (g ρ).bind fun p => (gl p.2).bind fun l => (gh l.2).bind fun u => (Res.of (oSl p.1 l.1 u.1)).bind fun d => .ok (d, u.2)
def rSlAll (K : PySem.W.Frag) : V → Option Int → Option Int → Hp → VK → Prop := fun x lo hi H Q => C8.rSlX x lo hi H Q ∨ rSlL K x lo hi H Q ∨ rSlA K x lo hi H Q
theorem sl_all : SlR X (rSlAll X.K) := SlR.or C8.sl_txt (SlR.or sl_list sl_tupA)
section
variable {P : Program} {w : World} [KFr w] {H : Hp}
theorem OwnL.drop : ∀ {ds : List D} {vs : List V} {S : AS} (n : Nat), OwnL P w H ds vs S → OwnL P w H (ds.drop n) (vs.drop n) S
  | _, _, _, 0, o => o
  | [], vs, S, n + 1, o => by rw [show vs = [] from o]; exact rfl
  | d :: ds, vs, S, n + 1, ⟨v, vr, S1, S2, e, o1, o2, k1, k2, dj⟩ => by
    rw [e]
    exact (OwnL.drop n o2).mono k2
theorem OwnL.take : ∀ {ds : List D} {vs : List V} {S : AS} (n : Nat), OwnL P w H ds vs S → OwnL P w H (ds.take n) (vs.take n) S
  | _, _, _, 0, o => rfl
  | [], vs, S, n + 1, o => by rw [show vs = [] from o]; exact rfl
  | d :: ds, vs, S, n + 1, ⟨v, vr, S1, S2, e, o1, o2, k1, k2, dj⟩ => by
    rw [e]
    exact ⟨v, _, S1, S2, rfl, o1, OwnL.take n o2, k1, k2, dj⟩
theorem OwnL.cut {ds : List D} {vs : List V} {S : AS} {lo hi : Option Int} (o : OwnL P w H ds vs S) : OwnL P w H (cutL ds lo hi) (cutV vs lo hi) S := by
  unfold cutL cutV
  rw [o.length]
  exact (o.drop _).take _
theorem pures_cut {ds : List D} {lo hi : Option Int} (h : D.pures ds = true) : D.pures (cutL ds lo hi) = true :=
  pures_all.mpr fun d hd => pures_all.mp h d (List.mem_of_mem_drop (List.mem_of_mem_take hd))
end
theorem sl_con {H : Hp} {d : D} {v : V} {S : AS} {lo hi : Option Int} {d' : D} (o : Own X.prog X.w H d v S) (ho : oSl d lo hi = some d') {Q : VK}
    (k : ∀ v' H' S', Ext H H' → Own X.prog X.w H' d' v' S' → (∀ b, S' b → H b = none) → Dom S' H' → Q v' H') : rSlAll X.K v lo hi H Q := by
  unfold oSl at ho
  split at ho
  · split at ho
    · cases ho; exact .inl ⟨_, o, by assumption, ans_pure k rfl⟩
    · cases ho
  · split at ho
    · rename_i ds hp
      cases ho
      obtain ⟨p, vs, rfl, t, ol⟩ := o
      refine .inr (.inr ⟨p, vs, rfl, t.sq, fun hw => ?_, fun hw l hl => new_tup k hl (own_tup hl ol.cut (pures_cut hp))⟩)
      have e : cutL ds lo hi = ds := by
        unfold cutL
        rw [ol.length] at hw
        rw [hw.1, hw.2, Nat.sub_zero, List.drop_zero, List.take_length]
      rw [e] at k
      exact ans_pure k ⟨p, vs, rfl, t, ol.ofPure hp⟩
    · cases ho
  · split at ho
    · rename_i ds hp
      cases ho
      obtain ⟨p, vs, rfl, _, t, ol⟩ := o
      exact .inr (.inl ⟨p, vs, rfl, SqL.of t, fun l hl => new_one k hl (own_lst hl ol.cut (pures_cut hp))⟩)
    · cases ho
  · split at ho
    · rename_i ds hp
      cases ho
      obtain ⟨p, vs, rfl, _, t, ol⟩ := o
      exact .inr (.inl ⟨p, vs, rfl, SqL.of t, fun l hl => new_one k hl (own_lst hl ol.cut (pures_cut hp))⟩)
    · cases ho
  · split at ho
    · rename_i ds hp
      cases ho
      obtain ⟨p, ob, vs, rfl, t, ol⟩ := o
      exact .inr (.inl ⟨p, vs, rfl, .inl (.inr ⟨ob, t⟩), fun l hl => new_one k hl (own_lst hl ol.cut (pures_cut hp))⟩)
    · cases ho
  · cases ho
/-- e[lo:hi], e anybody's, the bounds only read -/
theorem j_slR {lo hi : Option Expr} {gl gh : Rho → Res (Option Int × Rho)} {p2 : Pos} (ha : J X W ro own a g) (hl : JO X W true lo gl) (hh : JO X W true hi gh) :
    J X W ro true (.Subscript a (.Slice lo hi none p2) pos) (gSl g gl gh) := PE.weak (pe_slice sl_all ha hl hh) fun σ H Q ⟨ρ, S, r0, dm, q⟩ =>
  ⟨ρ, S, r0, dm, q.bind.mono fun p _ q v H1 S1 S2 o => ⟨p.2, S2, o.rep, o.dm2, (q.bind.step o.st2).mono fun pl _ q H2 T2 st2 rep2 x2 => ⟨pl.2, T2, rep2, st2.dm, (q.bind.step (o.st2.trans st2)).mono fun ph _ q H3 U2 st3 rep3 x3 => by
    obtain ⟨d', ho, q⟩ := Ans.of_bind q
    obtain ⟨e2, e2'⟩ := x2 rfl
    obtain ⟨e3, e3'⟩ := x3 rfl
    refine sl_con ((o.ow.ext e2).ext e3) ho fun v' H' S' x ow nw dm' => q v' H' S' U2 ⟨((o.st2.trans st2).trans st3).trans (Step.ext x st3.dm nw dm'), ow, rep3.ext x, fun _ b h1 h2 => st3.dm b h2 (nw b h1), fun z => ⟨fun a u e => x a u (e3 a u (e2 a u ((o.ext z).1 a u e))), e3'.trans (e2'.trans (o.ext z).2)⟩⟩⟩⟩⟩
/-- e[lo:hi], e new -/
theorem j_slO {lo hi : Option Expr} {gl gh : Rho → Res (Option Int × Rho)} {p2 : Pos} (ha : J X W ro true a g) (hl : JO X W ro lo gl) (hh : JO X W ro hi gh) :
    J X W ro true (.Subscript a (.Slice lo hi none p2) pos) (gSl g gl gh) := PE.weak (pe_slice sl_all ha hl hh) fun σ H Q ⟨ρ, S, r0, dm, q⟩ =>
  ⟨ρ, S, r0, dm, q.bind.mono fun p _ q v H1 S1 S2 o => ⟨p.2, S2, o.rep, o.dm2, (q.bind.step o.st2).mono fun pl _ q H2 T2 st2 rep2 x2 => ⟨pl.2, T2, rep2, st2.dm, (q.bind.step (o.st2.trans st2)).mono fun ph _ q H3 U2 st3 rep3 x3 => by
    obtain ⟨d', ho, q⟩ := Ans.of_bind q
    refine sl_con (o.ow.step (st2.trans st3) (o.dj rfl)) ho fun v' H' S' x ow nw dm' => q v' H' S' U2 ⟨((o.st2.trans st2).trans st3).trans (Step.ext x st3.dm nw dm'), ow, rep3.ext x, fun _ b h1 h2 => st3.dm b h2 (nw b h1), fun z => ⟨fun a u e => x a u ((x3 z).1 a u ((x2 z).1 a u ((o.ext z).1 a u e))), (x3 z).2.trans ((x2 z).2.trans (o.ext z).2)⟩⟩⟩⟩⟩
theorem JO.weak {e : Option Expr} {g : Rho → Res (Option Int × Rho)} (h : JO X W ro e g) : JO X W false e g := PO.weak h fun σ H Q ⟨ρ, S, r, dm, q⟩ => ⟨ρ, S, r, dm, q.mono fun p _ q H' S2 st rep x => q H' S2 st rep fun z => nomatch z⟩
end
end DV
set_option Elab.async false
set_option linter.all false
set_option maxRecDepth 100000
set_option maxHeartbeats 1000000
/-! data as the kit's PyData: == and != of nested data, sorted. -/
namespace DV
open PySem PySem.Spec PyProof.Rows L2

mutual
def D.py : D → PyData
  | .non => .none
  | .bl b => .bool b
  | .int i => .int i
  | .str x => .str x
  | .tup ds => .tuple (D.pyL ds)
  | .lst ds => .list (D.pyL ds)
  | .lck ds => .list (D.pyL ds)
  | _ => .none
def D.pyL : List D → List PyData
  | [] => []
  | d :: ds => d.py :: D.pyL ds
end
theorem pyL_map : ∀ ds : List D, D.pyL ds = ds.map D.py
  | [] => rfl
  | d :: ds => by rw [D.pyL, pyL_map ds, List.map_cons]
mutual
/-- no dicts, nothing frozen -/
def D.dat : D → Bool
  | .non | .bl _ | .int _ | .str _ => true
  | .tup ds => D.dats ds
  | .lst ds => D.dats ds
  | .lck ds => D.dats ds
  | _ => false
def D.dats : List D → Bool
  | [] => true
  | d :: ds => d.dat && D.dats ds
end
mutual
/-- no boxes, nothing frozen -/
def D.val : D → Bool
  | .non | .bl _ | .int _ | .str _ => true
  | .tup ds => D.vals ds
  | _ => false
def D.vals : List D → Bool
  | [] => true
  | d :: ds => d.val && D.vals ds
end
theorem vals_all {ds : List D} : D.vals ds = true ↔ ∀ d ∈ ds, d.val = true := by
  induction ds with
  | nil => simp [D.vals]
  | cons d ds ih => simp [D.vals, ih]
mutual
theorem val_pure : ∀ {d : D}, d.val = true → d.pure = true
  | .non, _ => rfl
  | .bl _, _ => rfl
  | .int _, _ => rfl
  | .str _, _ => rfl
  | .tup ds, h => by rw [D.val] at h; rw [D.pure]; exact vals_pures h
  | .fro _, h => nomatch h
  | .lst _, h => nomatch h
  | .lck _, h => nomatch h
  | .dic _ _, h => nomatch h
  | .dlk _ _, h => nomatch h
theorem vals_pures : ∀ {ds : List D}, D.vals ds = true → D.pures ds = true
  | [], _ => rfl
  | d :: ds, h => by
    rw [D.vals, Bool.and_eq_true] at h
    rw [D.pures, val_pure h.1, vals_pures h.2]
    rfl
end
section
variable {P : Program} {w : World} [KFr w] {H : Hp}
mutual
theorem own_reads {h : Heap} (ok : HOk P w H h) (ki : (KFr.kfr w).In h) : ∀ {d : D} {v : V} {u : Value} {S : AS}, Own P w H d v S → RelV v u → d.dat = true → ∃ as, Reads h u d.py as
  | .non, v, u, S, o, r, _ => by
    rw [show v = .non from o] at r
    cases r
    exact ⟨_, .none⟩
  | .bl b, v, u, S, o, r, _ => by
    rw [show v = .bl b from o] at r
    cases r
    exact ⟨_, .bool b⟩
  | .int i, v, u, S, o, r, _ => by
    rw [show v = .int i from o] at r
    obtain ⟨t, rfl⟩ := r
    exact ⟨_, .int i t⟩
  | .str x, v, u, S, o, r, _ => by
    rw [show v = .str x from o] at r
    obtain ⟨t, rfl⟩ := r
    exact ⟨_, .str x t⟩
  | .tup ds, v, u, S, o, r, e => by
    rw [D.dat] at e
    obtain ⟨a, vs, rfl, t, ol⟩ := o
    obtain rfl : u = .ref a := r
    rcases t with t | ⟨ob, its, n, ho, hc, hd, _, rv⟩
    · obtain ⟨_, its, rv, ob, ho, hc, n, hd⟩ := ok a _ t
      obtain ⟨as, h2⟩ := own_readsL ok ki ol rv e
      exact ⟨_, .tuple ho hc hd (by simpa using h2)⟩
    · obtain ⟨as, h2⟩ := own_readsL ok ki ol rv e
      exact ⟨_, .tuple (ki a ob ho) hc hd h2⟩
  | .lst ds, v, u, S, o, r, e => by
    rw [D.dat] at e
    obtain ⟨a, vs, rfl, _, t, ol⟩ := o
    obtain rfl : u = .ref a := r
    obtain ⟨_, its, n, rv, ho⟩ := ok a _ t
    obtain ⟨as, h2⟩ := own_readsL ok ki ol rv e
    exact ⟨_, .list ho rfl rfl (by simpa using h2)⟩
  | .lck ds, v, u, S, o, r, e => by
    rw [D.dat] at e
    obtain ⟨a, vs, rfl, _, t, ol⟩ := o
    obtain rfl : u = .ref a := r
    obtain ⟨_, its, n, rv, ho⟩ := ok a _ t
    obtain ⟨as, h2⟩ := own_readsL ok ki ol rv e
    exact ⟨_, .list ho rfl rfl (by simpa using h2)⟩
  | .fro _, _, _, _, _, _, e => nomatch e
  | .dic _ _, _, _, _, _, _, e => nomatch e
  | .dlk _ _, _, _, _, _, _, e => nomatch e
theorem own_readsL {h : Heap} (ok : HOk P w H h) (ki : (KFr.kfr w).In h) : ∀ {ds : List D} {vs : List V} {us : List Value} {S : AS}, OwnL P w H ds vs S → Vals vs us → D.dats ds = true → ∃ as, ReadsAll h us (D.pyL ds) as
  | [], vs, us, S, o, r, e => by
    rw [show vs = [] from o] at r
    cases r
    exact ⟨_, .nil⟩
  | d :: ds, vs, us, S, ⟨v, vr, S1, S2, ev, o1, o2, _⟩, r, e => by
    subst ev
    rw [D.dats, Bool.and_eq_true] at e
    cases r with
    | cons r1 r2 =>
      obtain ⟨as, h1⟩ := own_reads ok ki o1 r1 e.1
      obtain ⟨bs, h2⟩ := own_readsL ok ki o2 r2 e.2
      exact ⟨_, .cons h1 h2⟩
end
mutual
theorem dat_plain : ∀ {d : D}, d.dat = true → d.py.plain = true
  | .non, _ => rfl
  | .bl _, _ => rfl
  | .int _, _ => rfl
  | .str _, _ => rfl
  | .tup ds, h => by rw [D.dat] at h; rw [D.py, PyData.plain]; exact dats_plain h
  | .lst ds, h => by rw [D.dat] at h; rw [D.py, PyData.plain]; exact dats_plain h
  | .lck ds, h => by rw [D.dat] at h; rw [D.py, PyData.plain]; exact dats_plain h
  | .fro _, h => nomatch h
  | .dic _ _, h => nomatch h
  | .dlk _ _, h => nomatch h
theorem dats_plain : ∀ {ds : List D}, D.dats ds = true → PyData.plainAll (D.pyL ds) = true
  | [], _ => rfl
  | d :: ds, h => by
    rw [D.dats, Bool.and_eq_true] at h
    rw [D.pyL, PyData.plainAll, dat_plain h.1, dats_plain h.2]
    rfl
end
mutual
theorem val_dat : ∀ {d : D}, d.val = true → d.dat = true
  | .non, _ => rfl
  | .bl _, _ => rfl
  | .int _, _ => rfl
  | .str _, _ => rfl
  | .tup ds, h => by rw [D.val] at h; rw [D.dat]; exact vals_dats h
  | .fro _, h => nomatch h
  | .lst _, h => nomatch h
  | .lck _, h => nomatch h
  | .dic _ _, h => nomatch h
  | .dlk _ _, h => nomatch h
theorem vals_dats : ∀ {ds : List D}, D.vals ds = true → D.dats ds = true
  | [], _ => rfl
  | d :: ds, h => by
    rw [D.vals, Bool.and_eq_true] at h
    rw [D.dats, val_dat h.1, vals_dats h.2]
    rfl
end
end

/-! ### == and != of nested data -/
section
variable {X : Cx} [KFr X.w] [XKf X] {W : WX} {ro own own' : Bool} {a b e : Expr} {pos : Pos} {g h : Rho → Res (D × Rho)}
def oEqD (neg : Bool) (d e : D) : Option D := if d.dat = true ∧ e.dat = true ∧ min d.py.depth e.py.depth ≤ 60 then some (.bl (xor neg (PyData.eqv d.py e.py))) else none
def rEqD (X : Cx) [KFr X.w] (neg : Bool) : R2 := fun x y H Q => ∃ d e S T, Own X.prog X.w H d x S ∧ Own X.prog X.w H e y T ∧ d.dat = true ∧ e.dat = true ∧ min d.py.depth e.py.depth ≤ 60 ∧ Q (.bl (xor neg (PyData.eqv d.py e.py))) H
theorem op_eqD (hu : X.A.units + 64 < cLine) : OpR X (compareOp .Eq) (rEqD X false) := by
  intro pins s σ H x y v u Q I rx ry ⟨d, e, S, T, o1, o2, h1, h2, hd, q⟩
  obtain ⟨as, r1⟩ := own_reads I.hok (kin I) o1 rx h1
  obtain ⟨bs, r2⟩ := own_reads I.hok (kin I) o2 ry h2
  exact SeqAt.eq_plain r1 r2 (dat_plain h1) (dat_plain h2) (by omega) ⟨.bl _, H, I, rfl, by simpa using q⟩
theorem op_neD (hu : X.A.units + 64 < cLine) : OpR X (compareOp .NotEq) (rEqD X true) := by
  intro pins s σ H x y v u Q I rx ry ⟨d, e, S, T, o1, o2, h1, h2, hd, q⟩
  obtain ⟨as, r1⟩ := own_reads I.hok (kin I) o1 rx h1
  obtain ⟨bs, r2⟩ := own_reads I.hok (kin I) o2 ry h2
  exact SeqAt.ne_plain r1 r2 (dat_plain h1) (dat_plain h2) (by omega) ⟨.bl _, H, I, rfl, by simpa using q⟩
theorem con_eqD (neg : Bool) : Con2 X (oEqD neg) (rEqD X neg) := fun H d e v u S T d' o1 o2 ho Q k => by
  unfold oEqD at ho
  split at ho
  · rename_i hc
    cases ho
    exact ⟨d, e, S, T, o1, o2, hc.1, hc.2.1, hc.2.2, ans_pure k rfl⟩
  · cases ho
theorem j_eqD (hu : X.A.units + 64 < cLine) (ha : J X W ro true a g) (hb : J X W ro own' b h) : J X W ro true (.Compare a [.Eq] [b] pos) (gOp2 (oEqD false) g h) := j_op2 (fun _ _ ha hb => pe_cmpR (op_eqD hu) ha hb (nomark _)) (con_eqD false) ha hb
theorem j_neD (hu : X.A.units + 64 < cLine) (ha : J X W ro true a g) (hb : J X W ro own' b h) : J X W ro true (.Compare a [.NotEq] [b] pos) (gOp2 (oEqD true) g h) := j_op2 (fun _ _ ha hb => pe_cmpR (op_neD hu) ha hb (nomark _)) (con_eqD true) ha hb
theorem jt_eqD (hu : X.A.units + 64 < cLine) (ha : J X W ro true a g) (hb : J X W ro own' b h) : JT X W (.Compare a [.Eq] [b] pos) (gTest (gOp2 (oEqD false) g h)) := jt_op2 (fun _ _ ha hb => pt_cmpR (op_eqD hu) ha hb (nomark _)) (con_eqD false) ha hb
theorem jt_neD (hu : X.A.units + 64 < cLine) (ha : J X W ro true a g) (hb : J X W ro own' b h) : JT X W (.Compare a [.NotEq] [b] pos) (gTest (gOp2 (oEqD true) g h)) := jt_op2 (fun _ _ ha hb => pt_cmpR (op_neD hu) ha hb (nomark _)) (con_eqD true) ha hb
end

/-! ### sorted -/
section
variable {prog : Program} {w : World} [KFr w] {A : Around} {E : Value → Shared → Prop} {s : Shared} {β : Type} {B : List β → Prop} {R : Value → β → Prop} {enc : β → PyData}
/-- x's items, gathered: they stand for one of B -/
def Col (prog : Program) (w : World) [KFr w] (A : Around) (s : Shared) (x : Value) (B : List β → Prop) (R : Value → β → Prop) : Prop :=
  ∀ (E : Value → Shared → Prop) (Q : List Value → Shared → Prop), (∀ s' vs bs, (∀ b o, s.heap.get? b = some o → s'.heap.get? b = some o) → s'.gens = s.gens → s'.os = s.os → B bs → PySem.W.EachIs R vs bs → Q vs s') →
    wpAny (model prog w) A (collect x) Q E s
theorem sorted_col {x : Value} {kw : List (Str × Value)} {Q : Value → Shared → Prop} (col : Col prog w A.in1 s x B R) (ha1 : argsOk "sorted" ⟨[x], kw⟩) (ha2 : ∀ y, argsOk "list.sort" ⟨[.ref y], kw⟩) (hz : ∀ bs, B bs → bs.length ≤ sizeLine)
    (body : ∀ (E' : Value → Shared → Prop) (s' : Shared) (vs : List Value) (bs : List β), (∀ b o, s.heap.get? b = some o → s'.heap.get? b = some o) → s'.gens = s.gens → s'.os = s.os → B bs → PySem.W.EachIs R vs bs →
      wpAny (model prog w) A.in1.in1 (Builtin.«list.sort» ⟨[.ref s'.heap.objs.size], kw⟩) (fun f s'' => f = .done (.ret .none) ∧ Q (.ref s'.heap.objs.size) s'') E' { s' with heap := s'.heap.push (seqObj "list" vs.toArray 0) }) :
    wpAny (model prog w) A (call (.builtin "sorted") [x] kw) Q E s := by
  refine call_function_entry_kw kind_sorted plain_sorted entry_sorted ha1 ?_
  unfold Builtin.«sorted»
  refine wpAny_bind (m := checkCount "sorted" 1 1 _) (wpAny_pure ?_)
  refine wpAny_bind (col _ _ fun s1 vs bs k1 g1 o1 hB hR => ?_)
  refine wpAny_bind (wpAny_newList ?_ (by rw [hR.length]; exact hz bs hB))
  refine wpAny_bind (wpAny_holding (wpAny_call_entry_kw slot_list_sort ⟨_, Heap.get?_push_size _ rfl, rfl⟩ entry_list_sort ?body (ha2 _)))
  case body =>
    refine wpAny_mono (body _ s1 vs bs k1 g1 o1 hB hR) (fun f s' hf => ?_) fun _ _ e => e
    obtain ⟨rfl, hq⟩ := hf
    exact ⟨_, rfl, wpAny_pure ⟨_, rfl, hq⟩⟩
/-- sorted(x) -/
theorem sorted_colD {x : Value} {Q : Value → Shared → Prop} (col : Col prog w A.in1 s x B R) (ha1 : argsOk "sorted" ⟨[x], []⟩) (hz : ∀ bs, B bs → bs.length ≤ sizeLine)
    (hr : ∀ h', (∀ b o, s.heap.get? b = some o → h'.get? b = some o) → ∀ u b, R u b → ∃ as, Reads h' u (enc b) as)
    (hal : ∀ bs, B bs → PySem.W.AllAlike (bs.map enc) ∧ PySem.W.Sortable (bs.map enc) ∧ ∀ b ∈ bs, A.units + 2 + (enc b).depth < cLine)
    (h : ∀ (s1 s' : Shared) (p : Addr) (out : List Value) (c : Nat) (bs : List β), (∀ b o, s.heap.get? b = some o → s1.heap.get? b = some o) → s1.gens = s.gens → s1.os = s.os → (∀ b o, s1.heap.get? b = some o → s'.heap.get? b = some o) → s'.gens = s1.gens → s'.os = s1.os → s1.heap.objs.size ≤ p → s'.heap.get? p = some (seqObj "list" (List.toArray out) c) → B bs → PySem.W.EachIs R out (bs.mergeSort (PySem.W.dataLe false enc)) → Q (.ref p) s') :
    wpAny (model prog w) A (call (.builtin "sorted") [x]) Q E s := by
  refine sorted_col col ha1 (fun _ => args_list_sort _) hz fun E' s1 vs bs k1 g1 o1 hB hR => ?_
  obtain ⟨h1, h2, h3⟩ := hal bs hB
  have hL : vs.length ≤ sizeLine := by rw [hR.length]; exact hz bs hB
  have kp : ∀ b o, s.heap.get? b = some o → (PySem.W.sortingHeap (s1.heap.push (seqObj "list" vs.toArray 0)) s1.heap.objs.size vs).get? b = some o := fun b o q =>
    PySem.W.sortingHeap_old (Nat.ne_of_lt (Heap.lt_size (k1 b o q))) (Heap.get?_push_of_some _ (k1 b o q))
  have er : PySem.W.EachIs (fun v b => ∃ as, Reads (PySem.W.sortingHeap (s1.heap.push (seqObj "list" vs.toArray 0)) s1.heap.objs.size vs) v (enc b) as) vs bs := hR.mono fun u b r => hr _ kp u b r
  refine PySem.W.list_sort_vals (s := { s1 with heap := s1.heap.push (seqObj "list" vs.toArray 0) }) (Heap.get?_push_size _ rfl)
    (PySem.W.SortsAt.data (s := { s1 with heap := PySem.W.sortingHeap (s1.heap.push (seqObj "list" vs.toArray 0)) s1.heap.objs.size vs }) (PySem.W.each_map (R := fun v d => ∃ as, Reads (PySem.W.sortingHeap (s1.heap.push (seqObj "list" vs.toArray 0)) s1.heap.objs.size vs) v d as) enc er) h1 h2 (PySem.W.bound_map (A := A.in1.in1) h3)) hL ⟨rfl, ?_⟩
  obtain ⟨c, hc⟩ := sortedHeap_at (vs := vs) (out := (PySem.W.sortVals (PySem.W.dataKind (PySem.W.sortingHeap (s1.heap.push (seqObj "list" vs.toArray 0)) s1.heap.objs.size vs) (bs.map enc)) false vs vs).toArray) (h := s1.heap.push (seqObj "list" vs.toArray 0)) (a := s1.heap.objs.size) (Heap.get?_push_size _ rfl)
  refine h s1 _ s1.heap.objs.size _ c bs k1 g1 o1 (fun b o q => ?_) rfl rfl (Nat.le_refl _) hc hB (PySem.W.sortVals_data false hR er h1)
  have hlt := Heap.lt_size q
  show (sortedHeap (s1.heap.push (seqObj "list" vs.toArray 0)) s1.heap.objs.size vs _).get? b = some o
  rw [sortedHeap_old (Nat.ne_of_lt hlt) (by rw [size_push']; exact Nat.lt_succ_of_lt hlt)]
  exact Heap.get?_push_of_some _ q
end
end DV
set_option Elab.async false
set_option linter.all false
set_option maxRecDepth 100000
set_option maxHeartbeats 1000000
/-! sorted(list | tuple | dict) as a rule. -/
namespace DV
open PySem PySem.Spec PyProof.Rows L2

/-- what sorted goes over -/
def D.its (d : D) : Option (List D) := match d.dict with
  | some (ks, _) => if ks.all (fun k => k.atom.isSome) = true then some ks else none
  | none => d.items
/-- these data can be sorted -/
def SortOk (ds : List D) : Prop := D.vals ds = true ∧ ds.length ≤ sizeLine ∧ PySem.W.AllAlike (ds.map D.py) ∧ PySem.W.Sortable (ds.map D.py) ∧ ∀ d ∈ ds, d.py.depth ≤ 60
def D.le (a b : D) : Bool := PySem.W.dataLe false D.py a b
open Classical in
noncomputable def oSorted (d : D) : Option D := match d.its with
  | some ds => if SortOk ds then some (.lst (ds.mergeSort D.le)) else none
  | none => none

section
variable {P : Program} {w : World} [KFr w] {H : Hp}
theorem zip_own : ∀ {ds : List D} {vs : List V} {S : AS}, OwnL P w H ds vs S → D.vals ds = true → ∀ p ∈ ds.zip vs, Own P w H p.1 p.2 (fun _ => False)
  | [], vs, S, o, _, p, hp => by simp at hp
  | d :: ds, vs, S, ⟨v, vr, S1, S2, e, o1, o2, _⟩, hv, p, hp => by
    subst e
    rw [D.vals, Bool.and_eq_true] at hv
    rw [List.zip_cons_cons] at hp
    rcases List.mem_cons.mp hp with e | hp
    · rw [e]; exact o1.ofPure (val_pure hv.1)
    · exact zip_own o2 hv.2 p hp
theorem ownL_pairs : ∀ {ys : List (D × V)} {S : AS}, (∀ p ∈ ys, Own P w H p.1 p.2 (fun _ => False)) → OwnL P w H (ys.map Prod.fst) (ys.map Prod.snd) S
  | [], _, _ => rfl
  | p :: ys, S, h => ⟨p.2, _, fun _ => False, S, rfl, h p List.mem_cons_self, ownL_pairs fun q hq => h q (List.mem_cons_of_mem _ hq), fun _ z => z.elim, fun _ z => z, fun _ z => z.elim⟩
theorem each_of_vals : ∀ {vs : List V} {us : List Value} {ds : List D}, Vals vs us → ds.length = vs.length → PySem.W.EachIs (fun (u : Value) (p : D × V) => RelV p.2 u ∧ p ∈ ds.zip vs) us (ds.zip vs)
  | [], _, ds, .nil, h => by
    rw [List.zip_nil_right]
    exact .nil
  | v :: vs, u :: us, [], .cons r t, h => by simp at h
  | v :: vs, u :: us, d :: ds, .cons r t, h => by
    rw [List.zip_cons_cons]
    exact .cons ⟨r, List.mem_cons_self⟩ ((each_of_vals t (by simpa using h)).mono fun a b hab => ⟨hab.1, List.mem_cons_of_mem _ hab.2⟩)
theorem vals_of_each {Z : List (D × V)} : ∀ {us : List Value} {ys : List (D × V)}, PySem.W.EachIs (fun (u : Value) (p : D × V) => RelV p.2 u ∧ p ∈ Z) us ys → Vals (ys.map Prod.snd) us
  | _, _, .nil => .nil
  | _, _, .cons h t => .cons h.1 (vals_of_each t)
end

section
variable {X : Cx} [KFr X.w] [XKf X] {W : WX} {ro own own' : Bool} {a b e : Expr} {pos : Pos} {g h : Rho → Res (D × Rho)} {pins : List (Addr × Obj)} {σ : L2.St} {H : Hp} {s : Shared}
abbrev RZ (Z : List (D × V)) : Value → D × V → Prop := fun u p => RelV p.2 u ∧ p ∈ Z
/-- a list, a tuple, a dict: gathered -/
theorem col_items (hc : X.calm = true) (I : L2.Inv X pins σ H s) {d : D} {ds : List D} {v : V} {u : Value} {S : AS} (o : Own X.prog X.w H d v S) (r : RelV v u) (hd : d.its = some ds) (hz : ds.length ≤ sizeLine) :
    ∃ vs S', OwnL X.prog X.w H ds vs S' ∧ ds.length = vs.length ∧ (∃ a, u = .ref a) ∧ Col X.prog X.w X.A.in1 s u (fun bs => bs = ds.zip vs) (RZ (ds.zip vs)) := by
  unfold D.its at hd
  split at hd
  · rename_i ks es hk
    split at hd
    · rename_i hat
      cases hd
      obtain ⟨a, ob, kv, vs, rfl, rd, q, ok, od⟩ := own_dict o hk
      obtain rfl : u = .ref a := r
      refine ⟨kv, _, ok, ok.length.symm, ⟨a, rfl⟩, fun E Q hQ => ?_⟩
      rcases q.2 with ⟨kvs, rfl, _, rfl, hks⟩ | ⟨es', rfl, hne, _, rfl, hks⟩
      · obtain ⟨z, lo, ws, rel, dd⟩ := dk_rd I.hok rd
        obtain ⟨ep, hat'⟩ := dd.dictAt
        have hlen : ws.length = kvs.length := by
          have e := congrArg List.length rel.keys
          rw [List.length_map, List.length_map] at e
          exact e.symm
        refine PySem.W.kdu_collect (A := X.A.in1) (PySem.W.kdl_dict (knd := mixKind X.prog X.w) (kvs := ws) (ep := ep) lo) (I.ok.hd hc) hat' (by rw [hlen]; exact z) fun h' tk acc hk' hacc => ?_
        refine hQ { s with heap := h', toks := tk } acc.toList (ds.zip (kvs.map fun p => kV p.1)) hk' rfl rfl rfl ?_
        · have hv : Vals (ws.map fun p => kV p.1) acc.toList := keys_at (by rw [Array.length_toList]; exact hacc.1) fun j v e => hacc.2 j v (by rw [← Array.getElem?_toList]; exact e)
          have e : (ws.map fun p => kV p.1) = kvs.map fun p => kV p.1 := by
            have e := congrArg (List.map kV) rel.keys
            rw [List.map_map, List.map_map] at e
            exact e.symm
          rw [e] at hv
          exact each_of_vals hv (ok.length.symm)
      · exfalso
        cases es' with
        | nil => exact hne rfl
        | cons p es' =>
          cases ds with
          | nil => simp at hks
          | cons k ks =>
            simp only [List.map_cons, List.cons.injEq] at hks
            simp only [List.all_cons, Bool.and_eq_true] at hat
            have h1 := hks.1
            have h2 := hat.1
            cases k <;> first | (cases h1; done) | (cases h2; done)
    · cases hd
  · obtain ⟨p, vs, rfl, sq, ol⟩ := own_items (K := X.K) XKf.eq o hd
    obtain rfl : u = .ref p := r
    refine ⟨vs, _, ol, ol.length.symm, ⟨p, rfl⟩, fun E Q hQ => ?_⟩
    have key : ∀ (T : String) (its : List Value) (o : Obj) (n : Nat), (T = "list" ∨ T = "tuple") → s.heap.get? p = some o → o.cls = .type T → o.data = .seq its.toArray n → Vals vs its → wpAny (model X.prog X.w) X.A.in1 (collect (.ref p)) Q E s := fun T its o n hT ho hc hd rv => by
      refine wpAny_collect_seq p hT ho hc hd (fun h' k => ?_) (by rw [List.size_toArray, ← rv.length, ol.length]; exact hz)
      refine hQ { s with heap := h' } its.toArray.toList _ k rfl rfl rfl ?_
      · rw [List.toList_toArray]
        exact each_of_vals rv ol.length.symm
    rcases sq with sq | sq
    · obtain ⟨its, rv, ⟨o, n, ho, hc, _, hd⟩, _⟩ := I.list sq
      exact key "list" its o n (.inl rfl) ho hc hd rv
    · obtain ⟨its, rv, ⟨o, ho, hc, n, hd⟩, _⟩ := I.tuple sq
      exact key "tuple" its o n (.inr rfl) ho hc hd rv

def rSortD (X : Cx) [KFr X.w] : List V → Hp → VK → Prop := fun xs H Q => ∃ d ds v S, xs = [v] ∧ Own X.prog X.w H d v S ∧ d.its = some ds ∧ SortOk ds ∧
  ∀ p vs' , H p = none → Own X.prog X.w (upd H p (.lst vs')) (.lst (ds.mergeSort D.le)) (.ref p) (fun b => b = p) → Q (.ref p) (upd H p (.lst vs'))
theorem sort_fst (ds : List D) (vs : List V) (h : ds.length = vs.length) : ((ds.zip vs).mergeSort (PySem.W.dataLe false fun p : D × V => p.1.py)).map Prod.fst = ds.mergeSort D.le := by
  rw [PySem.W.sort_maps (r := PySem.W.dataLe false fun p : D × V => p.1.py) (s := D.le) Prod.fst (fun a _ b _ => rfl), List.map_fst_zip (by omega)]
theorem cr_sortD (hc : X.calm = true) (hu : X.A.units + 64 < cLine) : CallR X (.builtin "sorted") (rSortD X) := by
  intro pins s σ H xs us Q I r ⟨d, ds, v, S, ex, o, hd, ⟨hv, hz, hal, hso, hdp⟩, q⟩
  subst ex
  obtain ⟨u, rfl, ru⟩ := vals1 r
  obtain ⟨vs, S', ol, hl, ⟨a, rfl⟩, col⟩ := col_items hc I o ru hd hz
  have ow := zip_own ol hv
  have e1 : (ds.zip vs).map (fun p => p.1.py) = ds.map D.py := by
    have : (fun p : D × V => p.1.py) = D.py ∘ Prod.fst := rfl
    rw [this, ← List.map_map, List.map_fst_zip (by omega)]
  refine sorted_colD (enc := fun p : D × V => p.1.py) col (args_sorted1 _) (fun bs e => ?_) (fun h' k u p hp => ?_) (fun bs e => ?_) fun s1 s' p out c bs k g os k' g' os' hp hg e hR => ?_
  · rw [e, List.length_zip, ← hl, Nat.min_self]; exact hz
  · have I' := I.kept (t' := s.toks) k
    exact own_reads I'.hok (kin I') (ow p hp.2) hp.1 (val_dat (vals_all.mp hv _ (List.of_mem_zip hp.2).1))
  · subst e
    rw [e1]
    refine ⟨hal, hso, fun p hp => ?_⟩
    have := hdp _ (List.of_mem_zip hp).1
    omega
  · subst e
    have I1 : L2.Inv X pins σ H s1 := I.call' (ch := []) os (Un.kept k) (I.hok.kept k) (by rw [g]; exact I.bare) (fun _ z => nomatch z)
    have hn : H p = none := I1.hok.fresh hp
    have hlen : (((ds.zip vs).mergeSort (PySem.W.dataLe false fun p : D × V => p.1.py)).map Prod.snd).length ≤ sizeLine := by
      rw [List.length_map, List.length_mergeSort, List.length_zip, ← hl, Nat.min_self]; exact hz
    have J := I1.call' (H' := upd H p (.lst (((ds.zip vs).mergeSort (PySem.W.dataLe false fun p : D × V => p.1.py)).map Prod.snd))) (s' := s') (ch := []) os' (Un.laid k' hp hn) (I1.hok.laid k' hp ⟨hlen, out, c, vals_of_each hR, hg⟩) (by rw [g']; exact I1.bare) (fun _ z => nomatch z)
    refine ⟨.ref p, _, J, rfl, q p _ hn ?_⟩
    have hlst := ownL_pairs (P := X.prog) (w := X.w) (H := upd H p (.lst (((ds.zip vs).mergeSort (PySem.W.dataLe false fun p : D × V => p.1.py)).map Prod.snd))) (ys := (ds.zip vs).mergeSort (PySem.W.dataLe false fun p : D × V => p.1.py)) (S := fun b => b = p ∧ b ≠ p)
      fun z hz => (ow z ((List.mergeSort_perm _ _).mem_iff.mp hz)).ext (ext_upd hn)
    rw [sort_fst ds vs hl] at hlst
    exact ⟨p, _, rfl, rfl, upd_same, hlst⟩
theorem con_sorted : Con1 X oSorted (fun v H Q => rSortD X [v] H Q) := fun H d v S d' o ho Q k => by
  unfold oSorted at ho
  split at ho
  · rename_i ds hd
    split at ho
    · rename_i hs
      cases ho
      exact ⟨d, ds, v, S, rfl, o, hd, hs, fun p vs' hp ow => new_one k hp ow⟩
    · cases ho
  · cases ho
theorem j_sorted {p : Pos} (hu : X.A.units + 64 < cLine) (hc : X.calm = true) (hg : Gl X "sorted") (hm : X.mg "sorted" = none) (ha : J X W ro own a g) (hs : starEach [a] X.env = (false, eval a X.env) :: starEach [] X.env := by rfl) : J X W ro true (.Call (.Name "sorted" p) [a] [] pos) (gOp1 oSorted g) :=
  j_blt1 (cr_sortD hc hu) hg hm (by decide +kernel) con_sorted ha hs
end
end DV
set_option Elab.async false
set_option linter.all false
set_option maxRecDepth 100000
set_option maxHeartbeats 1000000
/-! what the printed proofs use. -/
namespace DV
open PySem PySem.Spec PyProof.Rows L2

def visB (sc : Scope) (x : Str) : Bool := match sc.names.lookup x with
  | some .local => true
  | some .cell => true
  | some .free => true
  | _ => false
theorem vis_by {sc : Scope} {x : Str} (h : visB sc x = true) : Vis sc x := by
  unfold visB at h
  split at h
  · rename_i e; exact .inl e
  · rename_i e; exact .inr (.inl e)
  · rename_i e; exact .inr (.inr e)
  · cases h
def locB (sc : Scope) (x : Str) : Bool := match sc.names.lookup x with
  | some .local => true
  | some .cell => true
  | _ => false
theorem loc_by {sc : Scope} {x : Str} (h : locB sc x = true) : Loc sc x := by
  unfold locB at h
  split at h
  · rename_i e; exact .inl e
  · rename_i e; exact .inr e
  · cases h
theorem nin_by {kp : List Nat} {i : Nat} (h : kp.contains i = false) : i ∉ kp := fun z => by
  rw [List.contains_iff_mem.mpr z] at h
  cases h
theorem all_nin {kp vs : List Nat} (h : (kp.all fun i => !vs.contains i) = true) : ∀ i ∈ kp, i ∉ vs := fun i hi => nin_by (by simpa using List.all_eq_true.mp h i hi)
theorem all_in {kp vs : List Nat} (h : (kp.all fun i => vs.contains i) = true) : ∀ i ∈ kp, i ∈ vs := fun i hi => List.contains_iff_mem.mp (List.all_eq_true.mp h i hi)
/-- the built-ins' names are nobody else's -/
structure Blt (mg : Str → Option Value) : Prop where
  int : mg "int" = none
  len : mg "len" = none
  abs : mg "abs" = none
  list : mg "list" = none
  range : mg "range" = none
  isinstance : mg "isinstance" = none
  bool : mg "bool" = none
  str : mg "str" = none
  sorted : mg "sorted" = none
  tuple : mg "tuple" = none
  max : mg "max" = none
  min : mg "min" = none
  sum : mg "sum" = none
  all : mg "all" = none
  any : mg "any" = none
  set : mg "set" = none
  dict : mg "dict" = none
/-- the def x of the module, as the text has it -/
def Said (K : PySem.W.Frag) (mg : Str → Option Value) (x : Str) (st : Stmt) : Prop := ∃ f fd, mg x = some (.ref f) ∧ FunD K x x (defArgs st) (defBody st) (defScope st) [] [] f fd
/-- the def x keeps the promise g -/
def Callee (P : Program) (w : World) [KFr w] (K : PySem.W.Frag) (mg : Str → Option Value) (base : Heap) (k : Nat) (x : Str) (ps : List Str) (g : List D → FRes) : Prop :=
  ∃ f fd, mg x = some (.ref f) ∧ PySem.W.keepIn K (.ref f) = true ∧ Binds K fd ps [] ∧ FnD P w K mg base k f fd ps g
theorem Callee.imp {P : Program} {w : World} [KFr w] {K : PySem.W.Frag} {mg : Str → Option Value} {base : Heap} {k : Nat} {x : Str} {ps : List Str} {g g' : List D → FRes} (c : Callee P w K mg base k x ps g) (h : ∀ ds, g' ds ≠ .stuck → g ds = g' ds) : Callee P w K mg base k x ps g' := by
  obtain ⟨f, fd, h1, h2, h3, F⟩ := c
  exact ⟨f, fd, h1, h2, h3, F.imp h⟩

def gCp (g : Rho → Res (D × Rho)) : Rho → Res (D × Rho) := fun ρ => (g ρ).bind onlyPure
def gStuck : Rho → Res (Fl × Rho) := fun _ => .stuck
def gOneT (t : Rho → Res (Bool × Rho)) : Rho → Res (Bool × Rho) := t
section
variable {X : Cx} [KFr X.w] [XKf X] {W : WX} {kp : List Nat} {ro own own' : Bool} {e a b : Expr} {es : List Expr} {pos p : Pos} {g h : Rho → Res (D × Rho)} {gs : Rho → Res (List Arg × Rho)} {x : Str} {k j : Nat} {ps : List Str} {fs : List D → FRes}
theorem J.cp (h : J X W ro own e g) : J X W ro true e (gCp g) := J.copy h
theorem ss_stuck {s : Stmt} : SS X W kp s gStuck := ⟨fun pins s σ H D I ⟨ρ, S, r, dm, q⟩ => q.elim⟩
theorem pts_one1 {gt : Rho → Res (Bool × Rho)} (h : JT X W e gt) : PTs X [e] (tJT X W (gOneT gt)) := pts_one h
theorem j_callC (c : Callee X.prog X.w X.K X.mg X.base j x ps fs) (hr : Room k X.A) (hj : j ≤ k) (hg : Gl X x) (tk : Takes X W) (ha : JL X W (e :: es) gs) (hn : ∀ p ρ, gs ρ = .ok p → p.1.length = ps.length) (hdb : (x == ("__debug__" : Str)) = false := by decide)
    (he : starEach (e :: es) X.env = (false, eval e X.env) :: starEach es X.env := by rfl) (hpl : (backTo pos (starEach es X.env)).any (·.1) = false := by rfl) : J X W false true (.Call (.Name x p) (e :: es) [] pos) (gCall fs gs) := by
  obtain ⟨f, fd, h1, h2, h3, F⟩ := c
  exact j_call F (hr.mono hj) hg h1 h2 h3 tk ha hn hdb he hpl
end
end DV
set_option Elab.async false
set_option linter.all false
set_option maxRecDepth 100000
set_option maxHeartbeats 1000000
/-! what a denotation does, told by what holds behind it. -/
namespace DV
open PySem PySem.Spec PyProof.Rows L2

def Sat {α : Type} (r : Res α) (Q : α → Prop) : Prop := match r with
  | .ok a => Q a
  | _ => False
section
variable {α β : Type} {r : Res α} {Q Q' : α → Prop} {R : β → Prop} {f : α → Res β} {ρ : Rho}
theorem Sat.mono (h : Sat r Q) (k : ∀ a, Q a → Q' a) : Sat r Q' := by
  cases r with
  | ok a => exact k a h
  | raise x y => exact h
  | stuck => exact h
theorem Sat.get (h : Sat r Q) : ∃ a, r = .ok a ∧ Q a := by
  cases r with
  | ok a => exact ⟨a, rfl, h⟩
  | raise x y => exact h.elim
  | stuck => exact h.elim
@[simp] theorem sat_ok {a : α} : Sat (.ok a) Q ↔ Q a := Iff.rfl
@[simp] theorem sat_stuck : Sat (.stuck : Res α) Q ↔ False := Iff.rfl
@[simp] theorem sat_raise {x : Exc} {y : Rho} : Sat (.raise x y : Res α) Q ↔ False := Iff.rfl
@[simp] theorem sat_bind : Sat (r.bind f) R ↔ Sat r fun a => Sat (f a) R := by cases r <;> exact Iff.rfl
@[simp] theorem sat_some {a : α} : Sat (Res.of (some a)) Q ↔ Q a := Iff.rfl
@[simp] theorem sat_none : Sat (Res.of (none : Option α)) Q ↔ False := Iff.rfl
theorem sat_of {o : Option α} : Sat (Res.of o) Q ↔ ∃ a, o = some a ∧ Q a := by
  cases o with
  | none => simp
  | some a => simp
@[simp] theorem bind_ok {a : α} : (Res.ok a).bind f = f a := rfl
@[simp] theorem bind_stuck : (Res.stuck : Res α).bind f = .stuck := rfl
@[simp] theorem bind_raise {x : Exc} {y : Rho} : (Res.raise x y : Res α).bind f = .raise x y := rfl
@[simp] theorem of_some {a : α} : Res.of (some a) = .ok a := rfl
@[simp] theorem of_none : Res.of (none : Option α) = .stuck := rfl
theorem sat_ite {c : Prop} [Decidable c] {a b : Res α} : Sat (if c then a else b) Q ↔ (c → Sat a Q) ∧ (¬ c → Sat b Q) := by
  by_cases h : c <;> simp [h]
@[simp] theorem sat_quiet : Sat r.quiet Q ↔ Sat r Q := by cases r <;> exact Iff.rfl
end
section
variable {Q : Fl × Rho → Prop} {QD : D × Rho → Prop} {QB : Bool × Rho → Prop} {ρ : Rho} {g h : Rho → Res (D × Rho)} {gs gu : Rho → Res (Fl × Rho)} {gt gv : Rho → Res (Bool × Rho)} {d : D} {i : Nat}
theorem s_seq : Sat (gSeq gs gu ρ) Q ↔ Sat (gs ρ) fun p => (p.1 = .next → Sat (gu p.2) Q) ∧ (p.1 ≠ .next → Q p) := by
  unfold gSeq
  rw [sat_bind]
  cases gs ρ with
  | ok p =>
    obtain ⟨f, ρ'⟩ := p
    cases f <;> simp
  | raise x y => simp
  | stuck => simp
theorem s_next : Sat (gNext ρ) Q ↔ Q (.next, ρ) := Iff.rfl
theorem s_ret : Sat (gRet g ρ) Q ↔ Sat (g ρ) fun p => Q (.ret p.1, p.2) := by unfold gRet; simp
theorem s_drop : Sat (gDrop g ρ) Q ↔ Sat (g ρ) fun p => Q (.next, p.2) := by unfold gDrop; simp
theorem s_if : Sat (gIfS gt gs gu ρ) Q ↔ Sat (gt ρ) fun p => (p.1 = true → Sat (gs p.2) Q) ∧ (p.1 = false → Sat (gu p.2) Q) := by
  unfold gIfS
  rw [sat_bind]
  cases gt ρ with
  | ok p =>
    obtain ⟨b, ρ'⟩ := p
    cases b <;> simp
  | raise x y => simp
  | stuck => simp
theorem s_set : Sat (gSet i g ρ) Q ↔ Sat (g ρ) fun p => i < p.2.length ∧ Q (.next, p.2.set i (some p.1)) := by
  unfold gSet
  rw [sat_bind]
  cases g ρ with
  | ok p =>
    simp only [sat_ok, sat_ite, sat_stuck]
    exact ⟨fun z => by
      by_cases hc : i < p.2.length
      · exact ⟨hc, z.1 hc⟩
      · exact (z.2 hc).elim, fun z => ⟨fun _ => z.2, fun n => n z.1⟩⟩
  | raise x y => simp
  | stuck => simp
theorem s_c : gC d ρ = .ok (d, ρ) := rfl
theorem s_yes : gYes ρ = .ok (true, ρ) := rfl
theorem s_var (h : ρ[i]? = some (some d)) : gVar i ρ = .ok (d, ρ) := by unfold gVar; rw [h]
theorem s_cp : Sat (gCp g ρ) QD ↔ Sat (g ρ) fun p => p.1.pure = true ∧ QD p := by
  unfold gCp
  rw [sat_bind]
  cases g ρ with
  | ok p =>
    simp only [sat_ok, onlyPure, sat_ite, sat_stuck]
    exact ⟨fun z => by
      by_cases hc : p.1.pure = true
      · exact ⟨hc, z.1 hc⟩
      · exact (z.2 hc).elim, fun z => ⟨fun _ => z.2, fun n => n z.1⟩⟩
  | raise x y => simp
  | stuck => simp
theorem s_op1 {op : D → Option D} : Sat (gOp1 op g ρ) QD ↔ Sat (g ρ) fun p => ∃ d, op p.1 = some d ∧ QD (d, p.2) := by
  unfold gOp1
  rw [sat_bind]
  cases g ρ with
  | ok p => simp [sat_of]
  | raise x y => simp
  | stuck => simp
theorem s_op2 {op : D → D → Option D} : Sat (gOp2 op g h ρ) QD ↔ Sat (g ρ) fun p => Sat (h p.2) fun q => ∃ d, op p.1 q.1 = some d ∧ QD (d, q.2) := by
  unfold gOp2
  simp [sat_of]
theorem s_test : Sat (gTest g ρ) QB ↔ Sat (g ρ) fun p => ∃ b, p.1.bool = some b ∧ QB (b, p.2) := by
  unfold gTest
  simp [sat_of]
theorem s_one : gOneT gt ρ = gt ρ := rfl
theorem s_not : Sat (gNot gt ρ) QB ↔ Sat (gt ρ) fun p => QB (!p.1, p.2) := by unfold gNot; simp
theorem s_and : Sat (gAnd gt gv ρ) QB ↔ Sat (gt ρ) fun p => (p.1 = true → Sat (gv p.2) QB) ∧ (p.1 = false → QB (false, p.2)) := by
  unfold gAnd
  rw [sat_bind]
  cases gt ρ with
  | ok p => obtain ⟨b, ρ'⟩ := p; cases b <;> simp
  | raise x y => simp
  | stuck => simp
theorem s_or : Sat (gOr gt gv ρ) QB ↔ Sat (gt ρ) fun p => (p.1 = true → QB (true, p.2)) ∧ (p.1 = false → Sat (gv p.2) QB) := by
  unfold gOr
  rw [sat_bind]
  cases gt ρ with
  | ok p => obtain ⟨b, ρ'⟩ := p; cases b <;> simp
  | raise x y => simp
  | stuck => simp
theorem s_ifE : Sat (gIf gt g h ρ) QD ↔ Sat (gt ρ) fun p => (p.1 = true → Sat (g p.2) QD) ∧ (p.1 = false → Sat (h p.2) QD) := by
  unfold gIf
  rw [sat_bind]
  cases gt ρ with
  | ok p => obtain ⟨b, ρ'⟩ := p; cases b <;> simp
  | raise x y => simp
  | stuck => simp
theorem s_andV : Sat (gAndV g h ρ) QD ↔ Sat (g ρ) fun p => ∃ b, p.1.bool = some b ∧ (b = true → Sat (h p.2) QD) ∧ (b = false → QD (.bl false, p.2)) := by
  unfold gAndV
  rw [sat_bind]
  cases g ρ with
  | ok p =>
    obtain ⟨x, ρ'⟩ := p
    cases hb : x.bool with
    | none => simp [hb]
    | some b => cases b <;> simp [hb]
  | raise x y => simp
  | stuck => simp
theorem s_orV : Sat (gOrV g h ρ) QD ↔ Sat (g ρ) fun p => ∃ b, p.1.bool = some b ∧ (b = true → QD (.bl true, p.2)) ∧ (b = false → Sat (h p.2) QD) := by
  unfold gOrV
  rw [sat_bind]
  cases g ρ with
  | ok p =>
    obtain ⟨x, ρ'⟩ := p
    cases hb : x.bool with
    | none => simp [hb]
    | some b => cases b <;> simp [hb]
  | raise x y => simp
  | stuck => simp
theorem s_opV {op : D → D → Option D} : Sat (gOpV op i h ρ) QD ↔ ∃ d0, ρ[i]? = some (some d0) ∧ Sat (h ρ) fun q => ∃ d, q.2[i]? = some (some d) ∧ ∃ d', op d q.1 = some d' ∧ QD (d', q.2) := by
  unfold gOpV
  cases e : ρ[i]? with
  | none => simp
  | some o =>
    cases o with
    | none => simp
    | some d0 =>
      simp only [sat_bind]
      constructor
      · intro hh
        refine ⟨d0, rfl, hh.mono fun q hq => ?_⟩
        cases e2 : q.2[i]? with
        | none => rw [e2] at hq; exact hq.elim
        | some o2 =>
          cases o2 with
          | none => rw [e2] at hq; exact hq.elim
          | some d =>
            rw [e2] at hq
            simp only [sat_bind, sat_of, sat_ok] at hq
            obtain ⟨d', h1, h2⟩ := hq
            exact ⟨d, rfl, d', h1, h2⟩
      · rintro ⟨_, _, hh⟩
        refine hh.mono fun q hq => ?_
        obtain ⟨d, e2, d', h1, h2⟩ := hq
        rw [e2]
        simp only [sat_bind, sat_of, sat_ok]
        exact ⟨d', h1, h2⟩
theorem s_nil {ρ : Rho} : gNil ρ = .ok ([], ρ) := rfl
theorem s_cons {gs : Rho → Res (List D × Rho)} {Q : List D × Rho → Prop} : Sat (gCons g gs ρ) Q ↔ Sat (g ρ) fun p => Sat (gs p.2) fun q => Q (p.1 :: q.1, q.2) := by unfold gCons; simp
theorem sat_when {α : Type} {c : Prop} [Decidable c] {r : Res α} {Q : α → Prop} : Sat (if c then r else .stuck) Q ↔ c ∧ Sat r Q := by
  by_cases h : c <;> simp [h]
theorem s_tup {gs : Rho → Res (List D × Rho)} : Sat (gTup gs ρ) QD ↔ Sat (gs ρ) fun p => p.1.length ≤ 1000 ∧ QD (.tup p.1, p.2) := by unfold gTup; simp [sat_when]
theorem s_lst {gs : Rho → Res (List D × Rho)} : Sat (gLst gs ρ) QD ↔ Sat (gs ρ) fun p => p.1.length ≤ 1000 ∧ QD (.lst p.1, p.2) := by unfold gLst; simp [sat_when]
theorem s_mut {op : List D → List D → Option (D × List D)} {gs : Rho → Res (List D × Rho)} : Sat (gMut i op gs ρ) QD ↔ ∃ xs0, slotL ρ i = some xs0 ∧ Sat (gs ρ) fun p => ∃ xs, slotL p.2 i = some xs ∧ ∃ q, op xs p.1 = some q ∧ QD (q.1, p.2.set i (some (.lst q.2))) := by
  unfold gMut
  simp only [sat_bind, sat_of, sat_ok]
theorem s_call {f : List D → FRes} {gs : Rho → Res (List Arg × Rho)} : Sat (gCall f gs ρ) QD ↔ Sat (gs ρ) fun p => Sat (callK f p.1 p.2) QD := by unfold gCall; simp
theorem s_lnil : lNil ρ = .ok ([], ρ) := rfl
theorem s_lown {gs : Rho → Res (List Arg × Rho)} {Q : List Arg × Rho → Prop} : Sat (lOwn g gs ρ) Q ↔ Sat (g ρ) fun p => Sat (gs p.2) fun q => Q (.own p.1 :: q.1, q.2) := by unfold lOwn; simp
theorem s_llent {gs : Rho → Res (List Arg × Rho)} {Q : List Arg × Rho → Prop} (h : ρ[i]? = some (some d)) : Sat (lLent i gs ρ) Q ↔ Sat (gs ρ) fun q => Q (.lent i :: q.1, q.2) := by unfold lLent; rw [h]; simp
theorem s_asg {b : D → Rho → Option Rho} {Q : Fl × Rho → Prop} : Sat (gAsg b g ρ) Q ↔ Sat (g ρ) fun p => ∃ ρ', b p.1 p.2 = some ρ' ∧ Q (.next, ρ') := by unfold gAsg; simp [sat_of]
theorem s_for {gi : Rho → Res (Src × Rho)} {b : D → Rho → Option Rho} {Q : Fl × Rho → Prop} : Sat (gFor gi b gs ρ) Q ↔ Sat (gi ρ) fun p => Sat (forL p.1.chk b gs p.1.items p.2) fun q => Q (q.1, p.1.fin q.2) := by unfold gFor; simp
theorem s_comp {gi : Rho → Res (Src × Rho)} {vs : List Nat} {b : D → Rho → Option Rho} : Sat (gComp gi vs b gt g ρ) QD ↔ Sat (gi ρ) fun p => p.1.items.length ≤ sizeLine ∧ Sat (compL p.1.chk vs b gt g p.1.items (wipeR p.2 vs)) fun q => QD (.lst q.1, p.1.fin (backR p.2 vs (unR q.2 vs))) := by unfold gComp; simp [sat_when]
theorem forL_inv {chk : Rho → Bool} {b : D → Rho → Option Rho} {body : Rho → Res (Fl × Rho)} {Q : Fl × Rho → Prop} (I : List D → Rho → Prop) (hc : ∀ rest ρ, I rest ρ → chk ρ = true)
    (step : ∀ x rest ρ, I (x :: rest) ρ → ∃ ρ1, b x ρ = some ρ1 ∧ Sat (body ρ1) fun p => match p.1 with
      | .next => I rest p.2
      | .cont => I rest p.2
      | .brk => Q (.next, p.2)
      | .ret d => Q (.ret d, p.2)) (fin : ∀ ρ, I [] ρ → Q (.next, ρ)) : ∀ {xs : List D} {ρ : Rho}, I xs ρ → Sat (forL chk b body xs ρ) Q
  | [], ρ, h => by
    rw [forL, if_pos (hc _ _ h)]
    exact fin ρ h
  | x :: xs, ρ, h => by
    rw [forL, if_pos (hc _ _ h)]
    obtain ⟨ρ1, e, hb⟩ := step x xs ρ h
    rw [e]
    simp only [of_some, bind_ok, sat_bind]
    refine hb.mono fun p hp => ?_
    obtain ⟨f, ρ2⟩ := p
    cases f with
    | next => exact forL_inv I hc step fin hp
    | cont => exact forL_inv I hc step fin hp
    | brk => exact hp
    | ret d => exact hp
theorem compL_inv {chk : Rho → Bool} {vs : List Nat} {b : D → Rho → Option Rho} {cond : Rho → Res (Bool × Rho)} {elt : Rho → Res (D × Rho)} (I : List D → List D → Rho → Prop) (hc : ∀ acc rest ρ, I acc rest ρ → chk ρ = true)
    (step : ∀ acc x rest ρ, I acc (x :: rest) ρ → ∃ ρ1, b x ρ = some ρ1 ∧ Sat (cond ρ1) fun p => (p.1 = true → Sat (elt p.2) fun q => I (acc ++ [q.1]) rest (wipeR q.2 vs)) ∧ (p.1 = false → I acc rest (wipeR p.2 vs))) :
    ∀ {xs acc : List D} {ρ : Rho} {Q : List D × Rho → Prop}, I acc xs ρ → (∀ ys ρ', I (acc ++ ys) [] ρ' → Q (ys, ρ')) → Sat (compL chk vs b cond elt xs ρ) Q
  | [], acc, ρ, Q, h, k => by
    rw [compL, if_pos (hc _ _ _ h)]
    exact k [] ρ (by rw [List.append_nil]; exact h)
  | x :: xs, acc, ρ, Q, h, k => by
    rw [compL, if_pos (hc _ _ _ h)]
    obtain ⟨ρ1, e, hb⟩ := step acc x xs ρ h
    rw [e]
    simp only [of_some, bind_ok, sat_bind, sat_quiet]
    refine hb.mono fun p hp => ?_
    obtain ⟨t, ρ2⟩ := p
    cases t with
    | true =>
      simp only [if_true, sat_bind, sat_quiet]
      refine (hp.1 rfl).mono fun q hq => ?_
      simp only [sat_ok]
      exact compL_inv I hc step hq fun ys ρ' hy => k (q.1 :: ys) ρ' (by rw [List.append_assoc] at hy; exact hy)
    | false =>
      simp only [Bool.false_eq_true, if_false]
      exact compL_inv I hc step (hp.2 rfl) k
theorem s_pn : gPN ρ = .ok (none, ρ) := rfl
end
def D.isInt : D → Option Int
  | .int i => some i
  | _ => none
section
variable {ρ : Rho} {g : Rho → Res (D × Rho)} {Q : Option Int × Rho → Prop}
theorem s_ps : Sat (gPS g ρ) Q ↔ Sat (g ρ) fun p => ∃ i, p.1.isInt = some i ∧ Q (some i, p.2) := by
  unfold gPS
  rw [sat_bind]
  cases g ρ with
  | ok p =>
    obtain ⟨x, ρ'⟩ := p
    cases x <;> simp [D.isInt]
  | raise x y => simp
  | stuck => simp
theorem s_sl {gl gh : Rho → Res (Option Int × Rho)} {QD : D × Rho → Prop} : Sat (gSl g gl gh ρ) QD ↔ Sat (g ρ) fun p => Sat (gl p.2) fun l => Sat (gh l.2) fun u => ∃ d, oSl p.1 l.1 u.1 = some d ∧ QD (d, u.2) := by
  unfold gSl
  simp [sat_of]
end
end DV
set_option Elab.async false
set_option linter.all false
set_option maxRecDepth 100000
set_option maxHeartbeats 1000000
/-! evaluation, value by value: each rule fires where the value at hand is known. -/
namespace DV
open PySem PySem.Spec PyProof.Rows L2
section
variable {α β : Type} {ρ : Rho} {g h : Rho → Res (D × Rho)} {gs gu : Rho → Res (Fl × Rho)} {gt gv : Rho → Res (Bool × Rho)} {d e : D} {i : Nat} {b : Bool}
def seqK (h : Rho → Res (Fl × Rho)) (p : Fl × Rho) : Res (Fl × Rho) := match p.1 with
  | .next => h p.2
  | f => .ok (f, p.2)
@[simp] theorem e_seq : gSeq gs gu ρ = (gs ρ).bind (seqK gu) := rfl
@[simp] theorem e_next : gNext ρ = .ok (.next, ρ) := rfl
@[simp] theorem seqK_next : seqK gu (.next, ρ) = gu ρ := rfl
@[simp] theorem seqK_ret : seqK gu (.ret d, ρ) = .ok (.ret d, ρ) := rfl
@[simp] theorem seqK_brk : seqK gu (.brk, ρ) = .ok (.brk, ρ) := rfl
@[simp] theorem seqK_cont : seqK gu (.cont, ρ) = .ok (.cont, ρ) := rfl
def retK (p : D × Rho) : Res (Fl × Rho) := .ok (.ret p.1, p.2)
@[simp] theorem e_ret : gRet g ρ = (g ρ).bind retK := rfl
@[simp] theorem retK_ok : retK (d, ρ) = .ok (.ret d, ρ) := rfl
def dropK (p : D × Rho) : Res (Fl × Rho) := .ok (.next, p.2)
@[simp] theorem e_drop : gDrop g ρ = (g ρ).bind dropK := rfl
@[simp] theorem dropK_ok : dropK (d, ρ) = .ok (.next, ρ) := rfl
def setK (i : Nat) (p : D × Rho) : Res (Fl × Rho) := if i < p.2.length then .ok (.next, p.2.set i (some p.1)) else .stuck
@[simp] theorem e_set : gSet i g ρ = (g ρ).bind (setK i) := rfl
@[simp] theorem setK_ok : setK i (d, ρ) = if i < ρ.length then .ok (.next, ρ.set i (some d)) else .stuck := rfl
def ifK {α : Type} (g h : Rho → Res α) (p : Bool × Rho) : Res α := if p.1 = true then g p.2 else h p.2
@[simp] theorem e_if : gIfS gt gs gu ρ = (gt ρ).bind (ifK gs gu) := rfl
@[simp] theorem e_ifE : gIf gt g h ρ = (gt ρ).bind (ifK g h) := rfl
@[simp] theorem ifK_t {g h : Rho → Res α} : ifK g h (true, ρ) = g ρ := rfl
@[simp] theorem ifK_f {g h : Rho → Res α} : ifK g h (false, ρ) = h ρ := rfl
theorem ifK_b {g h : Rho → Res α} : ifK g h (b, ρ) = if b = true then g ρ else h ρ := rfl
@[simp] theorem ifK_d {g h : Rho → Res α} {p : Prop} [Decidable p] : ifK g h (decide p, ρ) = if p then g ρ else h ρ := by
  by_cases hp : p <;> simp [hp, ifK]
theorem e_var : gVar i ρ = match ρ[i]? with
  | some (some d) => .ok (d, ρ)
  | _ => .stuck := rfl
@[simp] theorem e_v0 {r : Rho} : gVar 0 (some d :: r) = .ok (d, some d :: r) := rfl
@[simp] theorem e_v1 {a r} : gVar 1 (a :: some d :: r) = .ok (d, a :: some d :: r) := rfl
@[simp] theorem e_v2 {a1 a2 r} : gVar 2 (a1 :: a2 :: some d :: r) = .ok (d, a1 :: a2 :: some d :: r) := rfl
@[simp] theorem e_v3 {a1 a2 a3 r} : gVar 3 (a1 :: a2 :: a3 :: some d :: r) = .ok (d, a1 :: a2 :: a3 :: some d :: r) := rfl
@[simp] theorem e_v4 {a1 a2 a3 a4 r} : gVar 4 (a1 :: a2 :: a3 :: a4 :: some d :: r) = .ok (d, a1 :: a2 :: a3 :: a4 :: some d :: r) := rfl
@[simp] theorem e_v5 {a1 a2 a3 a4 a5 r} : gVar 5 (a1 :: a2 :: a3 :: a4 :: a5 :: some d :: r) = .ok (d, a1 :: a2 :: a3 :: a4 :: a5 :: some d :: r) := rfl
@[simp] theorem e_v6 {a1 a2 a3 a4 a5 a6 r} : gVar 6 (a1 :: a2 :: a3 :: a4 :: a5 :: a6 :: some d :: r) = .ok (d, a1 :: a2 :: a3 :: a4 :: a5 :: a6 :: some d :: r) := rfl
@[simp] theorem e_v7 {a1 a2 a3 a4 a5 a6 a7 r} : gVar 7 (a1 :: a2 :: a3 :: a4 :: a5 :: a6 :: a7 :: some d :: r) = .ok (d, a1 :: a2 :: a3 :: a4 :: a5 :: a6 :: a7 :: some d :: r) := rfl
@[simp] theorem e_v8 {a1 a2 a3 a4 a5 a6 a7 a8 r} : gVar 8 (a1 :: a2 :: a3 :: a4 :: a5 :: a6 :: a7 :: a8 :: some d :: r) = .ok (d, a1 :: a2 :: a3 :: a4 :: a5 :: a6 :: a7 :: a8 :: some d :: r) := rfl
@[simp] theorem e_v9 {a1 a2 a3 a4 a5 a6 a7 a8 a9 r} : gVar 9 (a1 :: a2 :: a3 :: a4 :: a5 :: a6 :: a7 :: a8 :: a9 :: some d :: r) = .ok (d, a1 :: a2 :: a3 :: a4 :: a5 :: a6 :: a7 :: a8 :: a9 :: some d :: r) := rfl
@[simp] theorem e_vS (h : ρ[i]? = some (some d)) : gVar i ρ = .ok (d, ρ) := s_var h
@[simp] theorem e_move (h : ρ[i]? = some (some d)) : gMove i ρ = .ok (d, if d.pure = true then ρ else ρ.set i none) := by
  unfold gMove
  rw [h]
  by_cases hp : d.pure = true <;> simp [hp]
@[simp] theorem e_c : gC d ρ = .ok (d, ρ) := rfl
def cpK (p : D × Rho) : Res (D × Rho) := if p.1.pure = true then .ok p else .stuck
@[simp] theorem e_cp : gCp g ρ = (g ρ).bind cpK := rfl
@[simp] theorem cpK_ok : cpK (d, ρ) = if d.pure = true then .ok (d, ρ) else .stuck := rfl
def givK (ρ : Rho) (d : D) : Res (D × Rho) := .ok (d, ρ)
@[simp] theorem givK_ok : givK ρ d = .ok (d, ρ) := rfl
def op1K (op : D → Option D) (p : D × Rho) : Res (D × Rho) := (Res.of (op p.1)).bind (givK p.2)
@[simp] theorem e_op1 {op : D → Option D} : gOp1 op g ρ = (g ρ).bind (op1K op) := rfl
@[simp] theorem op1K_ok {op : D → Option D} : op1K op (d, ρ) = (Res.of (op d)).bind (givK ρ) := rfl
def op2L (op : D → D → Option D) (d : D) (q : D × Rho) : Res (D × Rho) := (Res.of (op d q.1)).bind (givK q.2)
def op2K (op : D → D → Option D) (h : Rho → Res (D × Rho)) (p : D × Rho) : Res (D × Rho) := (h p.2).bind (op2L op p.1)
@[simp] theorem e_op2 {op : D → D → Option D} : gOp2 op g h ρ = (g ρ).bind (op2K op h) := rfl
@[simp] theorem op2K_ok {op : D → D → Option D} : op2K op h (d, ρ) = (h ρ).bind (op2L op d) := rfl
@[simp] theorem op2L_ok {op : D → D → Option D} : op2L op d (e, ρ) = (Res.of (op d e)).bind (givK ρ) := rfl
def opVK (op : D → D → Option D) (i : Nat) (q : D × Rho) : Res (D × Rho) := match q.2[i]? with
  | some (some d) => (Res.of (op d q.1)).bind (givK q.2)
  | _ => .stuck
@[simp] theorem e_opV {op : D → D → Option D} (hi : ρ[i]? = some (some d)) : gOpV op i h ρ = (h ρ).bind (opVK op i) := by unfold gOpV; rw [hi]; rfl
@[simp] theorem opVK_ok {op : D → D → Option D} (hi : ρ[i]? = some (some d)) : opVK op i (e, ρ) = (Res.of (op d e)).bind (givK ρ) := by unfold opVK; rw [hi]
def giveB (ρ : Rho) (b : Bool) : Res (Bool × Rho) := .ok (b, ρ)
@[simp] theorem giveB_ok : giveB ρ b = .ok (b, ρ) := rfl
def testK (p : D × Rho) : Res (Bool × Rho) := (Res.of p.1.bool).bind (giveB p.2)
@[simp] theorem e_test : gTest g ρ = (g ρ).bind testK := rfl
@[simp] theorem testK_ok : testK (.bl b, ρ) = .ok (b, ρ) := rfl
def notK (p : Bool × Rho) : Res (Bool × Rho) := .ok (!p.1, p.2)
@[simp] theorem e_not : gNot gt ρ = (gt ρ).bind notK := rfl
@[simp] theorem notK_ok : notK (b, ρ) = .ok (!b, ρ) := rfl
def andK (h : Rho → Res (Bool × Rho)) (p : Bool × Rho) : Res (Bool × Rho) := if p.1 = true then h p.2 else .ok (false, p.2)
@[simp] theorem e_and : gAnd gt gv ρ = (gt ρ).bind (andK gv) := rfl
@[simp] theorem andK_ok : andK gv (b, ρ) = if b = true then gv ρ else .ok (false, ρ) := rfl
def orK (h : Rho → Res (Bool × Rho)) (p : Bool × Rho) : Res (Bool × Rho) := if p.1 = true then .ok (true, p.2) else h p.2
@[simp] theorem e_or : gOr gt gv ρ = (gt ρ).bind (orK gv) := rfl
@[simp] theorem orK_ok : orK gv (b, ρ) = if b = true then .ok (true, ρ) else gv ρ := rfl
def andVK (h : Rho → Res (D × Rho)) (p : D × Rho) : Res (D × Rho) := (Res.of p.1.bool).bind fun b => if b = true then h p.2 else .ok (.bl false, p.2)
@[simp] theorem e_andV : gAndV g h ρ = (g ρ).bind (andVK h) := rfl
@[simp] theorem andVK_ok : andVK h (.bl b, ρ) = if b = true then h ρ else .ok (.bl false, ρ) := rfl
def orVK (h : Rho → Res (D × Rho)) (p : D × Rho) : Res (D × Rho) := (Res.of p.1.bool).bind fun b => if b = true then .ok (.bl true, p.2) else h p.2
@[simp] theorem e_orV : gOrV g h ρ = (g ρ).bind (orVK h) := rfl
@[simp] theorem orVK_ok : orVK h (.bl b, ρ) = if b = true then .ok (.bl true, ρ) else h ρ := rfl
def consL (d : D) (q : List D × Rho) : Res (List D × Rho) := .ok (d :: q.1, q.2)
def consK (gs : Rho → Res (List D × Rho)) (p : D × Rho) : Res (List D × Rho) := (gs p.2).bind (consL p.1)
@[simp] theorem e_cons {gs : Rho → Res (List D × Rho)} : gCons g gs ρ = (g ρ).bind (consK gs) := rfl
@[simp] theorem consK_ok {gs : Rho → Res (List D × Rho)} : consK gs (d, ρ) = (gs ρ).bind (consL d) := rfl
@[simp] theorem consL_ok {ds : List D} : consL d (ds, ρ) = .ok (d :: ds, ρ) := rfl
@[simp] theorem e_nil : gNil ρ = .ok ([], ρ) := rfl
def tupK (p : List D × Rho) : Res (D × Rho) := if p.1.length ≤ 1000 then .ok (.tup p.1, p.2) else .stuck
@[simp] theorem e_tup {gs : Rho → Res (List D × Rho)} : gTup gs ρ = (gs ρ).bind tupK := rfl
@[simp] theorem tupK_ok {ds : List D} : tupK (ds, ρ) = if ds.length ≤ 1000 then .ok (.tup ds, ρ) else .stuck := rfl
def lstK (p : List D × Rho) : Res (D × Rho) := if p.1.length ≤ 1000 then .ok (.lst p.1, p.2) else .stuck
@[simp] theorem e_lst {gs : Rho → Res (List D × Rho)} : gLst gs ρ = (gs ρ).bind lstK := rfl
@[simp] theorem lstK_ok {ds : List D} : lstK (ds, ρ) = if ds.length ≤ 1000 then .ok (.lst ds, ρ) else .stuck := rfl
def mutK (i : Nat) (op : List D → List D → Option (D × List D)) (p : List D × Rho) : Res (D × Rho) := (Res.of (slotL p.2 i)).bind fun xs => (Res.of (op xs p.1)).bind fun q => .ok (q.1, p.2.set i (some (.lst q.2)))
@[simp] theorem e_mut {op : List D → List D → Option (D × List D)} {gs : Rho → Res (List D × Rho)} {xs : List D} (hi : ρ[i]? = some (some (.lst xs))) : gMut i op gs ρ = (gs ρ).bind (mutK i op) := by
  unfold gMut slotL
  rw [hi]
  rfl
@[simp] theorem mutK_ok {op : List D → List D → Option (D × List D)} {ds xs : List D} (hi : ρ[i]? = some (some (.lst xs))) : mutK i op (ds, ρ) = (Res.of (op xs ds)).bind fun q => .ok (q.1, ρ.set i (some (.lst q.2))) := by
  unfold mutK slotL
  rw [hi]
  rfl
def storeL (i : Nat) (e : D) (q : D × Rho) : Res (Fl × Rho) := (Res.of (slotD q.2 i)).bind fun c => (Res.of (sput c q.1 e)).bind fun c' => .ok (.next, q.2.set i (some c'))
def storeK (i : Nat) (gk : Rho → Res (D × Rho)) (p : D × Rho) : Res (Fl × Rho) := (Res.of (slotD p.2 i)).bind fun _ => (gk p.2).bind (storeL i p.1)
@[simp] theorem e_store : gStore i h g ρ = (g ρ).bind (storeK i h) := rfl
@[simp] theorem storeK_ok {c : D} (hi : ρ[i]? = some (some c)) : storeK i h (e, ρ) = (h ρ).bind (storeL i e) := by unfold storeK slotD; rw [hi]; rfl
@[simp] theorem storeL_ok {c : D} (hi : ρ[i]? = some (some c)) : storeL i e (d, ρ) = (Res.of (sput c d e)).bind fun c' => .ok (.next, ρ.set i (some c')) := by unfold storeL slotD; rw [hi]; rfl
def augK (i : Nat) (f : Int → Int → Int) (a : Int) (p : D × Rho) : Res (Fl × Rho) := match p.1 with
  | .int b => if i < p.2.length then .ok (.next, p.2.set i (some (.int (f a b)))) else .stuck
  | _ => .stuck
@[simp] theorem e_augI {f : Int → Int → Int} {a : Int} (hi : ρ[i]? = some (some (.int a))) : gAugI i f g ρ = (g ρ).bind (augK i f a) := by unfold gAugI slotD; rw [hi]; rfl
@[simp] theorem augK_ok {f : Int → Int → Int} {a b : Int} : augK i f a (.int b, ρ) = if i < ρ.length then .ok (.next, ρ.set i (some (.int (f a b)))) else .stuck := rfl
def augSK (i : Nat) (f : Int → Int → Int) (j : Nat) (a : Int) (p : D × Rho) : Res (Fl × Rho) := match p.1, slotL p.2 i with
  | .int b, some ys => if j < ys.length then .ok (.next, p.2.set i (some (.lst (ys.set j (.int (f a b)))))) else .stuck
  | _, _ => .stuck
@[simp] theorem e_augS {f : Int → Int → Int} {j : Nat} {xs : List D} {a : Int} (hi : ρ[i]? = some (some (.lst xs))) (hj : xs[j]? = some (.int a)) : gAugS i f j g ρ = (g ρ).bind (augSK i f j a) := by
  unfold gAugS slotL
  rw [hi]
  simp only [hj]
  rfl
@[simp] theorem augSK_ok {f : Int → Int → Int} {j : Nat} {ys : List D} {a b : Int} (hi : ρ[i]? = some (some (.lst ys))) : augSK i f j a (.int b, ρ) = if j < ys.length then .ok (.next, ρ.set i (some (.lst (ys.set j (.int (f a b)))))) else .stuck := by
  unfold augSK slotL
  rw [hi]
def asgK (b : D → Rho → Option Rho) (p : D × Rho) : Res (Fl × Rho) := (Res.of (b p.1 p.2)).bind fun ρ' => .ok (.next, ρ')
@[simp] theorem e_asg {b : D → Rho → Option Rho} : gAsg b g ρ = (g ρ).bind (asgK b) := rfl
@[simp] theorem asgK_ok {b : D → Rho → Option Rho} : asgK b (d, ρ) = (Res.of (b d ρ)).bind fun ρ' => .ok (.next, ρ') := rfl
def psK (p : D × Rho) : Res (Option Int × Rho) := match p.1 with
  | .int i => .ok (some i, p.2)
  | _ => .stuck
@[simp] theorem e_pn : gPN ρ = .ok (none, ρ) := rfl
@[simp] theorem e_ps : gPS g ρ = (g ρ).bind psK := rfl
@[simp] theorem psK_ok {i : Int} : psK (.int i, ρ) = .ok (some i, ρ) := rfl
def slM (d : D) (l : Option Int) (u : Option Int × Rho) : Res (D × Rho) := (Res.of (oSl d l u.1)).bind (givK u.2)
def slL (gh : Rho → Res (Option Int × Rho)) (d : D) (l : Option Int × Rho) : Res (D × Rho) := (gh l.2).bind (slM d l.1)
def slK (gl gh : Rho → Res (Option Int × Rho)) (p : D × Rho) : Res (D × Rho) := (gl p.2).bind (slL gh p.1)
@[simp] theorem e_sl {gl gh : Rho → Res (Option Int × Rho)} : gSl g gl gh ρ = (g ρ).bind (slK gl gh) := rfl
@[simp] theorem slK_ok {gl gh : Rho → Res (Option Int × Rho)} : slK gl gh (d, ρ) = (gl ρ).bind (slL gh d) := rfl
@[simp] theorem slL_ok {gh : Rho → Res (Option Int × Rho)} {l : Option Int} : slL gh d (l, ρ) = (gh ρ).bind (slM d l) := rfl
@[simp] theorem slM_ok {l u : Option Int} : slM d l (u, ρ) = (Res.of (oSl d l u)).bind (givK ρ) := rfl
def lownL (d : D) (q : List Arg × Rho) : Res (List Arg × Rho) := .ok (.own d :: q.1, q.2)
def lownK (gs : Rho → Res (List Arg × Rho)) (p : D × Rho) : Res (List Arg × Rho) := (gs p.2).bind (lownL p.1)
@[simp] theorem e_lown {gs : Rho → Res (List Arg × Rho)} : lOwn g gs ρ = (g ρ).bind (lownK gs) := rfl
@[simp] theorem lownK_ok {gs : Rho → Res (List Arg × Rho)} : lownK gs (d, ρ) = (gs ρ).bind (lownL d) := rfl
@[simp] theorem lownL_ok {as : List Arg} : lownL d (as, ρ) = .ok (.own d :: as, ρ) := rfl
def lentK (i : Nat) (q : List Arg × Rho) : Res (List Arg × Rho) := .ok (.lent i :: q.1, q.2)
@[simp] theorem e_llent {gs : Rho → Res (List Arg × Rho)} (hi : ρ[i]? = some (some d)) : lLent i gs ρ = (gs ρ).bind (lentK i) := by unfold lLent; rw [hi]; rfl
@[simp] theorem lentK_ok {as : List Arg} : lentK i (as, ρ) = .ok (.lent i :: as, ρ) := rfl
@[simp] theorem e_lnil : lNil ρ = .ok ([], ρ) := rfl
def cK (f : List D → FRes) (p : List Arg × Rho) : Res (D × Rho) := callK f p.1 p.2
@[simp] theorem e_call {f : List D → FRes} {gs : Rho → Res (List Arg × Rho)} : gCall f gs ρ = (gs ρ).bind (cK f) := rfl
/-- a call, its arguments known -/
theorem cK_ok {f : List D → FRes} {as : List Arg} {ds : List D} {ρ' : Rho} {os : List (Option D)} (h1 : takeArgs as ρ = some (ds, ρ')) (h2 : f ds = .ok (d, os)) : cK f (as, ρ) = .ok (d, putArgs as ds os ρ') := by
  unfold cK callK
  simp only [h1, h2]
def forM (s : Src) (q : Fl × Rho) : Res (Fl × Rho) := .ok (q.1, s.fin q.2)
def forK (b : D → Rho → Option Rho) (body : Rho → Res (Fl × Rho)) (p : Src × Rho) : Res (Fl × Rho) := (forL p.1.chk b body p.1.items p.2).bind (forM p.1)
@[simp] theorem e_for {gi : Rho → Res (Src × Rho)} {b : D → Rho → Option Rho} : gFor gi b gs ρ = (gi ρ).bind (forK b gs) := rfl
@[simp] theorem forK_ok {b : D → Rho → Option Rho} {s : Src} : forK b gs (s, ρ) = (forL s.chk b gs s.items ρ).bind (forM s) := rfl
@[simp] theorem forM_ok {s : Src} {f : Fl} : forM s (f, ρ) = .ok (f, s.fin ρ) := rfl
def compM (s : Src) (vs : List Nat) (ρ0 : Rho) (q : List D × Rho) : Res (D × Rho) := .ok (.lst q.1, s.fin (backR ρ0 vs (unR q.2 vs)))
def compK (vs : List Nat) (b : D → Rho → Option Rho) (cond : Rho → Res (Bool × Rho)) (elt : Rho → Res (D × Rho)) (p : Src × Rho) : Res (D × Rho) :=
  if p.1.items.length ≤ sizeLine then (compL p.1.chk vs b cond elt p.1.items (wipeR p.2 vs)).quiet.bind (compM p.1 vs p.2) else .stuck
@[simp] theorem e_comp {gi : Rho → Res (Src × Rho)} {vs : List Nat} {b : D → Rho → Option Rho} : gComp gi vs b gt g ρ = (gi ρ).bind (compK vs b gt g) := rfl
@[simp] theorem compK_ok {vs : List Nat} {b : D → Rho → Option Rho} {s : Src} : compK vs b gt g (s, ρ) = if s.items.length ≤ sizeLine then (compL s.chk vs b gt g s.items (wipeR ρ vs)).quiet.bind (compM s vs ρ) else .stuck := rfl
@[simp] theorem compM_ok {s : Src} {vs : List Nat} {ρ0 : Rho} {ys : List D} : compM s vs ρ0 (ys, ρ) = .ok (.lst ys, s.fin (backR ρ0 vs (unR ρ vs))) := rfl
def itemsK (p : D × Rho) : Res (Src × Rho) := (Res.of p.1.items).bind fun ds => if D.pures ds = true then .ok (⟨ds, none⟩, p.2) else .stuck
@[simp] theorem e_items : gItems g ρ = (g ρ).bind itemsK := rfl
@[simp] theorem itemsK_ok {ds : List D} (h : d.items = some ds) (hp : D.pures ds = true) : itemsK (d, ρ) = .ok (⟨ds, none⟩, ρ) := by unfold itemsK; simp only [h, of_some, bind_ok, hp, if_true]
@[simp] theorem e_itemsVL {ds : List D} (hi : ρ[i]? = some (some (.lst ds))) (hp : D.pures ds = true) : gItemsV i ρ = .ok (⟨ds, some i⟩, ρ.set i (some (.lck ds))) := by unfold gItemsV; rw [hi]; simp [hp]
@[simp] theorem e_itemsVT {ds : List D} (hi : ρ[i]? = some (some (.tup ds))) (hp : D.pures ds = true) : gItemsV i ρ = .ok (⟨ds, none⟩, ρ) := by unfold gItemsV; rw [hi]; simp [hp, D.items, D.pure]
@[simp] theorem e_itemsVF {ds : List D} (hi : ρ[i]? = some (some (.fro ds))) (hp : D.pures ds = true) : gItemsV i ρ = .ok (⟨ds, none⟩, ρ) := by unfold gItemsV; rw [hi]; simp [hp, D.items, D.pure]
noncomputable def rg1K (p : D × Rho) : Res (Src × Rho) := match p.1 with
  | .int j => if Hid (-(2 ^ 62) ≤ j ∧ j < 2 ^ 62) then .ok (⟨rangeD 0 j.toNat, none⟩, p.2) else .stuck
  | _ => .stuck
@[simp] theorem e_range1 : gRange1 g ρ = (g ρ).bind rg1K := Eq.trans (b := (g ρ).bind rg1K) rfl rfl
theorem rg1K_ok {j : Int} : rg1K (.int j, ρ) = if Hid (-(2 ^ 62) ≤ j ∧ j < 2 ^ 62) then .ok (⟨rangeD 0 j.toNat, none⟩, ρ) else .stuck := rfl
def fnK (kp : List Nat) (ds : List D) (p : Fl × Rho) : FRes := match p.1 with
  | .ret d => .ok (d, outsL kp 0 ds p.2)
  | .next => .ok (.non, outsL kp 0 ds p.2)
  | _ => .stuck
@[simp] theorem fnK_ret {kp : List Nat} {ds : List D} : fnK kp ds (.ret d, ρ) = .ok (d, outsL kp 0 ds ρ) := rfl
@[simp] theorem fnK_next {kp : List Nat} {ds : List D} : fnK kp ds (.next, ρ) = .ok (.non, outsL kp 0 ds ρ) := rfl
@[simp] theorem e_fn {n N : Nat} {kp : List Nat} {gb : Rho → Res (Fl × Rho)} {ds : List D} {Q : D × List (Option D) → Prop} : Sat (gFn n N kp gb ds) Q ↔ Sat ((gb (ds.map some ++ List.replicate (N - n) none)).bind (fnK kp ds)) Q := by
  unfold gFn
  cases gb (ds.map some ++ List.replicate (N - n) none) with
  | ok p =>
    obtain ⟨f, ρ'⟩ := p
    cases f <;> rfl
  | raise x y => exact Iff.rfl
  | stuck => exact Iff.rfl

/-! ### the operations at known values -/
@[simp] theorem get_l {ds : List D} {i : Int} : oGet (.lst ds) (.int i) = atI ds i := by
  show (match atI ds i with | some d' => some d' | none => none) = _
  cases atI ds i <;> rfl
@[simp] theorem get_t {ds : List D} {i : Int} : oGet (.tup ds) (.int i) = atI ds i := by
  show (match atI ds i with | some d' => some d' | none => none) = _
  cases atI ds i <;> rfl
@[simp] theorem get_k {ds : List D} {i : Int} : oGet (.lck ds) (.int i) = atI ds i := by
  show (match atI ds i with | some d' => some d' | none => none) = _
  cases atI ds i <;> rfl
@[simp] theorem atI_nat {ds : List D} {n : Nat} : atI ds (n : Int) = ds[n]? := by
  unfold atI ixN
  rw [if_pos (by omega)]
  by_cases h : (n : Int) < ds.length
  · rw [if_pos h]; simp
  · rw [if_neg h]
    simp only [Option.bind_none]
    exact (List.getElem?_eq_none (by omega)).symm
@[simp] theorem atI_0 {ds : List D} : atI ds 0 = ds[0]? := atI_nat (n := 0)
@[simp] theorem atI_1 {ds : List D} : atI ds 1 = ds[1]? := atI_nat (n := 1)
@[simp] theorem atI_2 {ds : List D} : atI ds 2 = ds[2]? := atI_nat (n := 2)
@[simp] theorem atI_3 {ds : List D} : atI ds 3 = ds[3]? := atI_nat (n := 3)
theorem atI_pos {ds : List D} {i : Int} (h0 : 0 ≤ i) : atI ds i = ds[i.toNat]? := by
  have e := @atI_nat ds i.toNat
  rw [show ((i.toNat : Nat) : Int) = i by omega] at e
  exact e
@[simp] theorem add_i {i j : Int} : oAdd (.int i) (.int j) = some (.int (i + j)) := rfl
@[simp] theorem add_s {x y : Str} : oAdd (.str x) (.str y) = if x.length + y.length ≤ sizeLine then some (.str (x ++ y)) else none := rfl
@[simp] theorem add_l {xs ys : List D} : oAdd (.lst xs) (.lst ys) = if D.pures xs = true ∧ D.pures ys = true ∧ xs.length + ys.length ≤ sizeLine then some (.lst (xs ++ ys)) else none := rfl
@[simp] theorem int2 {f : Int → Int → Option Int} {i j : Int} : oInt2 f (.int i) (.int j) = (f i j).map .int := by
  show (match f i j with | some k => some (D.int k) | none => none) = _
  cases f i j <;> rfl
@[simp] theorem cmp2 {f : Int → Int → Bool} {i j : Int} : oCmp f (.int i) (.int j) = some (.bl (f i j)) := rfl
@[simp] theorem p_int {i : Int} : (D.int i).pure = true := rfl
@[simp] theorem p_str {x : Str} : (D.str x).pure = true := rfl
@[simp] theorem p_bl {b : Bool} : (D.bl b).pure = true := rfl
@[simp] theorem p_non : D.non.pure = true := rfl
@[simp] theorem p_tup {ds : List D} : (D.tup ds).pure = D.pures ds := rfl
@[simp] theorem p_lst {ds : List D} : (D.lst ds).pure = false := rfl
@[simp] theorem p_lck {ds : List D} : (D.lck ds).pure = false := rfl
@[simp] theorem p_dic {ks ds : List D} : (D.dic ks ds).pure = false := rfl
@[simp] theorem ps_nil : D.pures [] = true := rfl
@[simp] theorem ps_cons {ds : List D} : D.pures (d :: ds) = (d.pure && D.pures ds) := rfl
@[simp] theorem len_l {ds : List D} : oLen (.lst ds) = some (.int ds.length) := rfl
@[simp] theorem len_t {ds : List D} : oLen (.tup ds) = some (.int ds.length) := rfl
@[simp] theorem len_k {ds : List D} : oLen (.lck ds) = some (.int ds.length) := rfl
@[simp] theorem len_d {ks ds : List D} : oLen (.dic ks ds) = some (.int ks.length) := rfl
@[simp] theorem int_i {i : Int} : oInt (.int i) = some (.int i) := rfl
@[simp] theorem int_b {b : Bool} : oInt (.bl b) = some (.int (if b then 1 else 0)) := rfl
@[simp] theorem abs_i {i : Int} : oAbs (.int i) = some (.int (if i < 0 then -i else i)) := rfl
@[simp] theorem list_l {ds : List D} : oList (.lst ds) = if D.pures ds = true then some (.lst ds) else none := rfl
@[simp] theorem list_t {ds : List D} : oList (.tup ds) = if D.pures ds = true then some (.lst ds) else none := rfl
@[simp] theorem tuple_l {ds : List D} : oTuple (.lst ds) = if D.pures ds = true then some (.tup ds) else none := rfl
@[simp] theorem tuple_t {ds : List D} : oTuple (.tup ds) = if D.pures ds = true then some (.tup ds) else none := rfl
@[simp] theorem bn_ok {i : Nat} : bName i d ρ = if i < ρ.length then some (ρ.set i (some d)) else none := rfl
@[simp] theorem bt_ok {n : Nat} {bs : List D → Rho → Option Rho} {ds : List D} : bTup n bs (.tup ds) ρ = if ds.length = n then bs ds ρ else none := rfl
@[simp] theorem bc_ok {b : D → Rho → Option Rho} {bs : List D → Rho → Option Rho} {ds : List D} : bCons b bs (d :: ds) ρ = (b d ρ).bind fun ρ' => bs ds ρ' := rfl
@[simp] theorem bnil_ok : bNil [] ρ = some ρ := rfl
@[simp] theorem sput_l {ds : List D} {j : Int} : sput (.lst ds) (.int j) e = (ixN ds.length j).map fun k => .lst (ds.set k e) := rfl
theorem ixN_pos {n : Nat} {i : Int} (h0 : 0 ≤ i) (h1 : i < n) : ixN n i = some i.toNat := by unfold ixN; rw [if_pos h0, if_pos h1]
/-- what the arguments leave behind -/
def leftR (as : List Arg) (ρ : Rho) : Rho := ((takeArgs as ρ).getD ([], [])).2
/-- a call: what the callee's promise gives -/
theorem sat_call {f : List D → FRes} {as : List Arg} {ds : List D} {R : D × List (Option D) → Prop} {Q : D × Rho → Prop} (h2 : Sat (f ds) R) (h1 : (takeArgs as ρ).map Prod.fst = some ds) (h3 : ∀ d os, R (d, os) → Q (d, putArgs as ds os (leftR as ρ))) : Sat (cK f (as, ρ)) Q := by
  obtain ⟨⟨d, os⟩, e, hr⟩ := h2.get
  obtain ⟨⟨ds', ρ'⟩, e1, e2⟩ := Option.map_eq_some_iff.mp h1
  cases e2
  have e3 : leftR as ρ = ρ' := by unfold leftR; rw [e1]; rfl
  rw [cK_ok e1 e, ← e3]
  exact h3 d os hr
@[simp] theorem e_yes : gYes ρ = .ok (true, ρ) := rfl
@[simp] theorem e_oneT : gOneT gt ρ = gt ρ := rfl
@[simp] theorem quiet_ok {a : α} : (Res.ok a).quiet = .ok a := rfl
/-- a comprehension, item by item; R tells what an item gives -/
theorem comp_pick {chk : Rho → Bool} {vs : List Nat} {b : D → Rho → Option Rho} {cond : Rho → Res (Bool × Rho)} {elt : Rho → Res (D × Rho)} (I : Rho → Prop) (c : D → Bool) (R : D → D → Prop) (hc : ∀ ρ, I ρ → chk ρ = true) : ∀ {xs : List D} {ρ : Rho}, I ρ →
    (∀ x ∈ xs, ∀ ρ, I ρ → ∃ ρ1, b x ρ = some ρ1 ∧ Sat (cond ρ1) fun p => p.1 = c x ∧ (c x = true → Sat (elt p.2) fun q => R x q.1 ∧ I (wipeR q.2 vs)) ∧ (c x = false → I (wipeR p.2 vs))) →
    Sat (compL chk vs b cond elt xs ρ) fun q => PySem.W.EachIs R (xs.filter c) q.1 ∧ I q.2
  | [], ρ, h, _ => by
    rw [compL, if_pos (hc _ h)]
    exact ⟨.nil, h⟩
  | x :: xs, ρ, h, step => by
    rw [compL, if_pos (hc _ h)]
    obtain ⟨ρ1, e, hb⟩ := step x List.mem_cons_self ρ h
    rw [e]
    simp only [of_some, bind_ok, sat_bind, sat_quiet]
    refine hb.mono fun p hp => ?_
    obtain ⟨t, ρ2⟩ := p
    obtain ⟨e1, h1, h2⟩ := hp
    simp only at e1
    subst e1
    cases ht : c x with
    | true =>
      simp only [if_true, sat_bind, sat_quiet]
      refine (h1 ht).mono fun q hq => ?_
      refine (comp_pick I c R hc hq.2 fun y hy => step y (List.mem_cons_of_mem _ hy)).mono fun z hz => ?_
      rw [sat_ok, List.filter_cons_of_pos ht]
      exact ⟨.cons hq.1 hz.1, hz.2⟩
    | false =>
      simp only [Bool.false_eq_true, if_false]
      refine (comp_pick I c R hc (h2 ht) fun y hy => step y (List.mem_cons_of_mem _ hy)).mono fun z hz => ?_
      rw [List.filter_cons_of_neg (by rw [ht]; decide)]
      exact hz
theorem comp_map {chk : Rho → Bool} {vs : List Nat} {b : D → Rho → Option Rho} {elt : Rho → Res (D × Rho)} (I : Rho → Prop) (R : D → D → Prop) {xs : List D} {ρ : Rho} (h : I ρ) (hc : ∀ ρ, I ρ → chk ρ = true)
    (step : ∀ x ∈ xs, ∀ ρ, I ρ → ∃ ρ1, b x ρ = some ρ1 ∧ Sat (elt ρ1) fun q => R x q.1 ∧ I (wipeR q.2 vs)) : Sat (compL chk vs b gYes elt xs ρ) fun q => PySem.W.EachIs R xs q.1 ∧ I q.2 := by
  refine (comp_pick I (fun _ => true) R hc h fun x hx ρ hr => ?_).mono fun q hq => ?_
  · obtain ⟨ρ1, e, hs⟩ := step x hx ρ hr
    exact ⟨ρ1, e, rfl, fun _ => hs, fun z => nomatch z⟩
  · rw [List.filter_eq_self.mpr (fun _ _ => rfl)] at hq
    exact hq
/-- .. each item giving f of it -/
theorem each_eq {f : D → D} : ∀ {xs ys : List D}, PySem.W.EachIs (fun x y => y = f x) xs ys → ys = xs.map f
  | _, _, .nil => rfl
  | _, _, .cons h t => by rw [h, each_eq t]; rfl
end
end DV
set_option Elab.async false
set_option linter.all false
set_option maxRecDepth 100000
set_option maxHeartbeats 1000000
/-! more rules: signs, chains, gcd, sum, ranges, while, .. -/
namespace DV
open PySem PySem.Spec PyProof.Rows L2
section
variable {X : Cx} [KFr X.w] [XKf X] {W : WX} {kp : List Nat} {ro own own' own2 : Bool} {e a b c o : Expr} {es : List Expr} {pos p apos cpos : Pos} {g h h2 : Rho → Res (D × Rho)} {i : Nat} {x : Str}

def oNeg (d : D) : Option D := match d with
  | .int i => some (.int (-i))
  | _ => none
theorem con_neg : Con1 X oNeg (rU fun i => .int (-i)) := fun H d v S d' o ho Q k => by
  unfold oNeg at ho
  split at ho
  · cases ho; exact ⟨_, o, ans_pure k rfl⟩
  · cases ho
theorem j_neg (ha : J X W ro own a g) : J X W ro true (.UnaryOp .USub a pos) (gOp1 oNeg g) := j_op1 (fun _ ha => pe_un un_neg ha) con_neg ha

/-- // by a great divisor -/
noncomputable def fDivW (i j : Int) : Option Int := if Hid (0 < j ∧ j.natAbs.log2 < 9000) then some (i / j) else none
theorem con_divW : Con2 X (oInt2 fDivW) (rI CDivW fun i j => .int (i / j)) := con_int2 fun i j k H Q h q => by
  unfold fDivW at h
  split at h
  · cases h; exact ⟨i, j, rfl, rfl, by assumption, q⟩
  · cases h
theorem j_divW (ha : J X W ro true a g) (hb : J X W ro own' b h) : J X W ro true (.BinOp a .FloorDiv b pos) (gOp2 (oInt2 fDivW) g h) := j_op2 (fun _ _ => pe_op op_fdivW) con_divW ha hb

/-- text * int -/
def repS (z : Str) (n : Int) : Str := if n < 1 then Str.empty else if (n == 1 || z.length == 0) = true then z else ⟨(List.replicate n.toNat z.cps).foldl (· ++ ·) #[]⟩
noncomputable def oMulS (d e : D) : Option D := match d, e with
  | .str z, .int n => if Hid (-(2 ^ 62) ≤ n ∧ n < 1000000 ∧ z.length ≤ 16) then some (.str (repS z n)) else none
  | _, _ => none
def rMulS : R2 := fun x y H Q => ∃ z n, x = .str z ∧ y = .int n ∧ (-(2 ^ 62) ≤ n ∧ n < 1000000 ∧ z.length ≤ 16) ∧ Q (.str (repS z n)) H
def tooLongNo (n : Nat) : Prop := Builtin.Str.tooLong n = false
theorem op_mulS : OpR X (binaryOp .Mult) rMulS := by
  intro pins s σ H x y v u Q I rx ry ⟨z, n, e1, e2, ⟨h1, h2, h3⟩, q⟩
  subst e1 e2
  obtain ⟨t, rfl⟩ := rx
  obtain ⟨t', rfl⟩ := ry
  have hz : (decide (n < -(2 ^ 63 : Int)) || decide (n ≥ 2 ^ 63)) = false := by
    rw [decide_eq_false (by omega), decide_eq_false (by omega)]; rfl
  have hl : z.length * n.toNat ≤ 16000000 := by
    have : n.toNat ≤ 1000000 := by omega
    calc z.length * n.toNat ≤ 16 * 1000000 := Nat.mul_le_mul h3 this
      _ = 16000000 := by decide
  refine PySem.P.mul_str hz (fun n1 _ => ?_) (fun n1 _ => ?_) ?_
  · have hn : (0 : Int) < n := by omega
    intro hgt
    have e3 : (16 : Int) ≤ (2 ^ 63 - 1) / n := by
      rw [Int.le_ediv_iff_mul_le hn]
      omega
    omega
  · unfold Builtin.Str.tooLong
    have e3 : sizeLine = 16777216 := by decide
    exact decide_eq_false (by rw [e3]; omega)
  · have fit : tooLongNo (z.length * n.toNat) := by
      unfold tooLongNo Builtin.Str.tooLong
      have e3 : sizeLine = 16777216 := by decide
      exact decide_eq_false (by rw [e3]; omega)
    unfold repS at q
    split
    · rename_i c1
      rw [if_pos c1] at q
      exact ⟨by decide, ⟨.str _, H, I.tok _, ⟨_, rfl⟩, q⟩⟩
    · rename_i c1
      rw [if_neg c1] at q
      split
      · rename_i c2
        rw [if_pos c2] at q
        exact ⟨.str _, H, I, ⟨_, rfl⟩, q⟩
      · rename_i c2
        rw [if_neg c2] at q
        exact ⟨fits_reps fit, ⟨.str _, H, I.tok _, ⟨_, rfl⟩, q⟩⟩
theorem con_mulS : Con2 X oMulS rMulS := fun H d e v u S T d' o1 o2 ho Q k => by
  unfold oMulS at ho
  split at ho
  · split at ho
    · rename_i hz
      cases ho
      exact ⟨_, _, o1, o2, hz, ans_pure k rfl⟩
    · cases ho
  · cases ho
theorem j_mulS (ha : J X W ro true a g) (hb : J X W ro own' b h) : J X W ro true (.BinOp a .Mult b pos) (gOp2 oMulS g h) := j_op2 (fun _ _ => pe_op op_mulS) con_mulS ha hb

/-! ### tuple + tuple -/
def oAddT (d e : D) : Option D := match d, e with
  | .tup xs, .tup ys => if D.pures xs = true ∧ D.pures ys = true ∧ xs.length + ys.length ≤ sizeLine then some (.tup (xs ++ ys)) else none
  | _, _ => none
theorem con_addT : Con2 X oAddT (rCatA X.K) := fun H d e v u S T d' o1 o2 ho Q k => by
  unfold oAddT at ho
  split at ho
  · split at ho
    · rename_i xs ys hz
      cases ho
      obtain ⟨p, vs, rfl, t1, q1⟩ := o1
      obtain ⟨r, us, rfl, t2, q2⟩ := o2
      refine ⟨p, r, vs, us, rfl, rfl, t1.sq, t2.sq, by rw [q1.length, q2.length]; exact hz.2.2, fun e0 => ?_, fun _ e0 => ?_, fun _ _ z hz' => ?_⟩
      · have ex : xs = [] := List.length_eq_zero_iff.mp (by rw [← q1.length, e0]; rfl)
        subst ex
        exact ans_pure k ⟨r, us, rfl, t2, q2.ofPure hz.2.1⟩
      · have ex : ys = [] := List.length_eq_zero_iff.mp (by rw [← q2.length, e0]; rfl)
        subst ex
        rw [List.append_nil] at k
        exact ans_pure k ⟨p, vs, rfl, t1, q1.ofPure hz.1⟩
      · refine new_tup k hz' (own_tup hz' (OwnL.append (q1.ofPure (S' := fun _ => False) hz.1) hz.1 (q2.ofPure (S' := fun _ => False) hz.2.1)) ?_)
        rw [pures_append, hz.1, hz.2.1]
        rfl
    · cases ho
  · cases ho
theorem j_addT (ha : J X W ro true a g) (hb : J X W ro own' b h) : J X W ro true (.BinOp a .Add b pos) (gOp2 oAddT g h) := j_op2 (fun _ _ => pe_op op_catA) con_addT ha hb

/-! ### built-ins of two ints, sum -/
theorem j_blt2 {id : String} {op : D → D → Option D} {r : List V → Hp → VK → Prop} (hc : CallR X (.builtin id) r) (hg : Gl X x) (hm : X.mg x = none) (hv : bootBuiltins x = some (.builtin id)) (con : Con2 X op fun v u H Q => r [v, u] H Q) (ha : J X W ro true a g) (hb : J X W ro own' b h)
    (hs : starEach [a, b] X.env = (false, eval a X.env) :: starEach [b] X.env := by rfl) (hs2 : starEach [b] X.env = (false, eval b X.env) :: starEach [] X.env := by rfl) (hpl : (backTo pos (starEach [b] X.env)).any (·.1) = false := by rfl) (hn : x ≠ "__name__" := by decide) (hdb : (x == ("__debug__" : Str)) = false := by decide) :
    J X W ro true (.Call (.Name x p) [a, b] [] pos) (gOp2 op g h) := j_op2 (fun _ _ ha hb => pe_callB hc hg hm hv (pa_cons ha (pa_cons hb pa_nil hs2) hs) hn hdb hs hpl) con ha hb
def oMax2 (d e : D) : Option D := match d, e with
  | .int i, .int j => some (.int (if j > i then j else i))
  | _, _ => none
def oMin2 (d e : D) : Option D := match d, e with
  | .int i, .int j => some (.int (if j < i then j else i))
  | _, _ => none
theorem con_max2 : Con2 X oMax2 (fun v u H Q => ∃ i j, [v, u] = [.int i, .int j] ∧ Q (.int (if j > i then j else i)) H) := fun H d e v u S T d' o1 o2 ho Q k => by
  unfold oMax2 at ho
  split at ho
  · cases ho
    exact ⟨_, _, by rw [show v = .int _ from o1, show u = .int _ from o2], ans_pure k rfl⟩
  · cases ho
theorem con_min2 : Con2 X oMin2 (fun v u H Q => ∃ i j, [v, u] = [.int i, .int j] ∧ Q (.int (if j < i then j else i)) H) := fun H d e v u S T d' o1 o2 ho Q k => by
  unfold oMin2 at ho
  split at ho
  · cases ho
    exact ⟨_, _, by rw [show v = .int _ from o1, show u = .int _ from o2], ans_pure k rfl⟩
  · cases ho
theorem j_max2 (hc : X.calm = true) (hg : Gl X "max") (hm : X.mg "max" = none) (ha : J X W ro true a g) (hb : J X W ro own' b h)
    (hs : starEach [a, b] X.env = (false, eval a X.env) :: starEach [b] X.env := by rfl) (hs2 : starEach [b] X.env = (false, eval b X.env) :: starEach [] X.env := by rfl) (hpl : (backTo pos (starEach [b] X.env)).any (·.1) = false := by rfl) :
    J X W ro true (.Call (.Name "max" p) [a, b] [] pos) (gOp2 oMax2 g h) := j_blt2 (call_max2 hc) hg hm (by decide +kernel) con_max2 ha hb hs hs2 hpl
theorem j_min2 (hc : X.calm = true) (hg : Gl X "min") (hm : X.mg "min" = none) (ha : J X W ro true a g) (hb : J X W ro own' b h)
    (hs : starEach [a, b] X.env = (false, eval a X.env) :: starEach [b] X.env := by rfl) (hs2 : starEach [b] X.env = (false, eval b X.env) :: starEach [] X.env := by rfl) (hpl : (backTo pos (starEach [b] X.env)).any (·.1) = false := by rfl) :
    J X W ro true (.Call (.Name "min" p) [a, b] [] pos) (gOp2 oMin2 g h) := j_blt2 (call_min2 hc) hg hm (by decide +kernel) con_min2 ha hb hs hs2 hpl
def oGcd (d e : D) : Option D := match d, e with
  | .int i, .int j => some (.int ((Nat.gcd i.natAbs j.natAbs : Nat) : Int))
  | _, _ => none
theorem con_gcd : Con2 X oGcd (fun v u H Q => rGcd [v, u] H Q) := fun H d e v u S T d' o1 o2 ho Q k => by
  unfold oGcd at ho
  split at ho
  · cases ho
    exact ⟨_, _, by rw [show v = .int _ from o1, show u = .int _ from o2], ans_pure k rfl⟩
  · cases ho
theorem j_gcd (hg : Gl X "gcd") (hm : X.mg "gcd" = some (.builtin "math.gcd")) (ha : J X W ro true a g) (hb : J X W ro own' b h)
    (hs : starEach [a, b] X.env = (false, eval a X.env) :: starEach [b] X.env := by rfl) (hs2 : starEach [b] X.env = (false, eval b X.env) :: starEach [] X.env := by rfl) (hpl : (backTo pos (starEach [b] X.env)).any (·.1) = false := by rfl) :
    J X W ro true (.Call (.Name "gcd" p) [a, b] [] pos) (gOp2 oGcd g h) := j_op2 (fun _ _ ha hb => pe_callBfun cr_gcd hg hm (pa_cons ha (pa_cons hb pa_nil hs2) hs) (by decide) hs hpl) con_gcd ha hb
def oSum (d : D) : Option D := match d with
  | .lst ds => (D.ints ds).map fun ns => .int ns.sum
  | _ => none
theorem con_sum : Con1 X oSum (fun v H Q => rSum X.K [v] H Q) := fun H d v S d' o ho Q k => by
  unfold oSum at ho
  split at ho
  · rename_i ds
    obtain ⟨ns, hn, rfl⟩ := Option.map_eq_some_iff.mp ho
    obtain ⟨p, vs, rfl, _, t, ol⟩ := o
    exact ⟨p, ns, rfl, by rw [← own_ints ol hn]; exact SqL.of t, ans_pure k rfl⟩
  · cases ho
theorem j_sum (hc : X.calm = true) (hg : Gl X "sum") (hm : X.mg "sum" = none) (ha : J X W ro own a g) (hs : starEach [a] X.env = (false, eval a X.env) :: starEach [] X.env := by rfl) : J X W ro true (.Call (.Name "sum" p) [a] [] pos) (gOp1 oSum g) :=
  j_blt1 (cr_sum hc) hg hm (by decide +kernel) con_sum ha hs

/-! ### a chain of two tests, all read only -/
def gChain (o1 o2 : D → D → Option D) (ga gb gc : Rho → Res (D × Rho)) : Rho → Res (D × Rho) := fun ρ => (ga ρ).bind fun p => (gb p.2).bind fun q => (Res.of (o1 p.1 q.1)).bind fun t => (Res.of t.bool).bind fun k =>
  if k = true then (gc q.2).bind fun r => (Res.of (o2 q.1 r.1)).bind fun d => .ok (d, r.2) else .ok (.bl false, q.2)
theorem j_chain {c1 c2 : CmpOp} {o1 o2 : D → D → Option D} {r1 r2 : R2} (h1 : OpR X (compareOp c1) r1) (h2' : OpR X (compareOp c2) r2) (k1 : Con2 X o1 r1) (k2 : Con2 X o2 r2) (ha : J X W true true a g) (hb : J X W true true b h) (hc : J X W true own' c h2)
    (hm : lastMarks [c1, c2] [b, c] = false := by with_unfolding_all rfl) : J X W true true (.Compare a [c1, c2] [b, c] pos) (gChain o1 o2 g h h2) :=
  PE.weak (pe_chain h1 h2' ha hb hc hm) fun σ H Q ⟨ρ, S, r0, dm, q⟩ => ⟨ρ, S, r0, dm, q.bind.mono fun p _ q v H1 S1 S2 o => ⟨p.2, S2, o.rep, o.dm2, (q.bind.step o.st2).mono fun p2 _ q u H2 T1 T2 o' => by
    obtain ⟨t, ht, q⟩ := Ans.of_bind q
    obtain ⟨k, hk, q⟩ := Ans.of_bind q
    obtain ⟨x1, e1⟩ := o.ext rfl
    obtain ⟨x2, e2⟩ := o'.ext rfl
    refine k1 H2 p.1 p2.1 v u S1 T1 t (o.ow.ext x2) o'.ow ht _ fun v' H' S' x ow nw dm' => ⟨k, own_bool ow hk, ?_⟩
    have st2 : Step H H' S T2 := (o.st2.trans o'.st2).trans (Step.same x o'.dm2)
    cases k with
    | true =>
      simp only [if_true] at q ⊢
      exact ⟨p2.2, T2, o'.rep.ext x, st2.dm, (q.bind.step st2).mono fun p3 _ q w' H3 U1 U2 o3 => by
        obtain ⟨d', ho, q⟩ := Ans.of_bind q
        obtain ⟨x3, e3⟩ := o3.ext rfl
        exact k2 H3 p2.1 p3.1 u w' T1 U1 d' ((o'.ow.ext x).ext x3) o3.ow ho Q fun v2 H4 S4 x4 ow4 nw4 dm4 => q v2 H4 S4 U2 ⟨(st2.trans o3.st2).trans (Step.ext x4 o3.dm2 nw4 dm4), ow4, o3.rep.ext x4, fun _ b h1 h2 => o3.st.dm b (.inr h2) (nw4 b h1), fun _ => ⟨fun a u e => x4 a u (x3 a u (x a u (x2 a u (x1 a u e)))), e3.trans (e2.trans e1)⟩⟩⟩
    | false =>
      simp only [Bool.false_eq_true, if_false] at q ⊢
      exact q _ H' (fun _ => False) T2 ⟨st2.sub fun b hb => hb.elim False.elim id, rfl, o'.rep.ext x, fun _ b z => z.elim, fun _ => ⟨fun a u e => x a u (x2 a u (x1 a u e)), e2.trans e1⟩⟩⟩⟩
theorem j_chainLELE (ha : J X W true true a g) (hb : J X W true true b h) (hc : J X W true own' c h2) (hm : lastMarks [.LtE, .LtE] [b, c] = false := by with_unfolding_all rfl) : J X W true true (.Compare a [.LtE, .LtE] [b, c] pos) (gChain (oCmp fLe) (oCmp fLe) g h h2) :=
  j_chain op_le op_le (con_cmp _) (con_cmp _) ha hb hc hm

/-! ### ranges of two and three -/
noncomputable def gRange2 (g h : Rho → Res (D × Rho)) : Rho → Res (Src × Rho) := fun ρ => (g ρ).bind fun p => (h p.2).bind fun q => match p.1, q.1 with
  | .int i, .int j => if Hid (-(2 ^ 62) ≤ i ∧ i < 2 ^ 62 ∧ -(2 ^ 62) ≤ j ∧ j < 2 ^ 62) then .ok (⟨rangeD i (j - i).toNat, none⟩, q.2) else .stuck
  | _, _ => .stuck
theorem si_range2 {tg : Expr} (hg : Gl X "range") (hm : X.mg "range" = none) (ha : J X W ro true a g) (hb : J X W ro true b h) (hs : starEach [a, b] X.env = [(false, eval a X.env), (false, eval b X.env)] := by rfl) (hs2 : starEach [b] X.env = [(false, eval b X.env)] := by rfl)
    (hsA : starEach [a, b] X.env = (false, eval a X.env) :: starEach [b] X.env := by rfl) (hsB : starEach [b] X.env = (false, eval b X.env) :: starEach [] X.env := by rfl) :
    SI X W kp tg (.Call (.Name "range" p) [a, b] [] pos) (gRange2 g h) :=
  PI.weak (pi_range2 hg hm (pa_cons ha (pa_cons hb pa_nil hsB) hsA) hs hs2) fun σ H R ⟨ρ, S, r, dm, q⟩ => ⟨ρ, S, r, dm, q.bind.mono fun p _ q v H1 S1 S2 o => ⟨p.2, S2, o.rep, o.dm2, (q.bind.step o.st2).mono fun p2 _ q u H2 T1 T2 o2 => by
    obtain ⟨d, ρ'⟩ := p
    obtain ⟨d2, ρ2⟩ := p2
    cases d with
    | int i =>
      cases d2 with
      | int j =>
        obtain ⟨hj, q⟩ := Ans.ite q
        exact ⟨i, j, by rw [show v = .int i from o.ow, show u = .int j from o2.ow], hj, q _ H2 T2 (o.st2.trans o2.st2) o2.rep src_range⟩
      | _ => exact q.elim
    | _ => exact q.elim⟩⟩
/-- downwards -/
def downD (i : Int) (n : Nat) : List D := (List.range n).map fun (k : Nat) => D.int (i + (k : Nat) * -1)
theorem src_down {i : Int} {n : Nat} {σ1 : L2.St} {H1 : Hp} {S1 : AS} : SrcOk X kp (Itc i (-1) n) ⟨downD i n, none⟩ σ1 H1 S1 := fun σ H ρ S k st r c => by
  refine ⟨by show n ≤ (downD i n).length; simp [downD], fun j d hd => ?_⟩
  have hi : j < n := by
    have := (List.getElem?_eq_some_iff.mp hd).1
    simpa [downD] using this
  have ed : d = .int (i + (j : Nat) * -1) := by
    unfold downD at hd
    rw [List.getElem?_map, List.getElem?_range hi] at hd
    exact (Option.some.inj hd).symm
  exact ⟨hi, fun x H' ⟨e1, e2⟩ => ⟨e1, by rw [ed, e2]; rfl⟩⟩
noncomputable def gRange3 (g h h2 : Rho → Res (D × Rho)) : Rho → Res (Src × Rho) := fun ρ => (g ρ).bind fun p => (h p.2).bind fun q => (h2 q.2).bind fun r => match p.1, q.1, r.1 with
  | .int i, .int j, .int k => if Hid (k = -1 ∧ -(2 ^ 62) ≤ i ∧ i < 2 ^ 62 ∧ -(2 ^ 62) ≤ j ∧ j < 2 ^ 62) then .ok (⟨downD i (i - j).toNat, none⟩, r.2) else .stuck
  | _, _, _ => .stuck
theorem si_range3 {tg : Expr} (hg : Gl X "range") (hm : X.mg "range" = none) (ha : J X W true true a g) (hb : J X W true true b h) (hc : J X W true true c h2)
    (hs : starEach [a, b, c] X.env = (false, eval a X.env) :: starEach [b, c] X.env := by rfl) (hs2 : starEach [b, c] X.env = (false, eval b X.env) :: starEach [c] X.env := by rfl) (hs3 : starEach [c] X.env = (false, eval c X.env) :: starEach [] X.env := by rfl) (hpl : (backTo pos (starEach [b, c] X.env)).any (·.1) = false := by rfl) :
    SI X W kp tg (.Call (.Name "range" p) [a, b, c] [] pos) (gRange3 g h h2) :=
  PI.weak (pi_range3 hg hm (pa_cons ha (pa_cons hb (pa_cons hc pa_nil hs3) hs2) hs) hs hpl) fun σ H R ⟨ρ, S, r, dm, q⟩ => ⟨ρ, S, r, dm, q.bind.mono fun p _ q v H1 S1 S2 o => ⟨p.2, S2, o.rep, o.dm2, (q.bind.step o.st2).mono fun p2 _ q u H2 T1 T2 o2 =>
    ⟨p2.2, T2, o2.rep, o2.dm2, (q.bind.step (o.st2.trans o2.st2)).mono fun p3 _ q w' H3 U1 U2 o3 => by
    obtain ⟨d, ρ'⟩ := p
    obtain ⟨d2, ρ2⟩ := p2
    obtain ⟨d3, ρ3⟩ := p3
    cases d with
    | int i =>
      cases d2 with
      | int j =>
        cases d3 with
        | int k =>
          obtain ⟨hj, q⟩ := Ans.ite q
          obtain ⟨rfl, h1, h2, h3, h4⟩ := hj
          exact ⟨i, j, -1, (i - j).toNat, by rw [show v = .int i from o.ow, show u = .int j from o2.ow, show w' = .int (-1) from o3.ow], RgC.neg h1 h2 h3 h4, q _ H3 U2 ((o.st2.trans o2.st2).trans o3.st2) o3.rep src_down⟩
        | _ => exact q.elim
      | _ => exact q.elim
    | _ => exact q.elim⟩⟩⟩

/-! ### a name of the module; a new dict -/
theorem j_glo {v : V} {u : Value} {d : D} (hg : Gl X x) (hm : X.mg x = some u) (r : RelV v u) (ho : ∀ H, Own X.prog X.w H d v (fun _ => False)) (hp : d.pure = true) (hd : (x == ("__debug__" : Str)) = false := by decide) : J X W true true (.Name x pos) (gC d) :=
  j_const (pe_glob hg hm r hd) ho hp
end
end DV
set_option Elab.async false
set_option linter.all false
set_option maxRecDepth 100000
set_option maxHeartbeats 1000000
/-! while. -/
namespace DV
open PySem PySem.Spec PyProof.Rows L2
/-- the loop's turns, n at most -/
def whileF (t : Rho → Res (Bool × Rho)) (b : Rho → Res (Fl × Rho)) : Nat → Rho → Res (Fl × Rho)
  | 0, _ => .stuck
  | n + 1, ρ => (t ρ).bind fun p => if p.1 = true then (b p.2).bind fun q => match q.1 with
      | .next => whileF t b n q.2
      | .cont => whileF t b n q.2
      | .brk => .ok (.next, q.2)
      | .ret d => .ok (.ret d, q.2)
    else .ok (.next, p.2)
theorem whileF_up {t : Rho → Res (Bool × Rho)} {b : Rho → Res (Fl × Rho)} : ∀ {n : Nat} {ρ : Rho} (k : Nat), whileF t b n ρ ≠ .stuck → whileF t b (n + k) ρ = whileF t b n ρ
  | 0, ρ, k, h => absurd rfl h
  | n + 1, ρ, k, h => by
    rw [show n + 1 + k = (n + k) + 1 by omega]
    simp only [whileF] at h ⊢
    cases ht : t ρ with
    | ok p =>
      rw [ht] at h
      simp only [Res.bind] at h ⊢
      by_cases hp : p.1 = true
      · simp only [hp, if_true] at h ⊢
        cases hb : b p.2 with
        | ok q =>
          rw [hb] at h
          obtain ⟨f, ρ'⟩ := q
          cases f with
          | next => exact whileF_up k h
          | cont => exact whileF_up k h
          | brk => rfl
          | ret d => rfl
        | raise x y => rfl
        | stuck => rfl
      · rw [if_neg hp, if_neg hp]
    | raise x y => rfl
    | stuck => rfl
open Classical in
noncomputable def gWhile (t : Rho → Res (Bool × Rho)) (b : Rho → Res (Fl × Rho)) : Rho → Res (Fl × Rho) := fun ρ => if h : ∃ n, whileF t b n ρ ≠ .stuck then whileF t b h.choose ρ else .stuck
theorem gWhile_eq {t : Rho → Res (Bool × Rho)} {b : Rho → Res (Fl × Rho)} {ρ : Rho} (n : Nat) (h : whileF t b n ρ ≠ .stuck) : gWhile t b ρ = whileF t b n ρ := by
  have hx : ∃ n, whileF t b n ρ ≠ .stuck := ⟨n, h⟩
  unfold gWhile
  rw [dif_pos hx]
  have h2 := hx.choose_spec
  have e1 := whileF_up (t := t) (b := b) (ρ := ρ) n h2
  have e2 := whileF_up (t := t) (b := b) (ρ := ρ) hx.choose h
  rw [← e1, ← e2, Nat.add_comm]
section
variable {X : Cx} [KFr X.w] [XKf X] {W : WX} {kp : List Nat} {c : Expr} {body : List Stmt} {pos : Pos} {gt : Rho → Res (Bool × Rho)} {gs : Rho → Res (Fl × Rho)}
theorem ss_while (hp : PassesOwn (model X.prog X.w) X.A X.env X.xe) (hc : JT X W c gt) (hb : SSs X W kp body gs) : SS X W kp (.While c body [] pos) (gWhile gt gs) :=
  PS.weak (ps_while hp hc hb) fun E σ H ⟨ρ, S, r, dm, q⟩ => by
    unfold gWhile at q
    split at q
    · rename_i hx
      generalize hx.choose = n0 at q
      refine ⟨fun m σ' H' => ∃ ρ' S', Rep X.prog X.w H' ρ' σ' S' ∧ Dom S' H' ∧ AnsS X W kp E σ' H' S' (whileF gt gs m ρ'), ⟨n0, ρ, S, r, dm, q⟩, ?_⟩
      rintro m σ1 H1 ⟨ρ1, S1, r1, dm1, q1⟩
      cases m with
      | zero => exact q1.elim
      | succ m =>
        simp only [whileF] at q1
        refine ⟨ρ1, S1, r1, dm1, q1.bind.mono fun p _ q2 H2 S2 st2 r2 => ?_⟩
        obtain ⟨b, ρ2⟩ := p
        cases b with
        | false =>
          simp only [Bool.false_eq_true, if_false] at q2 ⊢
          exact q2 σ1 H2 S2 Kept.refl st2 r2
        | true =>
          simp only [if_true] at q2 ⊢
          refine ⟨fun σ' H' => ∃ ρ' S', Rep X.prog X.w H' ρ' σ' S' ∧ Dom S' H' ∧ AnsS X W kp E σ' H' S' (whileF gt gs m ρ'), fun σ' H' h => ⟨m, Nat.lt_succ_self m, h⟩, ρ2, S2, r2, st2.dm, ?_⟩
          cases hg : gs ρ2 with
          | ok p2 =>
            obtain ⟨f, ρ3⟩ := p2
            rw [hg] at q2
            simp only [Res.bind] at q2
            cases f with
            | next => exact fun σ3 H3 S3 k3 st3 r3 => ⟨ρ3, S3, r3, st3.dm, AnsS.step k3 (st2.trans st3) q2⟩
            | cont => exact fun σ3 H3 S3 k3 st3 r3 => ⟨ρ3, S3, r3, st3.dm, AnsS.step k3 (st2.trans st3) q2⟩
            | brk => exact fun σ3 H3 S3 k3 st3 r3 => q2 σ3 H3 S3 k3 (st2.trans st3) r3
            | ret d => exact fun v σ3 H3 T1 T2 k3 st3 o3 r3 dj => q2 v σ3 H3 T1 T2 k3 (st2.trans st3) o3 r3 dj
          | raise x ρ3 =>
            rw [hg] at q2
            exact fun σ3 C dx H3 S3 k3 o3 => q2 σ3 C dx H3 S3 k3 (o3.trans st2)
          | stuck => rw [hg] at q2; exact q2.elim
    · exact q.elim
end
end DV
set_option Elab.async false
set_option linter.all false
set_option maxRecDepth 100000
set_option maxHeartbeats 1000000
/-! a box within a box: x[k].m(e); d.get(k, e); {}. -/
namespace DV
open PySem PySem.Spec PyProof.Rows L2
section
variable {P : Program} {w : World} [KFr w] {H H' : Hp}
/-- one item apart from the others -/
theorem OwnL.focus : ∀ {ds : List D} {vs : List V} {S : AS} {j : Nat} {d : D}, OwnL P w H ds vs S → ds[j]? = some d → ∃ (v : V) (S1 S2 : AS), vs[j]? = some v ∧ Own P w H d v S1 ∧ (∀ b, S1 b → S b) ∧ (∀ b, S2 b → S b) ∧ (∀ b, S1 b → S2 b → False) ∧
    ∀ (d' : D) (T : AS) (H' : Hp), (∀ (es : List D) (us : List V) (R : AS), OwnL P w H es us R → (∀ b, R b → S2 b) → OwnL P w H' es us R) → Own P w H' d' v T → (∀ b, T b → S2 b → False) → OwnL P w H' (ds.set j d') vs (fun b => T b ∨ S2 b)
  | d0 :: ds, vs, S, 0, d, ⟨v, vr, S1, S2, e, o1, o2, k1, k2, dj⟩, h => by
    simp only [List.getElem?_cons_zero, Option.some.injEq] at h
    subst h e
    exact ⟨v, S1, S2, rfl, o1, k1, k2, dj, fun d' T H' st ot dT => ⟨v, vr, T, S2, rfl, ot, st _ _ _ o2 fun b hb => hb, fun b hb => .inl hb, fun b hb => .inr hb, dT⟩⟩
  | d0 :: ds, vs, S, j + 1, d, ⟨v0, vr, S1, S2, e, o1, o2, k1, k2, dj⟩, h => by
    subst e
    obtain ⟨v, U1, U2, hv, ow, m1, m2, dU, fo⟩ := OwnL.focus o2 (by simpa using h)
    refine ⟨v, U1, fun b => S1 b ∨ U2 b, by simpa using hv, ow, fun b hb => k2 b (m1 b hb), fun b hb => hb.elim (k1 b) fun z => k2 b (m2 b z), fun b h1 h2 => h2.elim (fun z => dj b z (m1 b h1)) fun z => dU b h1 z, fun d' T H' st ot dT => ?_⟩
    have o1' : Own P w H' d0 v0 S1 := by
      obtain ⟨v', vr', T1, T2, e, o, _, t1, _⟩ := st [d0] [v0] S1 ⟨v0, [], S1, fun _ => False, rfl, o1, rfl, fun b hb => hb, fun b z => z.elim, fun b _ z => z⟩ fun b hb => .inl hb
      cases e
      exact o.mono t1
    refine ⟨v0, vr, S1, fun b => T b ∨ U2 b, rfl, o1', fo d' T H' (fun es us R o k => st es us R o fun b hb => .inr (k b hb)) ot fun b h1 h2 => dT b h1 (.inr h2), fun b hb => .inr (.inl hb), fun b hb => hb.imp id .inr, fun b h1 h2 => h2.elim (fun z => dT b z (.inl h1)) fun z => dj b h1 (m2 b z)⟩
theorem dget_at {α β : Type} : ∀ {ks : List D} {ds : List α} {k : D} {d : α}, dget ks ds k = some d → ∃ j, ds[j]? = some d ∧ (∀ vs : List β, vs.length = ds.length → dget ks vs k = vs[j]?) ∧ ∀ v, dset ks ds k v = ds.set j v
  | k' :: ks, d0 :: ds, k, d, h => by
    rw [dget] at h
    by_cases e : k' = k
    · rw [if_pos e] at h
      refine ⟨0, by simpa using h, fun vs hl => ?_, fun v => by rw [dset, if_pos e]; rfl⟩
      cases vs with
      | nil => simp at hl
      | cons u vs => rw [dget, if_pos e]; rfl
    · rw [if_neg e] at h
      obtain ⟨j, h1, h2, h3⟩ := dget_at (β := β) h
      refine ⟨j + 1, by simpa using h1, fun vs hl => ?_, fun v => by rw [dset, if_neg e, h3]; rfl⟩
      cases vs with
      | nil => simp at hl
      | cons u vs => rw [dget, if_neg e, h2 vs (by simpa using hl)]; simp
  | [], ds, k, d, h => by simp [dget] at h
  | _ :: _, [], k, d, h => by simp [dget] at h
end
/-- the box with another value at k -/
def sset (c k d : D) : D := match c, k with
  | .lst xs, .int n => (match ixN xs.length n with
    | some j => .lst (xs.set j d)
    | none => c)
  | .dic ks ds, k => .dic ks (dset ks ds k d)
  | _, _ => c
def isBox : D → Bool
  | .lst _ => true
  | .dic _ _ => true
  | _ => false
section
variable {X : Cx} [KFr X.w] [XKf X] {W : WX} {kp : List Nat} {σ : L2.St} {H : Hp} {S : AS} {ro own own' : Bool} {e a k : Expr} {pos : Pos} {g h : Rho → Res (D × Rho)} {gs : Rho → Res (List D × Rho)} {i : Nat}
theorem ixN_lt {n : Nat} {i : Int} {j : Nat} (h : ixN n i = some j) : j < n := by
  unfold ixN at h
  split at h
  · split at h
    · cases h; omega
    · cases h
  · split at h
    · cases h; omega
    · cases h
theorem con_focus {c e d : D} {v u : V} {SC SK : AS} (oc : Own X.prog X.w H c v SC) (ok : Own X.prog X.w H e u SK) (hb : isBox c = true) (ho : oGet c e = some d) :
    ∃ (v' : V) (S1 : AS), (∀ Q : VK, Q v' H → rIxA X.prog X.w X.K v u H Q) ∧ Own X.prog X.w H d v' S1 ∧ (∀ b, S1 b → SC b) ∧
      ∀ (H2 : Hp) (a2 : Addr) (o' : HO) (d' : D) (T U : AS), Ext H H2 → S1 a2 → Mut (H2 a2) → Own X.prog X.w (upd H2 a2 o') d' v' T → (∀ b, T b → S1 b ∨ U b) → (∀ b, U b → SC b → False) → Own X.prog X.w (upd H2 a2 o') (sset c e d') v (fun b => SC b ∨ U b) := by
  cases c with
  | lst xs =>
    cases e with
    | int n =>
      obtain ⟨a, vs, rfl, sa, ht, ol⟩ := oc
      rw [get_l] at ho
      unfold atI at ho
      cases hx : ixN xs.length n with
      | none => rw [hx] at ho; cases ho
      | some j =>
        rw [hx] at ho
        obtain ⟨v', S1, S2, hv, ow, m1, m2, dj, fo⟩ := ol.focus (show xs[j]? = some d from ho)
        refine ⟨v', S1, fun Q q => .inl (.inl ⟨a, vs, n, v', rfl, ok, SqL.of ht, ?_, q⟩), ow, fun b hb => (m1 b hb).1, fun H2 a2 o' d' T U x h1 mu ot hT dU => ?_⟩
        · unfold atI
          rw [ol.length, hx]
          exact hv
        · have na : a2 ≠ a := (m1 a2 h1).2
          have e2 : sset (.lst xs) (.int n) d' = .lst (xs.set j d') := by show (match ixN xs.length n with | some j => D.lst (xs.set j d') | none => D.lst xs) = _; rw [hx]
          rw [e2]
          have dT : ∀ b, T b → S2 b → False := fun b h2 h3 => (hT b h2).elim (fun z => dj b z h3) fun z => dU b z (m2 b h3).1
          refine ⟨a, vs, rfl, .inl sa, by rw [upd_ne (fun z => na z.symm)]; exact x _ _ ht, (fo d' T _ (fun es us R o kk => (o.ext x).upd mu fun z => dj a2 h1 (kk a2 z)) ot dT).mono fun b hb => ?_⟩
          rcases hb with hb | hb
          · rcases hT b hb with z | z
            · exact ⟨.inl (m1 b z).1, (m1 b z).2⟩
            · exact ⟨.inr z, fun y => dU b z (by rw [y]; exact sa)⟩
          · exact ⟨.inl (m2 b hb).1, (m2 b hb).2⟩
    | _ => cases ho
  | dic ks ds =>
    have ho' : (if e.hk = true ∧ sameSort ks e = true then dget ks ds e else none) = some d := ho
    split at ho'
    · rename_i hc
      obtain ⟨a, ob, kv, vs, rfl, sa, ht, q, okk, od⟩ := oc
      obtain ⟨j, h1, h2, h3⟩ := dget_at (β := V) ho'
      obtain ⟨v', S1, S2, hv, ow, m1, m2, dj, fo⟩ := od.focus h1
      have hg := dic_get (S := SK) (.inl ht) q okk ok hc.1 (same_iff hc.2)
      rw [h2 vs od.length, hv] at hg
      refine ⟨v', S1, fun Q q => .inr ⟨a, v', rfl, hg, q⟩, ow, fun b hb => (m1 b hb).1, fun H2 a2 o' d' T U x h1 mu ot hT dU => ?_⟩
      have na : a2 ≠ a := (m1 a2 h1).2
      have e2 : sset (.dic ks ds) e d' = .dic ks (ds.set j d') := by show D.dic ks (dset ks ds e d') = _; rw [h3]
      rw [e2]
      have dT : ∀ b, T b → S2 b → False := fun b h2 h3 => (hT b h2).elim (fun z => dj b z h3) fun z => dU b z (m2 b h3).1
      refine ⟨a, ob, kv, vs, rfl, .inl sa, by rw [upd_ne (fun z => na z.symm)]; exact x _ _ ht, q, (okk.ext x).upd mu (fun z => z), (fo d' T _ (fun es us R o kk => (o.ext x).upd mu fun z => dj a2 h1 (kk a2 z)) ot dT).mono fun b hb => ?_⟩
      rcases hb with hb | hb
      · rcases hT b hb with z | z
        · exact ⟨.inl (m1 b z).1, (m1 b z).2⟩
        · exact ⟨.inr z, fun y => dU b z (by rw [y]; exact sa)⟩
      · exact ⟨.inl (m2 b hb).1, (m2 b hb).2⟩
    · cases ho'
  | _ => cases hb

/-- x[k].m(e ..), x a name of ours, k and e only read -/
def gMutS (i : Nat) (gk : Rho → Res (D × Rho)) (op : List D → List D → Option (D × List D)) (gs : Rho → Res (List D × Rho)) : Rho → Res (D × Rho) := fun ρ => (Res.of (slotD ρ i)).bind fun c => (gk ρ).bind fun p =>
  match oGet c p.1 with
  | some (.lst xs) => if isBox c = true then (gs p.2).bind fun q => if D.pures q.1 = true then (Res.of (op xs q.1)).bind fun r => if r.1.pure = true then .ok (r.1, q.2.set i (some (sset c p.1 (.lst r.2)))) else .stuck else .stuck else .stuck
  | _ => .stuck
theorem t_mutS {op : List D → List D → Option (D × List D)} {r : V → List V → Hp → VK → Prop} (con : ConM X op r) : ∀ σ H Q, tJ X W false true (gMutS i g op gs) σ H Q → tBM X.K "list" r (tOp (rIxA X.prog X.w X.K) (tVar i) (tJ X W true true g)) (tJA X W true gs) σ H Q := fun σ H Q ⟨ρ, S, r0, dm, q⟩ => by
  obtain ⟨c, hc, q⟩ := Ans.of_bind q
  obtain ⟨v, T1, T2, hs, oc, r2, k1, k2, d12⟩ := r0.take (slotD_eq hc)
  refine ⟨v, hs, ρ, S, r0, dm, q.bind.mono fun p _ q u H1 U1 U2 o => ?_⟩
  obtain ⟨x1, e1⟩ := o.ext rfl
  cases hget : oGet c p.1 with
  | none => rw [hget] at q; exact q.elim
  | some inner =>
    rw [hget] at q
    cases inner with
    | lst xs =>
      simp only at q
      obtain ⟨hb, q⟩ := Ans.ite q
      obtain ⟨v', F1, rd, ow, mF, fo⟩ := con_focus (oc.ext x1) o.ow hb hget
      have ow' := ow
      obtain ⟨a2, vs2, rfl, sa2, ht2, ol2⟩ := ow'
      refine rd _ ⟨.inl ⟨rfl, vs2, SqL.of ht2⟩, p.2, S, by rw [e1]; exact r0.ext x1, x1.dom dm, ?_⟩
      have st1 : Step H H1 S S := Step.same x1 dm
      refine (q.bind.step st1).mono fun p2 _ q us H2 W1 W2 o2 => ?_
      obtain ⟨hpu, q⟩ := Ans.ite q
      obtain ⟨⟨d', xs'⟩, hop, q⟩ := Ans.of_bind q
      obtain ⟨x2, e2⟩ := o2.ext rfl
      have mu : Mut (H2 a2) := by rw [x2 _ _ ht2]; exact True.intro
      have sF : ∀ b, F1 b → S b := fun b hb => k1 b (mF b hb)
      have oc2 := (oc.ext x1).ext x2
      refine con H2 a2 xs vs2 p2.1 us (fun b => F1 b ∧ b ≠ a2) (fun _ => False) d' xs' (x2 _ _ ht2) (ol2.ext x2) (o2.ow.ofPure hpu) (fun b _ z => z) (fun z => z.2 rfl) (fun z => z) hop Q fun vs' v2 S' T ol' od' sS sT dST => ?_
      have sS' : ∀ b, S' b → F1 b ∧ b ≠ a2 := fun b hb => (sS b hb).elim id False.elim
      have sT' : ∀ b, T b → F1 b ∧ b ≠ a2 := fun b hb => (sT b hb).elim id False.elim
      have nS : ¬ S' a2 := fun z => (sS' a2 z).2 rfl
      have nT : ¬ T a2 := fun z => (sT' a2 z).2 rfl
      have owi : Own X.prog X.w (upd H2 a2 (.lst vs')) (.lst xs') (.ref a2) (fun b => b = a2 ∨ S' b) := ⟨a2, vs', rfl, .inl rfl, upd_same, (ol'.upd mu nS).mono fun b hb => ⟨.inr hb, fun z => nS (by rw [← z]; exact hb)⟩⟩
      obtain ⟨hrp, q⟩ := Ans.ite q
      have owc := fo H2 a2 (.lst vs') (.lst xs') (fun b => b = a2 ∨ S' b) (fun _ => False) x2 sa2 mu owi (fun b hb => hb.elim (fun z => .inl (by rw [z]; exact sa2)) fun z => .inl (sS' b z).1) fun b z _ => z
      have x12 : Ext H H2 := fun a o e => x2 a o (x1 a o e)
      have rr := Rep.back ((r2.ext x12).upd (o' := .lst vs') mu (fun z => d12 a2 (mF a2 sa2) z)) (owc.mono fun b hb => hb.elim id False.elim) (fun b h1 h2 => d12 b h1 h2) hs
      have er : p2.2.set i (some (sset c p.1 (.lst xs'))) = ρ.set i (some (sset c p.1 (.lst xs'))) := by rw [e2, e1]
      refine q v2 _ (fun _ => False) _ ⟨?_, (od'.upd mu nT).ofPure hrp, by rw [er]; exact rr, fun _ b z => z.elim, fun z => (nomatch z)⟩
      have st := (Step.same x12 dm).trans (Step.upd (o' := .lst vs') (x12.dom dm) mu (sF a2 sa2))
      exact st.sub fun b hb => hb.elim False.elim fun z => z.elim (k1 b) (k2 b)
    | _ => exact q.elim
theorem j_appendS {x : Str} {p apos cpos ipos : Pos} (hu : X.A.units + 64 < cLine) (hN : X.N[i]? = some x) (hv : Vis X.env.scope x) (hk : J X W true true k g) (hix : PlainIx k) (ha : J X W true true e h)
    (hbase : attributeBase (.Subscript (.Name x p) k ipos) "append" X.env (eval (.Subscript (.Name x p) k ipos) X.env) = eval (.Subscript (.Name x p) k ipos) X.env := by rfl)
    (hline : (apos.endLine == cpos.line) = true := by rfl) (hs : starEach [e] X.env = (false, eval e X.env) :: starEach [] X.env := by rfl)
    (hfew : ((backTo cpos (starEach [e] X.env)).all (fun x => !x.1) && (backToKw cpos (keywordEach [] X.env)).all (fun x => x.1.isSome)
      && decide (([e] : List Expr).length + ([] : List Keyword).length + (if ([] : List Keyword).isEmpty then 0 else 1) < 30)) = true := by rfl) (hplain : (backTo cpos (starEach ([] : List Expr) X.env)).any (·.1) = false := by rfl)
    (hd : (x == ("__debug__" : Str)) = false := by decide) (hcd : (x == ("__classdict__" : Str)) = false := by decide) :
    J X W false true (.Call (.Attribute (.Subscript (.Name x p) k ipos) "append" apos) [e] [] cpos) (gMutS i g oAppend (gCons h gNil)) :=
  PE.weak (pe_bm PySem.F.plainAttrs_list PySem.F.slot_list_append PySem.F.type_list_append mt_append (pe_ix (ix_all hu) (pe_var hN hv hd hcd) hk hix) (ja_cons ha ja_nil hs) hbase hfew hline hs hplain) (t_mutS con_append)

/-! ### x.get(k, e): what is found is a plain value -/
def gGet2 (i : Nat) (gk ge : Rho → Res (D × Rho)) : Rho → Res (D × Rho) := fun ρ => (Res.of (slotD ρ i)).bind fun c => (Res.of c.dict).bind fun kd => if (kd.1.all fun k => k.atom.isSome) = true then (gk ρ).bind fun p => (ge p.2).bind fun q =>
  if p.1.atom.isSome = true then (match dget kd.1 kd.2 p.1 with
    | some v => if v.pure = true then .ok (v, q.2) else .stuck
    | none => .ok (q.1, q.2)) else .stuck
  else .stuck
theorem dk_only {o : HO} {a : Addr} {ks : List D} {kv vs : List V} (q : DicAt X.prog X.w o a ks kv vs) (h : (ks.all fun k => k.atom.isSome) = true) : ∃ kvs : List (Key × V), o = .dK kvs ∧ kvs.map (·.2) = vs ∧ ks.map D.atom = kvs.map (fun p => some p.1) := by
  rcases q.2 with ⟨kvs, rfl, h2, _, hks⟩ | ⟨es, rfl, hne, _, _, hks⟩
  · exact ⟨kvs, rfl, h2, hks⟩
  · exfalso
    cases es with
    | nil => exact hne rfl
    | cons p es =>
      cases ks with
      | nil => simp at hks
      | cons k ks =>
        simp only [List.map_cons, List.cons.injEq] at hks
        simp only [List.all_cons, Bool.and_eq_true] at h
        have h1 := hks.1
        have h2 := h.1
        cases k <;> first | (cases h1; done) | (cases h2; done)
theorem j_get2 {x : Str} {p apos cpos : Pos} (hu : X.A.units + 64 < cLine) (hN : X.N[i]? = some x) (hv : Vis X.env.scope x) (hk : J X W true true k g) (he : J X W true true e h) (m : M2 X (.Name x p) "get" apos k e cpos)
    (hd : (x == ("__debug__" : Str)) = false := by decide) (hcd : (x == ("__classdict__" : Str)) = false := by decide) :
    J X W true true (.Call (.Attribute (.Name x p) "get" apos) [k, e] [] cpos) (gGet2 i g h) :=
  PE.weak (pe_dget2 (by omega) (pe_var hN hv hd hcd) hk he m) fun σ H Q ⟨ρ, S, r0, dm, q⟩ => by
    obtain ⟨c, hc, q⟩ := Ans.of_bind q
    obtain ⟨v, T1, T2, hs, oc, r2, k1, k2, d12⟩ := r0.take (slotD_eq hc)
    obtain ⟨⟨ks, ds⟩, hkd, q⟩ := Ans.of_bind q
    obtain ⟨hat, q⟩ := Ans.ite q
    obtain ⟨a, ob, kv, vs, rfl, rd, dq, okk, od⟩ := own_dict oc hkd
    obtain ⟨kvs, rfl, hvs, hks⟩ := dk_only dq hat
    refine ⟨.ref a, hs, a, rfl, .inl ⟨kvs, rd⟩, ρ, S, r0, dm, q.bind.mono fun p _ q u H1 S1 S2 o => ⟨p.2, S2, o.rep, o.dm2, (q.bind.step o.st2).mono fun p2 _ q u2 H2 W1 W2 o2 => ?_⟩⟩
    obtain ⟨ha, q⟩ := Ans.ite q
    obtain ⟨key, hk'⟩ := Option.isSome_iff_exists.mp ha
    obtain ⟨x1, e1⟩ := o.ext rfl
    obtain ⟨x2, e2⟩ := o2.ext rfl
    have x12 : Ext H H2 := fun a o e => x2 a o (x1 a o e)
    have rd2 : Rd H2 a (.dK kvs) := rd.imp (fun z => x12 _ _ z) fun ⟨ob, z⟩ => ⟨ob, x12 _ _ z⟩
    refine ⟨valV kvs key, .inl ⟨kvs, key, rd2, D.atom_v o.ow hk', rfl⟩, ?_⟩
    have hval : valV kvs key = dget ks vs p.1 := by rw [← hvs]; exact valV_dget hks hk'
    cases hg : dget ks ds p.1 with
    | none =>
      rw [hg] at q
      have e3 : dget ks vs p.1 = none := by
        cases hv2 : dget ks vs p.1 with
        | none => rfl
        | some z =>
          obtain ⟨j, h1, h2, _⟩ := dget_at (β := D) hv2
          rw [h2 ds od.length.symm] at hg
          have := (List.getElem?_eq_some_iff.mp h1).1
          rw [od.length] at this
          rw [List.getElem?_eq_getElem this] at hg
          cases hg
      rw [hval, e3]
      exact q u2 H2 W1 W2 ⟨(o.st2.trans o2.st), o2.ow, o2.rep, o2.dj, fun _ => ⟨x12, e2.trans e1⟩⟩
    | some d =>
      rw [hg] at q
      simp only at q
      obtain ⟨hp, q⟩ := Ans.ite q
      obtain ⟨v', S1', hv', ow, _⟩ := od.dget hg
      rw [hval, hv']
      exact q v' H2 (fun _ => False) W2 ⟨(o.st2.trans o2.st2).sub fun b hb => hb.elim False.elim id, (ow.ext x12).ofPure hp, o2.rep, fun _ b z => z.elim, fun _ => ⟨x12, e2.trans e1⟩⟩

/-! ### {} -/
theorem own_dic0 {H : Hp} {p : Addr} (hp : H p = none) : Own X.prog X.w (upd H p (.dK [])) (.dic [] []) (.ref p) (fun b => b = p) :=
  ⟨p, .dK [], [], [], rfl, rfl, upd_same, ⟨List.nodup_nil, .inl ⟨[], rfl, rfl, rfl, rfl⟩⟩, rfl, rfl⟩
theorem j_dict0 : J X W true true (.Dict [] [] pos) (gC (.dic [] [])) := PE.weak pe_dnewK fun σ H Q ⟨ρ, S, r, dm, q⟩ p hp =>
  q (.ref p) _ (fun b => b = p) S (Out.extd r (ext_upd hp) dm (own_dic0 hp) (fun b hb => by rw [show b = p from hb]; exact hp) dom_one)
end
end DV
set_option Elab.async false
set_option linter.all false
set_option maxRecDepth 100000
set_option maxHeartbeats 1000000
/-! xs[::-1]; evaluation of the newer rules. -/
namespace DV
open PySem PySem.Spec PyProof.Rows L2
section
variable {X : Cx} [KFr X.w] [XKf X] {W : WX} {ro own own' : Bool} {e a : Expr} {g : Rho → Res (D × Rho)}
def oRev (d : D) : Option D := match d with
  | .lst ds => if D.pures ds = true then some (.lst ds.reverse) else none
  | .lck ds => if D.pures ds = true then some (.lst ds.reverse) else none
  | _ => none
theorem OwnL.rev {P : Program} {w : World} [KFr w] {H : Hp} {S : AS} : ∀ {ds : List D} {vs : List V}, OwnL P w H ds vs S → D.pures ds = true → OwnL P w H ds.reverse vs.reverse S
  | [], vs, o, _ => by rw [show vs = [] from o]; exact rfl
  | d :: ds, vs, ⟨v, vr, S1, S2, e, o1, o2, k1, k2, dj⟩, hp => by
    subst e
    simp only [D.pures, Bool.and_eq_true] at hp
    rw [List.reverse_cons, List.reverse_cons]
    exact OwnL.append ((OwnL.rev o2 hp.2).mono k2) (by rw [pures_all] at hp ⊢; exact fun d hd => hp.2 d (List.mem_reverse.mp hd)) ⟨v, [], fun _ => False, fun _ => False, rfl, o1.ofPure hp.1, rfl, fun _ z => z.elim, fun _ z => z.elim, fun _ z => z.elim⟩
theorem con_rev : Con1 X oRev (fun x H Q => ∃ a xs, x = .ref a ∧ SqL X.K H a xs ∧ ∀ p, H p = none → Q (.ref p) (upd H p (.lst xs.reverse))) := fun H d v S d' o ho Q k => by
  have key : ∀ {p : Addr} {vs : List V} {ds : List D} {S' : AS}, H p = some (.lst vs) → OwnL X.prog X.w H ds vs S' → D.pures ds = true → v = .ref p → d' = .lst ds.reverse → ∃ a xs, v = .ref a ∧ SqL X.K H a xs ∧ ∀ p, H p = none → Q (.ref p) (upd H p (.lst xs.reverse)) := fun t ol hp ev ed => by
    subst ev ed
    refine ⟨_, _, rfl, SqL.of t, fun l hl => new_one k hl (own_lst hl (ol.rev hp) ?_)⟩
    rw [pures_all] at hp ⊢
    exact fun d hd => hp d (List.mem_reverse.mp hd)
  unfold oRev at ho
  split at ho
  · split at ho
    · rename_i hp; cases ho; obtain ⟨p, vs, e, _, t, ol⟩ := o; exact key t ol hp e rfl
    · cases ho
  · split at ho
    · rename_i hp; cases ho; obtain ⟨p, vs, e, _, t, ol⟩ := o; exact key t ol hp e rfl
    · cases ho
  · cases ho
theorem j_rev {kk : Nat} {p1 p2 p3 pos : Pos} (ha : J X W ro own a g) : J X W ro true (.Subscript a (.Slice none none (some (.UnaryOp .USub (.Constant (.int 1) kk p1) p2)) p3) pos) (gOp1 oRev g) :=
  j_op1 (fun _ ha => pe_revL ha) con_rev ha
end
end DV
namespace DV
open PySem PySem.Spec PyProof.Rows L2
/-- the module's name x is a tuple of these ints -/
def TupC (w : World) [KFr w] (mg : Str → Option Value) (x : Str) (ns : List Int) : Prop := ∃ a, mg x = some (.ref a) ∧ StT w a (ns.map V.int)
section
variable {X : Cx} [KFr X.w] [XKf X] {W : WX} {x : Str} {pos : Pos} {ns : List Int}
theorem j_gloT (hg : Gl X x) (h : TupC X.w X.mg x ns) (hd : (x == ("__debug__" : Str)) = false := by decide) : J X W true true (.Name x pos) (gC (.tup (ns.map .int))) := by
  obtain ⟨a, hm, st⟩ := h
  refine j_glo hg hm (v := .ref a) rfl (fun H => ⟨a, _, rfl, .inr st, ?_⟩) ?_ hd
  · exact ownL_map D.int V.int (fun _ => rfl) ns
  · show D.pures (ns.map .int) = true
    exact pures_all.mpr fun d hd => by
      obtain ⟨c, _, rfl⟩ := List.mem_map.mp hd
      rfl
end
end DV
namespace DV
open PySem PySem.Spec PyProof.Rows L2
/-- a, b = e, f -/
def gPar (i j : Nat) (gs : Rho → Res (List D × Rho)) : Rho → Res (Fl × Rho) := fun ρ => (gs ρ).bind fun p => match p.1 with
  | [d, e] => if i < p.2.length ∧ j < p.2.length then .ok (.next, (p.2.set i (some d)).set j (some e)) else .stuck
  | _ => .stuck
section
variable {X : Cx} [KFr X.w] [XKf X] {W : WX} {kp : List Nat} {ro : Bool} {a b : Expr} {gs : Rho → Res (List D × Rho)} {i j : Nat} {x y : Str}
theorem ss_par {px py pt pos : Pos} {kt k2 pt2} (hc : X.calm = true) (hN : X.N.Nodup) (hi : X.N[i]? = some x) (hj : X.N[j]? = some y) (hij : i ≠ j) (hx : X.env.scope.names.lookup x = some .local) (hy : X.env.scope.names.lookup y = some .local) (ki : i ∉ kp) (kj : j ∉ kp) (ha : JA X W ro [a, b] gs)
    (hw : swappedStores [.Tuple [.Name x px, .Name y py] kt pt] (.Tuple [a, b] k2 pt2) X.env = pure (some [x, y]) := by rfl)
    (hs : swapsWithSole [.Tuple [.Name x px, .Name y py] kt pt] (.Tuple [a, b] k2 pt2) pos.line X.env = pure false := by rfl) :
    SS X W kp (.Assign [.Tuple [.Name x px, .Name y py] kt pt] (.Tuple [a, b] k2 pt2) pos) (gPar i j gs) := PS.weak (ps_par hc hN hi hj hij hx hy ha hw hs) fun E σ H ⟨ρ, S, r, dm, q⟩ => ⟨ρ, S, r, dm, q.bind.mono fun p _ q vs H' S1 S2 o => by
  obtain ⟨ds, ρ'⟩ := p
  match ds, q, o with
  | [d, e], q, o =>
    obtain ⟨hl, q⟩ := q.ite
    obtain ⟨v, vr, T1, T2, ev, o1, ⟨u, ur, U1, U2, eu, o2, e0, m1, m2, dU⟩, k1, k2, dT⟩ := o.ow
    rw [show ur = [] from e0] at eu
    subst eu ev
    refine ⟨v, u, rfl, ?_⟩
    have r1 := o.rep.store o1 (fun b h1 h2 => o.dj b (k1 b h1) h2) hl.1
    have r2 := r1.store o2 (fun b h1 h2 => h2.elim (fun z => dT b z (m1 b h1)) fun z => o.dj b (k2 b (m1 b h1)) z) (by rw [List.length_set]; exact hl.2)
    refine q _ H' _ ((Kept.set ki).trans (Kept.set kj)) (o.st.sub fun b hb => ?_) r2
    rcases hb with hb | hb | hb
    · exact .inl (k2 b (m1 b hb))
    · exact .inl (k1 b hb)
    · exact .inr hb
  | [], q, o => exact q.elim
  | [_], q, o => exact q.elim
  | _ :: _ :: _ :: _, q, o => exact q.elim⟩
end
end DV
set_option Elab.async false
set_option linter.all false
set_option maxRecDepth 100000
set_option maxHeartbeats 1000000
/-! evaluation, more of it. -/
namespace DV
open PySem PySem.Spec PyProof.Rows L2
section
variable {α : Type} {ρ : Rho} {g h h2 : Rho → Res (D × Rho)} {d e : D} {i : Nat}
@[simp] theorem eq_i {n : Bool} {i j : Int} : oEq n (.int i) (.int j) = some (.bl (if n then !decide (i = j) else decide (i = j))) := by
  cases n <;> simp [oEq, D.flat, scal]
@[simp] theorem eq_s {n : Bool} {x y : Str} : oEq n (.str x) (.str y) = some (.bl (if n then !decide (x = y) else decide (x = y))) := by
  cases n <;> simp [oEq, D.flat, scal]
@[simp] theorem bool_bl {b : Bool} : (D.bl b).bool = some b := rfl
@[simp] theorem isN_t {n : Bool} {ds : List D} : oIsN n (.tup ds) = some (.bl n) := by cases n <;> rfl
@[simp] theorem isN_n {n : Bool} : oIsN n .non = some (.bl (!n)) := by cases n <;> rfl
@[simp] theorem isN_i {n : Bool} {i : Int} : oIsN n (.int i) = some (.bl n) := by cases n <;> rfl
@[simp] theorem isi_tup_tuple {ds : List D} : oIsi "tuple" (.tup ds) = some (.bl true) := by
  have e : kitB "tuple" "tuple" = some true := by first | rfl | decide | decide +kernel
  show (kitB "tuple" "tuple").map D.bl = _
  rw [e]
  rfl
@[simp] theorem isi_tup_int {ds : List D} : oIsi "int" (.tup ds) = some (.bl false) := by
  have e : kitB "tuple" "int" = some false := by first | rfl | decide | decide +kernel
  show (kitB "tuple" "int").map D.bl = _
  rw [e]
  rfl
@[simp] theorem isi_tup_bool {ds : List D} : oIsi "bool" (.tup ds) = some (.bl false) := by
  have e : kitB "tuple" "bool" = some false := by first | rfl | decide | decide +kernel
  show (kitB "tuple" "bool").map D.bl = _
  rw [e]
  rfl
@[simp] theorem isi_tup_str {ds : List D} : oIsi "str" (.tup ds) = some (.bl false) := by
  have e : kitB "tuple" "str" = some false := by first | rfl | decide | decide +kernel
  show (kitB "tuple" "str").map D.bl = _
  rw [e]
  rfl
@[simp] theorem isi_tup_list {ds : List D} : oIsi "list" (.tup ds) = some (.bl false) := by
  have e : kitB "tuple" "list" = some false := by first | rfl | decide | decide +kernel
  show (kitB "tuple" "list").map D.bl = _
  rw [e]
  rfl
@[simp] theorem isi_lst_tuple {ds : List D} : oIsi "tuple" (.lst ds) = some (.bl false) := by
  have e : kitB "list" "tuple" = some false := by first | rfl | decide | decide +kernel
  show (kitB "list" "tuple").map D.bl = _
  rw [e]
  rfl
@[simp] theorem isi_lst_int {ds : List D} : oIsi "int" (.lst ds) = some (.bl false) := by
  have e : kitB "list" "int" = some false := by first | rfl | decide | decide +kernel
  show (kitB "list" "int").map D.bl = _
  rw [e]
  rfl
@[simp] theorem isi_lst_bool {ds : List D} : oIsi "bool" (.lst ds) = some (.bl false) := by
  have e : kitB "list" "bool" = some false := by first | rfl | decide | decide +kernel
  show (kitB "list" "bool").map D.bl = _
  rw [e]
  rfl
@[simp] theorem isi_lst_str {ds : List D} : oIsi "str" (.lst ds) = some (.bl false) := by
  have e : kitB "list" "str" = some false := by first | rfl | decide | decide +kernel
  show (kitB "list" "str").map D.bl = _
  rw [e]
  rfl
@[simp] theorem isi_lst_list {ds : List D} : oIsi "list" (.lst ds) = some (.bl true) := by
  have e : kitB "list" "list" = some true := by first | rfl | decide | decide +kernel
  show (kitB "list" "list").map D.bl = _
  rw [e]
  rfl
@[simp] theorem isi_int_tuple {i : Int} : oIsi "tuple" (.int i) = some (.bl false) := by
  have e : kitB "int" "tuple" = some false := by first | rfl | decide | decide +kernel
  show (kitB "int" "tuple").map D.bl = _
  rw [e]
  rfl
@[simp] theorem isi_int_int {i : Int} : oIsi "int" (.int i) = some (.bl true) := by
  have e : kitB "int" "int" = some true := by first | rfl | decide | decide +kernel
  show (kitB "int" "int").map D.bl = _
  rw [e]
  rfl
@[simp] theorem isi_int_bool {i : Int} : oIsi "bool" (.int i) = some (.bl false) := by
  have e : kitB "int" "bool" = some false := by first | rfl | decide | decide +kernel
  show (kitB "int" "bool").map D.bl = _
  rw [e]
  rfl
@[simp] theorem isi_int_str {i : Int} : oIsi "str" (.int i) = some (.bl false) := by
  have e : kitB "int" "str" = some false := by first | rfl | decide | decide +kernel
  show (kitB "int" "str").map D.bl = _
  rw [e]
  rfl
@[simp] theorem isi_int_list {i : Int} : oIsi "list" (.int i) = some (.bl false) := by
  have e : kitB "int" "list" = some false := by first | rfl | decide | decide +kernel
  show (kitB "int" "list").map D.bl = _
  rw [e]
  rfl
@[simp] theorem isi_str_tuple {x : Str} : oIsi "tuple" (.str x) = some (.bl false) := by
  have e : kitB "str" "tuple" = some false := by first | rfl | decide | decide +kernel
  show (kitB "str" "tuple").map D.bl = _
  rw [e]
  rfl
@[simp] theorem isi_str_int {x : Str} : oIsi "int" (.str x) = some (.bl false) := by
  have e : kitB "str" "int" = some false := by first | rfl | decide | decide +kernel
  show (kitB "str" "int").map D.bl = _
  rw [e]
  rfl
@[simp] theorem isi_str_bool {x : Str} : oIsi "bool" (.str x) = some (.bl false) := by
  have e : kitB "str" "bool" = some false := by first | rfl | decide | decide +kernel
  show (kitB "str" "bool").map D.bl = _
  rw [e]
  rfl
@[simp] theorem isi_str_str {x : Str} : oIsi "str" (.str x) = some (.bl true) := by
  have e : kitB "str" "str" = some true := by first | rfl | decide | decide +kernel
  show (kitB "str" "str").map D.bl = _
  rw [e]
  rfl
@[simp] theorem isi_str_list {x : Str} : oIsi "list" (.str x) = some (.bl false) := by
  have e : kitB "str" "list" = some false := by first | rfl | decide | decide +kernel
  show (kitB "str" "list").map D.bl = _
  rw [e]
  rfl
@[simp] theorem isi_bl_tuple {b : Bool} : oIsi "tuple" (.bl b) = some (.bl false) := by
  have e : kitB "bool" "tuple" = some false := by first | rfl | decide | decide +kernel
  show (kitB "bool" "tuple").map D.bl = _
  rw [e]
  rfl
@[simp] theorem isi_bl_int {b : Bool} : oIsi "int" (.bl b) = some (.bl true) := by
  have e : kitB "bool" "int" = some true := by first | rfl | decide | decide +kernel
  show (kitB "bool" "int").map D.bl = _
  rw [e]
  rfl
@[simp] theorem isi_bl_bool {b : Bool} : oIsi "bool" (.bl b) = some (.bl true) := by
  have e : kitB "bool" "bool" = some true := by first | rfl | decide | decide +kernel
  show (kitB "bool" "bool").map D.bl = _
  rw [e]
  rfl
@[simp] theorem isi_bl_str {b : Bool} : oIsi "str" (.bl b) = some (.bl false) := by
  have e : kitB "bool" "str" = some false := by first | rfl | decide | decide +kernel
  show (kitB "bool" "str").map D.bl = _
  rw [e]
  rfl
@[simp] theorem isi_bl_list {b : Bool} : oIsi "list" (.bl b) = some (.bl false) := by
  have e : kitB "bool" "list" = some false := by first | rfl | decide | decide +kernel
  show (kitB "bool" "list").map D.bl = _
  rw [e]
  rfl
@[simp] theorem isi_non_tuple : oIsi "tuple" .non = some (.bl false) := by
  have e : kitB "NoneType" "tuple" = some false := by first | rfl | decide | decide +kernel
  show (kitB "NoneType" "tuple").map D.bl = _
  rw [e]
  rfl
@[simp] theorem isi_non_int : oIsi "int" .non = some (.bl false) := by
  have e : kitB "NoneType" "int" = some false := by first | rfl | decide | decide +kernel
  show (kitB "NoneType" "int").map D.bl = _
  rw [e]
  rfl
@[simp] theorem isi_non_bool : oIsi "bool" .non = some (.bl false) := by
  have e : kitB "NoneType" "bool" = some false := by first | rfl | decide | decide +kernel
  show (kitB "NoneType" "bool").map D.bl = _
  rw [e]
  rfl
@[simp] theorem isi_non_str : oIsi "str" .non = some (.bl false) := by
  have e : kitB "NoneType" "str" = some false := by first | rfl | decide | decide +kernel
  show (kitB "NoneType" "str").map D.bl = _
  rw [e]
  rfl
@[simp] theorem isi_non_list : oIsi "list" .non = some (.bl false) := by
  have e : kitB "NoneType" "list" = some false := by first | rfl | decide | decide +kernel
  show (kitB "NoneType" "list").map D.bl = _
  rw [e]
  rfl
@[simp] theorem dict_dic {ks ds : List D} : (D.dic ks ds).dict = some (ks, ds) := rfl
@[simp] theorem neg_i {i : Int} : oNeg (.int i) = some (.int (-i)) := rfl
@[simp] theorem max2_i {i j : Int} : oMax2 (.int i) (.int j) = some (.int (if j > i then j else i)) := rfl
@[simp] theorem min2_i {i j : Int} : oMin2 (.int i) (.int j) = some (.int (if j < i then j else i)) := rfl
@[simp] theorem gcd_i {i j : Int} : oGcd (.int i) (.int j) = some (.int ((Nat.gcd i.natAbs j.natAbs : Nat) : Int)) := rfl
@[simp] theorem addT_t {xs ys : List D} : oAddT (.tup xs) (.tup ys) = if D.pures xs = true ∧ D.pures ys = true ∧ xs.length + ys.length ≤ sizeLine then some (.tup (xs ++ ys)) else none := rfl
@[simp] theorem rev_l {ds : List D} : oRev (.lst ds) = if D.pures ds = true then some (.lst ds.reverse) else none := rfl
@[simp] theorem app_1 {xs : List D} : oAppend xs [d] = if xs.length < sizeLine then some (.non, xs ++ [d]) else none := rfl
@[simp] theorem ext_1 {xs ys : List D} : oExtend xs [.lst ys] = if xs.length + ys.length ≤ sizeLine ∧ D.pures ys = true then some (.non, xs ++ ys) else none := rfl
theorem pop_at {xs : List D} {i : Int} (h0 : 0 ≤ i) (h1 : i < xs.length) (h2 : xs.length ≤ sizeLine) : oPopAt xs [.int i] = some (xs[i.toNat]'(by omega), xs.eraseIdx i.toNat) := by
  have e3 : sizeLine = 16777216 := by decide
  have hx : xs[i.toNat]? = some (xs[i.toNat]'(by omega)) := List.getElem?_eq_getElem (by omega)
  unfold oPopAt
  simp only
  rw [if_pos (show Hid _ by unfold Hid; omega)]
  have hs : seqIndex? i xs.length = some i.toNat := by
    unfold seqIndex?
    first
      | (simp; omega)
      | (split <;> simp <;> omega)
  rw [hs]
  simp only [hx]
theorem pop_end {xs : List D} {x : D} : oPop (xs ++ [x]) [] = some (x, xs) := by
  unfold oPop
  simp
@[simp] theorem src_chkN {ds : List D} : Src.chk ⟨ds, none⟩ ρ = true := rfl
@[simp] theorem src_finN {ds : List D} : Src.fin ⟨ds, none⟩ ρ = ρ := rfl
noncomputable def rg2L (d : D) (q : D × Rho) : Res (Src × Rho) := match d, q.1 with
  | .int i, .int j => if Hid (-(2 ^ 62) ≤ i ∧ i < 2 ^ 62 ∧ -(2 ^ 62) ≤ j ∧ j < 2 ^ 62) then .ok (⟨rangeD i (j - i).toNat, none⟩, q.2) else .stuck
  | _, _ => .stuck
noncomputable def rg2K (h : Rho → Res (D × Rho)) (p : D × Rho) : Res (Src × Rho) := (h p.2).bind (rg2L p.1)
@[simp] theorem e_range2 : gRange2 g h ρ = (g ρ).bind (rg2K h) := Eq.trans (b := (g ρ).bind (rg2K h)) rfl rfl
@[simp] theorem rg2K_ok : rg2K h (d, ρ) = (h ρ).bind (rg2L d) := Eq.trans (b := (h ρ).bind (rg2L d)) rfl rfl
theorem rg2L_ok {i j : Int} : rg2L (.int i) (.int j, ρ) = if Hid (-(2 ^ 62) ≤ i ∧ i < 2 ^ 62 ∧ -(2 ^ 62) ≤ j ∧ j < 2 ^ 62) then .ok (⟨rangeD i (j - i).toNat, none⟩, ρ) else .stuck := rfl
noncomputable def rg3M (d e : D) (r : D × Rho) : Res (Src × Rho) := match d, e, r.1 with
  | .int i, .int j, .int k => if Hid (k = -1 ∧ -(2 ^ 62) ≤ i ∧ i < 2 ^ 62 ∧ -(2 ^ 62) ≤ j ∧ j < 2 ^ 62) then .ok (⟨downD i (i - j).toNat, none⟩, r.2) else .stuck
  | _, _, _ => .stuck
noncomputable def rg3L (h2 : Rho → Res (D × Rho)) (d : D) (q : D × Rho) : Res (Src × Rho) := (h2 q.2).bind (rg3M d q.1)
noncomputable def rg3K (h h2 : Rho → Res (D × Rho)) (p : D × Rho) : Res (Src × Rho) := (h p.2).bind (rg3L h2 p.1)
@[simp] theorem e_range3 : gRange3 g h h2 ρ = (g ρ).bind (rg3K h h2) := Eq.trans (b := (g ρ).bind (rg3K h h2)) rfl rfl
@[simp] theorem rg3K_ok : rg3K h h2 (d, ρ) = (h ρ).bind (rg3L h2 d) := rfl
@[simp] theorem rg3L_ok : rg3L h2 d (e, ρ) = (h2 ρ).bind (rg3M d e) := rfl
theorem rg3M_ok {i j k : Int} : rg3M (.int i) (.int j) (.int k, ρ) = if Hid (k = -1 ∧ -(2 ^ 62) ≤ i ∧ i < 2 ^ 62 ∧ -(2 ^ 62) ≤ j ∧ j < 2 ^ 62) then .ok (⟨downD i (i - j).toNat, none⟩, ρ) else .stuck := rfl
theorem fMul_ok {i j : Int} (h : (-(2 ^ 64) < i ∧ i < 2 ^ 64) ∨ (-(2 ^ 64) < j ∧ j < 2 ^ 64)) : fMul i j = some (i * j) := if_pos (show Hid _ from h)
theorem fDiv_ok {i j : Int} (h0 : 0 < j) (h1 : j < 1073741824) : fDiv i j = some (i / j) := if_pos (show Hid (0 < j ∧ j < 1073741824) from ⟨h0, h1⟩)
theorem fDivW_ok {i j : Int} (h0 : 0 < j) (h1 : j.natAbs.log2 < 9000) : fDivW i j = some (i / j) := if_pos (show Hid (0 < j ∧ j.natAbs.log2 < 9000) from ⟨h0, h1⟩)
theorem fMod_ok {i j : Int} (h0 : 0 < j) : fMod i j = some (i % j) := if_pos h0
theorem range1_ok {n : Int} (h0 : 0 ≤ n) (h1 : n ≤ 16777216) : oRange1 (.int n) = some (.lst (ints0 n)) := if_pos (show Hid (n ≤ 16777216 ∧ -16777216 ≤ n) from ⟨h1, by omega⟩)
theorem mulS_ok {z : Str} {n : Int} (h0 : -1000000 ≤ n) (h1 : n < 1000000) (h2 : z.length ≤ 16) : oMulS (.str z) (.int n) = some (.str (repS z n)) := if_pos (show Hid (-(2 ^ 62) ≤ n ∧ n < 1000000 ∧ z.length ≤ 16) from ⟨by omega, h1, h2⟩)
/-- ranges within a bound -/
theorem rg1_ok {n : Int} (h0 : -10000000000 ≤ n) (h1 : n ≤ 10000000000) : rg1K (.int n, ρ) = .ok (⟨rangeD 0 n.toNat, none⟩, ρ) := by
  rw [rg1K_ok, if_pos (show Hid _ by unfold Hid; omega)]
theorem rg2_ok {i j : Int} (h0 : -10000000000 ≤ i) (h1 : i ≤ 10000000000) (h2 : -10000000000 ≤ j) (h3 : j ≤ 10000000000) : rg2L (.int i) (.int j, ρ) = .ok (⟨rangeD i (j - i).toNat, none⟩, ρ) := by
  rw [rg2L_ok, if_pos (show Hid _ by unfold Hid; omega)]
theorem rg3_ok {i j : Int} (h0 : -10000000000 ≤ i) (h1 : i ≤ 10000000000) (h2 : -10000000000 ≤ j) (h3 : j ≤ 10000000000) : rg3M (.int i) (.int j) (.int (-1), ρ) = .ok (⟨downD i (i - j).toNat, none⟩, ρ) := by
  rw [rg3M_ok, if_pos (show Hid _ by unfold Hid; exact ⟨rfl, by omega⟩)]
/-- the length of a list, small -/
theorem rg1_len {n : Nat} (h1 : n ≤ 10000000) : rg1K (.int (n : Int), ρ) = .ok (⟨rangeD 0 n, none⟩, ρ) := by
  rw [rg1_ok (by omega) (by omega), Int.toNat_natCast]
def parK (i j : Nat) (p : List D × Rho) : Res (Fl × Rho) := match p.1 with
  | [d, e] => if i < p.2.length ∧ j < p.2.length then .ok (.next, (p.2.set i (some d)).set j (some e)) else .stuck
  | _ => .stuck
@[simp] theorem e_par {i j : Nat} {gs : Rho → Res (List D × Rho)} : gPar i j gs ρ = (gs ρ).bind (parK i j) := rfl
@[simp] theorem parK_ok {i j : Nat} : parK i j ([d, e], ρ) = if i < ρ.length ∧ j < ρ.length then .ok (.next, (ρ.set i (some d)).set j (some e)) else .stuck := rfl
end
end DV
set_option Elab.async false
set_option linter.all false
set_option maxRecDepth 100000
set_option maxHeartbeats 1000000
/-! the head: facts of the module, its lists left out; the law's end. -/
namespace DV
open PySem PySem.Spec PyProof.Rows L2
def isLstO : Obj → Bool
  | ⟨.type c, _, .seq _ _, _⟩ => decide (c = "list")
  | _ => false
def frN (g : Addr → Option Obj) (as : List Addr) : PySem.W.Frag := (He.frG g as).filter fun q => !isLstO q.2
theorem frN_mem {g : Addr → Option Obj} {as : List Addr} {a : Addr} {o : Obj} (h : (frN g as).lookup a = some o) : g a = some o ∧ isLstO o = false := by
  obtain ⟨h1, h2⟩ := List.mem_filter.mp (He.lookup_mem h)
  refine ⟨He.frG_mem h1, ?_⟩
  cases q : isLstO o with
  | false => rfl
  | true =>
    have h3 : (!isLstO o) = true := h2
    rw [q] at h3
    cases h3
def NoLst (K : PySem.W.Frag) : Prop := ∀ a o, K.lookup a = some o → isLstO o = false
/-- what is told of the module -/
structure SaysN (fa : List He.Fa) (fn : List He.DefD) (ex : PySem.W.Frag → Bool) (h : Heap) (K : PySem.W.Frag) : Prop where
  i : K.In h
  d : He.SaysD fa fn K
  x : ex K = true
  n : NoLst K
def obsN (n : Nat) (fa : List He.Fa) (fn : List He.DefD) (ex : PySem.W.Frag → Bool) (g : Addr → Option Obj) : He.AlD × Bool := (He.obsD fa fn (frN g (He.asD g n)), ex (frN g (He.asD g n)))
def hookN (n : Nat) (fa : List He.Fa) (fn : List He.DefD) (ex : PySem.W.Frag → Bool) : PySem.W.Hook where
  α := He.AlD × Bool
  obs := fun s => obsN n fa fn ex s.heap.get?
  val := fun _ => (He.valD fn, true)
  says := fun _ h => ∃ K : PySem.W.Frag, SaysN fa fn ex h K
  of := fun _ s e => ⟨frN s.heap.get? (He.asD s.heap.get? n), ⟨fun _ _ e => (frN_mem e).1, congrArg (fun z : He.AlD × Bool => z.1) e, congrArg (fun z : He.AlD × Bool => z.2) e, fun _ _ e => (frN_mem e).2⟩⟩
  keeps := fun _ _ _ ⟨K, c⟩ k => ⟨K, ⟨PySem.W.Frag.In.keeps c.i k, c.d, c.x, c.n⟩⟩
theorem obsN_eq {n : Nat} {fa : List He.Fa} {fn : List He.DefD} {ex : PySem.W.Frag → Bool} {g : Addr → Option Obj} {s : Shared} (h : ∀ a, g a = s.heap.get? a) : obsN n fa fn ex g = (hookN n fa fn ex).obs s := by
  have e : g = s.heap.get? := funext h
  rw [e] <;> rfl
def dfd (x : Str) (st : Stmt) : He.DefD := ⟨(x, none), x, x, defArgs st, defBody st, defScope st, [], []⟩
theorem SaysN.said {fa : List He.Fa} {fn : List He.DefD} {ex : PySem.W.Frag → Bool} {h h' : Heap} {K : PySem.W.Frag} {mg : Str → Option Value} (c : SaysN fa fn ex h K) (X : K.In h') (G : h'.Ns mainGlobals mg) (i j : Nat) {x : Str} {st : Stmt}
    (hd : fn[i]? = some (dfd x st) := by rfl) (hf : fa[j]? = some (.glo x) := by rfl) : Said K mg x st := by
  obtain ⟨fd, F⟩ := c.d.def_ i hd
  exact ⟨He.ga K x, fd, He.glo_ok X G (c.d.fact j hf), F⟩
/-- a module's tuple of ints -/
theorem SaysN.tup {fa : List He.Fa} {fn : List He.DefD} {ex : PySem.W.Frag → Bool} {h h' : Heap} {w : World} [i : KFr w] {mg : Str → Option Value} (c : SaysN fa fn ex h (KFr.kfr w)) (X : (KFr.kfr w).In h') (G : h'.Ns mainGlobals mg) (j : Nat) {x : Str} {ns : List Int}
    (ht : He.tupB (KFr.kfr w) x (ns.map .int) = true) (hf : fa[j]? = some (.glo x) := by rfl) : TupC w mg x ns := by
  refine ⟨He.ga (KFr.kfr w) x, He.glo_ok X G (c.d.fact j hf), ?_⟩
  rcases He.tupB_ok ht (fun _ => none) with z | z
  · rcases z with z | ⟨_, z⟩ <;> cases z
  · have e : (ns.map He.Dv.int).map (He.Dv.v (KFr.kfr w)) = ns.map V.int := by
      rw [List.map_map]
      rfl
    rw [e] at z
    exact z
theorem own_cells {P : Program} {w : World} [KFr w] {H : Hp} {S : AS} : ∀ ns : List Int, OwnL P w H (ns.map D.int) (ns.map V.int) S
  | [] => rfl
  | n :: ns => ⟨.int n, ns.map V.int, fun _ => False, S, rfl, rfl, own_cells ns, fun _ z => z.elim, fun _ z => z, fun _ z => z.elim⟩
/-- the end: a law whose def gives True at every script -/
theorem walk_D {l : PySem.W.OpenLaw} {n k : Nat} {q : Program} {loose : List Str} {XP : (Str → Option Value) → Heap → Prop} {YP : World → Heap → Prop} {d : DefRec} {x : Str} {g : List D → FRes}
    (hn : l.most = some n) (hn2 : n ≤ sizeLine) (hdf : d.params.defaults = []) (hr : Room k callerA)
    (hg : ∀ cs : List Int, cs.length ≤ n → Sat (g [.fro (cs.map D.int)]) fun p => p.1 = .bl true)
    (F : ∀ (w : World) (mg : Str → Option Value) (fa : Addr) (h : Heap), YP w h → h.Ns mainGlobals mg → mg d.name = some (.ref fa) →
      ∃ (_ : KFr w) (fd : FuncData), (KFr.kfr w).In h ∧ NoLst (KFr.kfr w) ∧ (∀ (s : Shared) (u : Value), BindsTo s fd ⟨[u], []⟩ [(x, u)]) ∧
        ∀ base : Heap, (KFr.kfr w).In base → base.Ns mainGlobals mg → FnD l.prog w (KFr.kfr w) mg base k fa fd [x] g) :
    PySem.W.WalkO q loose XP YP l.row.toRowW d [] (fun f vs => PySem.call f vs) := by
  refine Att.attach_call hn hdf fun w s₀ s₁ mg mb fa o pm cd doc a vs ns G Y ho hd hcd hmg hobj hints hlen hgn => ?_
  obtain ⟨iK, fd, KX, hno, hb, hF⟩ := F w mg fa _ Y G.T.g hmg
  refine law_call KX G.T.g G.T.b G.T.builtins G.T.nolimit hgn hobj hints (Nat.le_trans hlen hn2) hr hF hb (fun H hO hS => ?_) fun H e s' h => ?_
  · have hfr : ∃ ob, H a = some (.frz ob (.lst (ns.map V.int))) := by
      rcases hS with hS | ⟨ob, its, m, hl, hc, hdi, hda, _⟩
      · rcases hS with hS | hS
        · rcases hO a with z | ⟨_, _, z⟩
          · rw [z] at hS; cases hS
          · rw [z] at hS; cases hS
        · exact hS
      · have hz := hno a ob hl
        obtain ⟨oc, od, dt, osl⟩ := ob
        cases hc
        cases hda
        cases hz
    obtain ⟨ob, hfr⟩ := hfr
    obtain ⟨⟨r, os⟩, e, hr'⟩ := (hg ns hlen).get
    refine ⟨[.fro (ns.map D.int)], fun _ => False, rfl, ⟨.ref a, [], fun _ => False, fun _ => False, rfl, ⟨a, ob, ns.map V.int, rfl, hfr, own_cells ns⟩, rfl, fun _ z => z, fun _ z => z, fun _ z => z.elim⟩, fun _ z => z.elim, ?_⟩
    rw [e]
    intro v H' S1 S2 _ ow _ _
    have hr2 : r = .bl true := hr'
    subst hr2
    exact ow
  · obtain ⟨_, _, _, _, _, _, _, _, _, _, _, _, z⟩ := h
    exact z
end DV
set_option Elab.async false
set_option linter.all false
set_option maxRecDepth 100000
set_option maxHeartbeats 1000000
namespace DV
open PySem PySem.Spec PyProof.Rows L2
def Qtop (i : Nat) : Stmt := PySem.Challenge.pw_everygrown_k87_chances_of_builds.main.body.getD i (.Pass ⟨0, 0, 0, 0⟩)
section
variable {P : Program} {w : World} [KFr w] {mg : Str → Option Value} {base : Heap}
-- builtins: isinstance int bool tuple range len sum abs list sorted max str all min
/-- is_number -/
noncomputable def Qp_is_numberF : List D → FRes := gFn 1 1 [0] (gRet (gAndV (gOp1 (oIsi "int") (gVar 0)) (gOp1 oNot (gOp1 (oIsi "bool") (gVar 0)))))
theorem sc_is_number : FnScope ["thing"] ["thing"] (defScope (Qtop 6)) := ⟨rfl, rfl, rfl, by decide +kernel, rfl, by decide +kernel, by decide +kernel⟩
theorem c_is_number (B : Blt mg) (F : Said (KFr.kfr w) mg "is_number" (Qtop 6)) : Callee P w (KFr.kfr w) mg base 1 "is_number" ["thing"] Qp_is_numberF := by
  obtain ⟨f, fd, hm, F⟩ := F
  refine ⟨f, fd, hm, F.kp, F.bindsN fun _ _ _ _ _ _ us hl => (match us, hl with | [_], _ => rfl), fnD_of F sc_is_number fun cdv A outer s H E hr => ?_⟩
  have hu := hr.units
  have nd := sc_is_number.nd
  have tk := takes_of (X := cxOf (L2.CX P w) P w (KFr.kfr w) mg base ["thing"] "is_number" (defScope (Qtop 6)) f cdv A outer s H E) rfl rfl rfl rfl
  exact (sss_one (ss_ret (j_and (J.weak (j_isi rfl B.isinstance rfl B.int (by decide +kernel) (j_var (i := 0) rfl (vis_by rfl)))) (j_one (J.weak (j_not (j_isi rfl B.isinstance rfl B.bool (by decide +kernel) (j_var (i := 0) rfl (vis_by rfl)))))))))

/-- is_between -/
noncomputable def Qp_is_betweenF : List D → FRes := gFn 3 3 [0, 1, 2] (gRet (gAndV (gCall Qp_is_numberF (lLent 0 lNil)) (gChain (oCmp fLe) (oCmp fLe) (gCp (gVar 1)) (gCp (gVar 0)) (gVar 2))))
theorem sc_is_between : FnScope ["thing", "low", "high"] ["thing", "low", "high"] (defScope (Qtop 7)) := ⟨rfl, rfl, rfl, by decide +kernel, rfl, by decide +kernel, by decide +kernel⟩
theorem c_is_between (B : Blt mg) (F : Said (KFr.kfr w) mg "is_between" (Qtop 7)) (c_is_number : Callee P w (KFr.kfr w) mg base 1 "is_number" ["thing"] Qp_is_numberF) : Callee P w (KFr.kfr w) mg base 2 "is_between" ["thing", "low", "high"] Qp_is_betweenF := by
  obtain ⟨f, fd, hm, F⟩ := F
  refine ⟨f, fd, hm, F.kp, F.bindsN fun _ _ _ _ _ _ us hl => (match us, hl with | [_, _, _], _ => rfl), fnD_of F sc_is_between fun cdv A outer s H E hr => ?_⟩
  have hu := hr.units
  have nd := sc_is_between.nd
  have tk := takes_of (X := cxOf (L2.CX P w) P w (KFr.kfr w) mg base ["thing", "low", "high"] "is_between" (defScope (Qtop 7)) f cdv A outer s H E) rfl rfl rfl rfl
  exact (sss_one (ss_ret (j_and (j_callC c_is_number hr (by decide) rfl tk (jl_lent (i := 0) rfl (vis_by rfl) jl_nil) (lLent_len lNil_len)) (j_one (J.weak (j_chainLELE (J.cp (j_var (i := 1) rfl (vis_by rfl))) (J.cp (j_var (i := 0) rfl (vis_by rfl))) (j_var (i := 2) rfl (vis_by rfl))))))))

/-- arity_in -/
noncomputable def Qp_arity_inF : List D → FRes := gFn 2 4 [0, 1] (gSeq (gFor (gItemsV 0) (bTup 2 (bCons (bName 2) (bCons (bName 3) bNil))) (gIfS (gTest (gOp2 (oEq false) (gCp (gVar 2)) (gVar 1))) (gRet (gMove 3)) gNext))
    (gRet (gC .non)))
theorem sc_arity_in : FnScope ["names", "name", "known", "arity"] ["names", "name"] (defScope (Qtop 9)) := ⟨rfl, rfl, rfl, by decide +kernel, rfl, by decide +kernel, by decide +kernel⟩
theorem c_arity_in (B : Blt mg) (F : Said (KFr.kfr w) mg "arity_in" (Qtop 9)) : Callee P w (KFr.kfr w) mg base 1 "arity_in" ["names", "name"] Qp_arity_inF := by
  obtain ⟨f, fd, hm, F⟩ := F
  refine ⟨f, fd, hm, F.kp, F.bindsN fun _ _ _ _ _ _ us hl => (match us, hl with | [_, _], _ => rfl), fnD_of F sc_arity_in fun cdv A outer s H E hr => ?_⟩
  have hu := hr.units
  have nd := sc_arity_in.nd
  have tk := takes_of (X := cxOf (L2.CX P w) P w (KFr.kfr w) mg base ["names", "name", "known", "arity"] "arity_in" (defScope (Qtop 9)) f cdv A outer s H E) rfl rfl rfl rfl
  exact (sss_cons (ss_for (kq := [0, 1]) (passes_of rfl) rfl (si_name (i := 0) rfl (vis_by rfl) (List.contains_iff_mem.mp rfl)) (sg_tup rfl (sgs_cons (sg_name (i := 2) nd rfl (loc_by rfl) (nin_by rfl)) (sgs_cons (sg_name (i := 3) nd rfl (loc_by rfl) (nin_by rfl)) sgs_nil))) (sss_one (ss_if (jt_eq (J.cp (j_var (i := 2) rfl (vis_by rfl))) (j_var (i := 1) rfl (vis_by rfl))) (sss_one (ss_ret (j_move (i := 3) rfl (vis_by rfl)))) sss_nil)) (all_in rfl))
    (sss_one (ss_ret j_non)))

/-- names_of -/
noncomputable def Qp_names_ofF : List D → FRes := gFn 1 3 [0] (gRet (gOp1 oTuple (gComp (gItems (gCp (gOp2 oGet (gVar 0) (gC (.int 1))))) [1, 2] (bTup 2 (bCons (bName 1) (bCons (bName 2) bNil))) gYes (gCp (gVar 1)))))
theorem sc_names_of : FnScope ["book", "name", "arity"] ["book"] (defScope (Qtop 10)) := ⟨rfl, rfl, rfl, by decide +kernel, rfl, by decide +kernel, by decide +kernel⟩
theorem c_names_of (B : Blt mg) (F : Said (KFr.kfr w) mg "names_of" (Qtop 10)) : Callee P w (KFr.kfr w) mg base 1 "names_of" ["book"] Qp_names_ofF := by
  obtain ⟨f, fd, hm, F⟩ := F
  refine ⟨f, fd, hm, F.kp, F.bindsN fun _ _ _ _ _ _ us hl => (match us, hl with | [_], _ => rfl), fnD_of F sc_names_of fun cdv A outer s H E hr => ?_⟩
  have hu := hr.units
  have nd := sc_names_of.nd
  have tk := takes_of (X := cxOf (L2.CX P w) P w (KFr.kfr w) mg base ["book", "name", "arity"] "names_of" (defScope (Qtop 10)) f cdv A outer s H E) rfl rfl rfl rfl
  exact (sss_one (ss_ret (j_tuple rfl B.tuple (j_lc (kp := []) (own := [("name", 1), ("arity", 2)]) rfl nd (si_items (J.cp (j_get hu (j_var (i := 0) rfl (vis_by rfl)) j_int (fun _ _ => rfl)))) (blkOk_by rfl) (all_nin rfl) (fun _ _ _ _ _ => (sg_tup rfl (sgs_cons (sg_name (i := 1) nd rfl (loc_by rfl) (nin_by rfl)) (sgs_cons (sg_name (i := 2) nd rfl (loc_by rfl) (nin_by rfl)) sgs_nil)))) (fun _ _ _ _ _ => PTs.yes) (fun _ _ _ _ _ => (J.cp (j_var (i := 1) rfl (vis_by rfl))))))))

/-- arity_of -/
noncomputable def Qp_arity_ofF : List D → FRes := gFn 2 3 [0, 1] (gSeq (gSet 2 (gCall Qp_arity_inF (lOwn (gCp (gOp2 oGet (gVar 0) (gC (.int 1)))) (lLent 1 lNil))))
    (gSeq (gIfS (gTest (gOp1 (oIsN false) (gVar 2))) gStuck gNext)
    (gRet (gMove 2))))
theorem sc_arity_of : FnScope ["book", "name", "arity"] ["book", "name"] (defScope (Qtop 11)) := ⟨rfl, rfl, rfl, by decide +kernel, rfl, by decide +kernel, by decide +kernel⟩
theorem c_arity_of (B : Blt mg) (F : Said (KFr.kfr w) mg "arity_of" (Qtop 11)) (c_arity_in : Callee P w (KFr.kfr w) mg base 1 "arity_in" ["names", "name"] Qp_arity_inF) : Callee P w (KFr.kfr w) mg base 2 "arity_of" ["book", "name"] Qp_arity_ofF := by
  obtain ⟨f, fd, hm, F⟩ := F
  refine ⟨f, fd, hm, F.kp, F.bindsN fun _ _ _ _ _ _ us hl => (match us, hl with | [_, _], _ => rfl), fnD_of F sc_arity_of fun cdv A outer s H E hr => ?_⟩
  have hu := hr.units
  have nd := sc_arity_of.nd
  have tk := takes_of (X := cxOf (L2.CX P w) P w (KFr.kfr w) mg base ["book", "name", "arity"] "arity_of" (defScope (Qtop 11)) f cdv A outer s H E) rfl rfl rfl rfl
  exact (sss_cons (ss_set (i := 2) nd rfl (loc_by rfl) (nin_by rfl) (j_callC c_arity_in hr (by decide) rfl tk (jl_own (J.cp (j_get hu (j_var (i := 0) rfl (vis_by rfl)) j_int (fun _ _ => rfl))) (jl_lent (i := 1) rfl (vis_by rfl) jl_nil)) (lOwn_len (lLent_len lNil_len))))
    (sss_cons (ss_if (jt_isN (j_var (i := 2) rfl (vis_by rfl))) (sss_one ss_stuck) sss_nil)
    (sss_one (ss_ret (j_move (i := 2) rfl (vis_by rfl))))))

/-- rules_of -/
noncomputable def Qp_rules_ofF : List D → FRes := gFn 2 3 [0, 1] (gSeq (gDrop (gCall Qp_arity_ofF (lLent 0 (lLent 1 lNil))))
    (gRet (gOp1 oTuple (gComp (gRange1 (gOp1 oLen (gOp2 oGet (gVar 0) (gC (.int 2))))) [2] (bName 2) (gOneT (gTest (gOp2 (oEq false) (gCp (gOp2 oGet (gOp2 oGet (gOp2 oGet (gVar 0) (gC (.int 2))) (gCp (gVar 2))) (gC (.int 0)))) (gVar 1)))) (gCp (gVar 2))))))
theorem sc_rules_of : FnScope ["book", "name", "number"] ["book", "name"] (defScope (Qtop 12)) := ⟨rfl, rfl, rfl, by decide +kernel, rfl, by decide +kernel, by decide +kernel⟩
theorem c_rules_of (B : Blt mg) (F : Said (KFr.kfr w) mg "rules_of" (Qtop 12)) (c_arity_of : Callee P w (KFr.kfr w) mg base 2 "arity_of" ["book", "name"] Qp_arity_ofF) : Callee P w (KFr.kfr w) mg base 3 "rules_of" ["book", "name"] Qp_rules_ofF := by
  obtain ⟨f, fd, hm, F⟩ := F
  refine ⟨f, fd, hm, F.kp, F.bindsN fun _ _ _ _ _ _ us hl => (match us, hl with | [_, _], _ => rfl), fnD_of F sc_rules_of fun cdv A outer s H E hr => ?_⟩
  have hu := hr.units
  have nd := sc_rules_of.nd
  have tk := takes_of (X := cxOf (L2.CX P w) P w (KFr.kfr w) mg base ["book", "name", "number"] "rules_of" (defScope (Qtop 12)) f cdv A outer s H E) rfl rfl rfl rfl
  exact (sss_cons (ss_expr (j_callC c_arity_of hr (by decide) rfl tk (jl_lent (i := 0) rfl (vis_by rfl) (jl_lent (i := 1) rfl (vis_by rfl) jl_nil)) (lLent_len (lLent_len lNil_len))))
    (sss_one (ss_ret (j_tuple rfl B.tuple (j_lc (kp := []) (own := [("number", 2)]) rfl nd (si_range1 rfl B.range (j_len rfl B.len (j_get hu (j_var (i := 0) rfl (vis_by rfl)) j_int (fun _ _ => rfl)))) (blkOk_by rfl) (all_nin rfl) (fun _ _ _ _ _ => (sg_name (i := 2) nd rfl (loc_by rfl) (nin_by rfl))) (fun _ _ _ _ _ => (pts_one1 (jt_eq (J.cp (j_get hu (j_get hu (j_get hu (j_var (i := 0) rfl (vis_by rfl)) j_int (fun _ _ => rfl)) (J.cp (j_var (i := 2) rfl (vis_by rfl))) (fun _ _ => rfl)) j_int (fun _ _ => rfl))) (j_var (i := 1) rfl (vis_by rfl))))) (fun _ _ _ _ _ => (J.cp (j_var (i := 2) rfl (vis_by rfl)))))))))

/-- rule_at -/
noncomputable def Qp_rule_atF : List D → FRes := gFn 2 2 [0, 1] (gSeq (gIfS (gNot (gTest (gCall Qp_is_betweenF (lLent 1 (lOwn (gC (.int 0)) (lOwn (gOp2 (oInt2 fSub) (gOp1 oLen (gOp2 oGet (gVar 0) (gC (.int 2)))) (gC (.int 1))) lNil)))))) gStuck gNext)
    (gRet (gCp (gOp2 oGet (gOp2 oGet (gVar 0) (gC (.int 2))) (gCp (gVar 1))))))
theorem sc_rule_at : FnScope ["book", "number"] ["book", "number"] (defScope (Qtop 13)) := ⟨rfl, rfl, rfl, by decide +kernel, rfl, by decide +kernel, by decide +kernel⟩
theorem c_rule_at (B : Blt mg) (F : Said (KFr.kfr w) mg "rule_at" (Qtop 13)) (c_is_between : Callee P w (KFr.kfr w) mg base 2 "is_between" ["thing", "low", "high"] Qp_is_betweenF) : Callee P w (KFr.kfr w) mg base 3 "rule_at" ["book", "number"] Qp_rule_atF := by
  obtain ⟨f, fd, hm, F⟩ := F
  refine ⟨f, fd, hm, F.kp, F.bindsN fun _ _ _ _ _ _ us hl => (match us, hl with | [_, _], _ => rfl), fnD_of F sc_rule_at fun cdv A outer s H E hr => ?_⟩
  have hu := hr.units
  have nd := sc_rule_at.nd
  have tk := takes_of (X := cxOf (L2.CX P w) P w (KFr.kfr w) mg base ["book", "number"] "rule_at" (defScope (Qtop 13)) f cdv A outer s H E) rfl rfl rfl rfl
  exact (sss_cons (ss_if (jt_not (jt_val (j_callC c_is_between hr (by decide) rfl tk (jl_lent (i := 1) rfl (vis_by rfl) (jl_own j_int (jl_own (j_sub (j_len rfl B.len (j_get hu (j_var (i := 0) rfl (vis_by rfl)) j_int (fun _ _ => rfl))) j_int) jl_nil))) (lLent_len (lOwn_len (lOwn_len lNil_len)))))) (sss_one ss_stuck) sss_nil)
    (sss_one (ss_ret (J.cp (j_get hu (j_get hu (j_var (i := 0) rfl (vis_by rfl)) j_int (fun _ _ => rfl)) (J.cp (j_var (i := 1) rfl (vis_by rfl))) (fun _ _ => rfl))))))

/-- slots_of -/
noncomputable def Qp_slots_ofF : List D → FRes := gFn 2 2 [0, 1] (gRet (gOp2 oGet (gCall Qp_rule_atF (lLent 0 (lLent 1 lNil))) (gC (.int 3))))
theorem sc_slots_of : FnScope ["book", "number"] ["book", "number"] (defScope (Qtop 14)) := ⟨rfl, rfl, rfl, by decide +kernel, rfl, by decide +kernel, by decide +kernel⟩
theorem c_slots_of (B : Blt mg) (F : Said (KFr.kfr w) mg "slots_of" (Qtop 14)) (c_rule_at : Callee P w (KFr.kfr w) mg base 3 "rule_at" ["book", "number"] Qp_rule_atF) : Callee P w (KFr.kfr w) mg base 4 "slots_of" ["book", "number"] Qp_slots_ofF := by
  obtain ⟨f, fd, hm, F⟩ := F
  refine ⟨f, fd, hm, F.kp, F.bindsN fun _ _ _ _ _ _ us hl => (match us, hl with | [_, _], _ => rfl), fnD_of F sc_slots_of fun cdv A outer s H E hr => ?_⟩
  have hu := hr.units
  have nd := sc_slots_of.nd
  have tk := takes_of (X := cxOf (L2.CX P w) P w (KFr.kfr w) mg base ["book", "number"] "slots_of" (defScope (Qtop 14)) f cdv A outer s H E) rfl rfl rfl rfl
  exact (sss_one (ss_ret (j_get hu (j_callC c_rule_at hr (by decide) rfl tk (jl_lent (i := 0) rfl (vis_by rfl) (jl_lent (i := 1) rfl (vis_by rfl) jl_nil)) (lLent_len (lLent_len lNil_len))) j_int (fun _ _ => rfl))))

/-- flat -/
noncomputable def Qp_flatF : List D → FRes := gFn 1 9 [0] (gSeq (gPar 2 3 (gCons (gLst gNil) (gCons (gLst gNil) gNil)))
    (gSeq (gSet 1 (gLst (gCons (gTup (gCons (gCp (gVar 0)) (gCons (gOp1 oNeg (gC (.int 1))) gNil))) gNil)))
    (gSeq (gWhile (gTest (gOp2 (oCmp fGt) (gOp1 oLen (gVar 1)) (gC (.int 0)))) (gSeq (gAsg (bTup 2 (bCons (bName 7) (bCons (bName 8) bNil))) (gMut 1 oPop gNil))
    (gSeq (gSet 4 (gOp1 oLen (gVar 2)))
    (gSeq (gDrop (gMut 2 oAppend (gCons (gMove 7) gNil)))
    (gSeq (gDrop (gMut 3 oAppend (gCons (gLst gNil) gNil)))
    (gSeq (gIfS (gTest (gOp2 (oCmp fGe) (gCp (gVar 8)) (gC (.int 0)))) (gDrop (gMutS 3 (gCp (gVar 8)) oAppend (gCons (gCp (gVar 4)) gNil))) gNext)
    (gSeq (gSet 5 (gIf (gTest (gOp1 (oIsN false) (gVar 7))) (gTup gNil) (gCp (gOp2 oGet (gVar 7) (gOp1 oNeg (gC (.int 1)))))))
    (gFor (gRange3 (gOp2 (oInt2 fSub) (gOp1 oLen (gVar 5)) (gC (.int 1))) (gOp1 oNeg (gC (.int 1))) (gOp1 oNeg (gC (.int 1)))) (bName 6) (gDrop (gMut 1 oAppend (gCons (gTup (gCons (gCp (gOp2 oGet (gVar 5) (gCp (gVar 6)))) (gCons (gMove 4) gNil))) gNil)))))))))))
    (gRet (gTup (gCons (gMove 2) (gCons (gMove 3) gNil)))))))
theorem sc_flat : FnScope ["build", "waiting", "nodes", "below", "place", "parts", "k", "node", "above"] ["build"] (defScope (Qtop 16)) := ⟨rfl, rfl, rfl, by decide +kernel, rfl, by decide +kernel, by decide +kernel⟩
theorem c_flat (B : Blt mg) (F : Said (KFr.kfr w) mg "flat" (Qtop 16)) : Callee P w (KFr.kfr w) mg base 1 "flat" ["build"] Qp_flatF := by
  obtain ⟨f, fd, hm, F⟩ := F
  refine ⟨f, fd, hm, F.kp, F.bindsN fun _ _ _ _ _ _ us hl => (match us, hl with | [_], _ => rfl), fnD_of F sc_flat fun cdv A outer s H E hr => ?_⟩
  have hu := hr.units
  have nd := sc_flat.nd
  have tk := takes_of (X := cxOf (L2.CX P w) P w (KFr.kfr w) mg base ["build", "waiting", "nodes", "below", "place", "parts", "k", "node", "above"] "flat" (defScope (Qtop 16)) f cdv A outer s H E) rfl rfl rfl rfl
  exact (sss_cons (ss_par (i := 2) (j := 3) rfl nd rfl rfl (by decide) rfl rfl (nin_by rfl) (nin_by rfl) (ja_cons (j_lst (ja_nil (ro := true))) (ja_cons (j_lst (ja_nil (ro := true))) ja_nil)))
    (sss_cons (ss_set (i := 1) nd rfl (loc_by rfl) (nin_by rfl) (j_lst (ja_cons (j_tup (ja_cons (J.cp (j_var (i := 0) rfl (vis_by rfl))) (ja_cons (j_neg j_int) ja_nil))) ja_nil)))
    (sss_cons (ss_while (passes_of rfl) (jt_gt (j_len rfl B.len (j_var (i := 1) rfl (vis_by rfl))) j_int) (sss_cons (ss_asg (j_pop (i := 1) rfl (vis_by rfl)) (sg_tup rfl (sgs_cons (sg_name (i := 7) nd rfl (loc_by rfl) (nin_by rfl)) (sgs_cons (sg_name (i := 8) nd rfl (loc_by rfl) (nin_by rfl)) sgs_nil))))
    (sss_cons (ss_set (i := 4) nd rfl (loc_by rfl) (nin_by rfl) (j_len rfl B.len (j_var (i := 2) rfl (vis_by rfl))))
    (sss_cons (ss_expr (j_append (i := 2) rfl (vis_by rfl) (j_move (i := 7) rfl (vis_by rfl))))
    (sss_cons (ss_expr (j_append (i := 3) rfl (vis_by rfl) (j_lst (ja_nil (ro := true)))))
    (sss_cons (ss_if (jt_ge (J.cp (j_var (i := 8) rfl (vis_by rfl))) j_int) (sss_one (ss_expr (j_appendS (i := 3) hu rfl (vis_by rfl) (J.cp (j_var (i := 8) rfl (vis_by rfl))) (fun _ _ => rfl) (J.cp (j_var (i := 4) rfl (vis_by rfl)))))) sss_nil)
    (sss_cons (ss_set (i := 5) nd rfl (loc_by rfl) (nin_by rfl) (j_ifExp (jt_isN (j_var (i := 7) rfl (vis_by rfl))) (J.weak (j_tup (ja_nil (ro := true)))) (J.weak (J.cp (j_get hu (j_var (i := 7) rfl (vis_by rfl)) (j_neg j_int) (fun _ _ => rfl))))))
    (sss_one (ss_for (kq := [0]) (passes_of rfl) rfl (si_range3 rfl B.range (j_sub (j_len rfl B.len (j_var (i := 5) rfl (vis_by rfl))) j_int) (j_neg j_int) (j_neg j_int)) (sg_name (i := 6) nd rfl (loc_by rfl) (nin_by rfl)) (sss_one (ss_expr (j_append (i := 1) rfl (vis_by rfl) (j_tup (ja_cons (J.weak (J.cp (j_get hu (j_var (i := 5) rfl (vis_by rfl)) (J.cp (j_var (i := 6) rfl (vis_by rfl))) (fun _ _ => rfl)))) (ja_cons (j_move (i := 4) rfl (vis_by rfl)) ja_nil)))))) (all_in rfl))))))))))
    (sss_one (ss_ret (j_tup (ja_cons (j_move (i := 2) rfl (vis_by rfl)) (ja_cons (j_move (i := 3) rfl (vis_by rfl)) ja_nil))))))))

/-- frac -/
noncomputable def Qp_fracF : List D → FRes := gFn 2 3 [0, 1] (gSeq (gSet 2 (gOp2 oGcd (gCp (gVar 0)) (gCp (gVar 1))))
    (gSeq (gIfS (gTest (gOp2 (oCmp fLt) (gCp (gVar 1)) (gC (.int 0)))) (gSet 2 (gOp1 oNeg (gVar 2))) gNext)
    (gRet (gTup (gCons (gOp2 (oInt2 fDivW) (gCp (gVar 0)) (gVar 2)) (gCons (gOp2 (oInt2 fDivW) (gCp (gVar 1)) (gVar 2)) gNil))))))
theorem sc_frac : FnScope ["numerator", "denominator", "common"] ["numerator", "denominator"] (defScope (Qtop 20)) := ⟨rfl, rfl, rfl, by decide +kernel, rfl, by decide +kernel, by decide +kernel⟩
theorem c_frac (B : Blt mg) (F : Said (KFr.kfr w) mg "frac" (Qtop 20)) (k_gcd : mg "gcd" = some (.builtin "math.gcd")) : Callee P w (KFr.kfr w) mg base 1 "frac" ["numerator", "denominator"] Qp_fracF := by
  obtain ⟨f, fd, hm, F⟩ := F
  refine ⟨f, fd, hm, F.kp, F.bindsN fun _ _ _ _ _ _ us hl => (match us, hl with | [_, _], _ => rfl), fnD_of F sc_frac fun cdv A outer s H E hr => ?_⟩
  have hu := hr.units
  have nd := sc_frac.nd
  have tk := takes_of (X := cxOf (L2.CX P w) P w (KFr.kfr w) mg base ["numerator", "denominator", "common"] "frac" (defScope (Qtop 20)) f cdv A outer s H E) rfl rfl rfl rfl
  exact (sss_cons (ss_set (i := 2) nd rfl (loc_by rfl) (nin_by rfl) (j_gcd rfl k_gcd (J.cp (j_var (i := 0) rfl (vis_by rfl))) (J.cp (j_var (i := 1) rfl (vis_by rfl)))))
    (sss_cons (ss_if (jt_lt (J.cp (j_var (i := 1) rfl (vis_by rfl))) j_int) (sss_one (ss_set (i := 2) nd rfl (loc_by rfl) (nin_by rfl) (j_neg (j_var (i := 2) rfl (vis_by rfl))))) sss_nil)
    (sss_one (ss_ret (j_tup (ja_cons (j_divW (J.cp (j_var (i := 0) rfl (vis_by rfl))) (j_var (i := 2) rfl (vis_by rfl))) (ja_cons (j_divW (J.cp (j_var (i := 1) rfl (vis_by rfl))) (j_var (i := 2) rfl (vis_by rfl))) ja_nil)))))))

/-- plus -/
noncomputable def Qp_plusF : List D → FRes := gFn 2 2 [0, 1] (gRet (gCall Qp_fracF (lOwn (gOp2 oAdd (gOp2 (oInt2 fMul) (gCp (gOp2 oGet (gVar 0) (gC (.int 0)))) (gOp2 oGet (gVar 1) (gC (.int 1)))) (gOp2 (oInt2 fMul) (gCp (gOp2 oGet (gVar 1) (gC (.int 0)))) (gOp2 oGet (gVar 0) (gC (.int 1))))) (lOwn (gOp2 (oInt2 fMul) (gCp (gOp2 oGet (gVar 0) (gC (.int 1)))) (gOp2 oGet (gVar 1) (gC (.int 1)))) lNil))))
theorem sc_plus : FnScope ["one", "other"] ["one", "other"] (defScope (Qtop 21)) := ⟨rfl, rfl, rfl, by decide +kernel, rfl, by decide +kernel, by decide +kernel⟩
theorem c_plus (B : Blt mg) (F : Said (KFr.kfr w) mg "plus" (Qtop 21)) (c_frac : Callee P w (KFr.kfr w) mg base 1 "frac" ["numerator", "denominator"] Qp_fracF) : Callee P w (KFr.kfr w) mg base 2 "plus" ["one", "other"] Qp_plusF := by
  obtain ⟨f, fd, hm, F⟩ := F
  refine ⟨f, fd, hm, F.kp, F.bindsN fun _ _ _ _ _ _ us hl => (match us, hl with | [_, _], _ => rfl), fnD_of F sc_plus fun cdv A outer s H E hr => ?_⟩
  have hu := hr.units
  have nd := sc_plus.nd
  have tk := takes_of (X := cxOf (L2.CX P w) P w (KFr.kfr w) mg base ["one", "other"] "plus" (defScope (Qtop 21)) f cdv A outer s H E) rfl rfl rfl rfl
  exact (sss_one (ss_ret (j_callC c_frac hr (by decide) rfl tk (jl_own (j_add (j_mul (J.cp (j_get hu (j_var (i := 0) rfl (vis_by rfl)) j_int (fun _ _ => rfl))) (j_get hu (j_var (i := 1) rfl (vis_by rfl)) j_int (fun _ _ => rfl))) (j_mul (J.cp (j_get hu (j_var (i := 1) rfl (vis_by rfl)) j_int (fun _ _ => rfl))) (j_get hu (j_var (i := 0) rfl (vis_by rfl)) j_int (fun _ _ => rfl)))) (jl_own (j_mul (J.cp (j_get hu (j_var (i := 0) rfl (vis_by rfl)) j_int (fun _ _ => rfl))) (j_get hu (j_var (i := 1) rfl (vis_by rfl)) j_int (fun _ _ => rfl))) jl_nil)) (lOwn_len (lOwn_len lNil_len)))))

/-- times -/
noncomputable def Qp_timesF : List D → FRes := gFn 2 2 [0, 1] (gRet (gCall Qp_fracF (lOwn (gOp2 (oInt2 fMul) (gCp (gOp2 oGet (gVar 0) (gC (.int 0)))) (gOp2 oGet (gVar 1) (gC (.int 0)))) (lOwn (gOp2 (oInt2 fMul) (gCp (gOp2 oGet (gVar 0) (gC (.int 1)))) (gOp2 oGet (gVar 1) (gC (.int 1)))) lNil))))
theorem sc_times : FnScope ["one", "other"] ["one", "other"] (defScope (Qtop 22)) := ⟨rfl, rfl, rfl, by decide +kernel, rfl, by decide +kernel, by decide +kernel⟩
theorem c_times (B : Blt mg) (F : Said (KFr.kfr w) mg "times" (Qtop 22)) (c_frac : Callee P w (KFr.kfr w) mg base 1 "frac" ["numerator", "denominator"] Qp_fracF) : Callee P w (KFr.kfr w) mg base 2 "times" ["one", "other"] Qp_timesF := by
  obtain ⟨f, fd, hm, F⟩ := F
  refine ⟨f, fd, hm, F.kp, F.bindsN fun _ _ _ _ _ _ us hl => (match us, hl with | [_, _], _ => rfl), fnD_of F sc_times fun cdv A outer s H E hr => ?_⟩
  have hu := hr.units
  have nd := sc_times.nd
  have tk := takes_of (X := cxOf (L2.CX P w) P w (KFr.kfr w) mg base ["one", "other"] "times" (defScope (Qtop 22)) f cdv A outer s H E) rfl rfl rfl rfl
  exact (sss_one (ss_ret (j_callC c_frac hr (by decide) rfl tk (jl_own (j_mul (J.cp (j_get hu (j_var (i := 0) rfl (vis_by rfl)) j_int (fun _ _ => rfl))) (j_get hu (j_var (i := 1) rfl (vis_by rfl)) j_int (fun _ _ => rfl))) (jl_own (j_mul (J.cp (j_get hu (j_var (i := 0) rfl (vis_by rfl)) j_int (fun _ _ => rfl))) (j_get hu (j_var (i := 1) rfl (vis_by rfl)) j_int (fun _ _ => rfl))) jl_nil)) (lOwn_len (lOwn_len lNil_len)))))

/-- rule_chance -/
noncomputable def Qp_rule_chanceF : List D → FRes := gFn 3 5 [0, 1, 2] (gSeq (gSet 3 (gCall Qp_rules_ofF (lLent 0 (lOwn (gCp (gOp2 oGet (gOp2 oGet (gOp2 oGet (gVar 0) (gC (.int 2))) (gCp (gVar 2))) (gC (.int 0)))) lNil))))
    (gRet (gCall Qp_fracF (lOwn (gCp (gOp2 oGet (gVar 1) (gCp (gVar 2)))) (lOwn (gOp1 oSum (gComp (gItemsV 3) [4] (bName 4) gYes (gCp (gOp2 oGet (gVar 1) (gCp (gVar 4)))))) lNil)))))
theorem sc_rule_chance : FnScope ["book", "weights", "number", "numbers", "known"] ["book", "weights", "number"] (defScope (Qtop 24)) := ⟨rfl, rfl, rfl, by decide +kernel, rfl, by decide +kernel, by decide +kernel⟩
theorem c_rule_chance (B : Blt mg) (F : Said (KFr.kfr w) mg "rule_chance" (Qtop 24)) (c_rules_of : Callee P w (KFr.kfr w) mg base 3 "rules_of" ["book", "name"] Qp_rules_ofF) (c_frac : Callee P w (KFr.kfr w) mg base 1 "frac" ["numerator", "denominator"] Qp_fracF) : Callee P w (KFr.kfr w) mg base 4 "rule_chance" ["book", "weights", "number"] Qp_rule_chanceF := by
  obtain ⟨f, fd, hm, F⟩ := F
  refine ⟨f, fd, hm, F.kp, F.bindsN fun _ _ _ _ _ _ us hl => (match us, hl with | [_, _, _], _ => rfl), fnD_of F sc_rule_chance fun cdv A outer s H E hr => ?_⟩
  have hu := hr.units
  have nd := sc_rule_chance.nd
  have tk := takes_of (X := cxOf (L2.CX P w) P w (KFr.kfr w) mg base ["book", "weights", "number", "numbers", "known"] "rule_chance" (defScope (Qtop 24)) f cdv A outer s H E) rfl rfl rfl rfl
  exact (sss_cons (ss_set (i := 3) nd rfl (loc_by rfl) (nin_by rfl) (j_callC c_rules_of hr (by decide) rfl tk (jl_lent (i := 0) rfl (vis_by rfl) (jl_own (J.cp (j_get hu (j_get hu (j_get hu (j_var (i := 0) rfl (vis_by rfl)) j_int (fun _ _ => rfl)) (J.cp (j_var (i := 2) rfl (vis_by rfl))) (fun _ _ => rfl)) j_int (fun _ _ => rfl))) jl_nil)) (lLent_len (lOwn_len lNil_len))))
    (sss_one (ss_ret (j_callC c_frac hr (by decide) rfl tk (jl_own (J.cp (j_get hu (j_var (i := 1) rfl (vis_by rfl)) (J.cp (j_var (i := 2) rfl (vis_by rfl))) (fun _ _ => rfl))) (jl_own (j_sum rfl rfl B.sum (j_lc (kp := [3]) (own := [("known", 4)]) rfl nd (si_name (i := 3) rfl (vis_by rfl) (List.contains_iff_mem.mp rfl)) (blkOk_by rfl) (all_nin rfl) (fun _ _ _ _ _ => (sg_name (i := 4) nd rfl (loc_by rfl) (nin_by rfl))) (fun _ _ _ _ _ => PTs.yes) (fun _ _ _ _ _ => (J.cp (j_get hu (j_var (i := 1) rfl (vis_by rfl)) (J.cp (j_var (i := 4) rfl (vis_by rfl))) (fun _ _ => rfl)))))) jl_nil)) (lOwn_len (lOwn_len lNil_len))))))

/-- build_chance -/
noncomputable def Qp_build_chanceF : List D → FRes := gFn 3 5 [0, 1, 2] (gSeq (gSet 3 (gC (.tup ([1, 1].map .int))))
    (gSeq (gFor (gItems (gOp2 oGet (gCall Qp_flatF (lLent 2 lNil)) (gC (.int 0)))) (bName 4) (gSet 3 (gCall Qp_timesF (lLent 3 (lOwn (gCall Qp_rule_chanceF (lLent 0 (lLent 1 (lOwn (gCp (gOp2 oGet (gVar 4) (gC (.int 0)))) lNil)))) lNil)))))
    (gRet (gMove 3))))
theorem sc_build_chance : FnScope ["book", "weights", "build", "found", "node"] ["book", "weights", "build"] (defScope (Qtop 25)) := ⟨rfl, rfl, rfl, by decide +kernel, rfl, by decide +kernel, by decide +kernel⟩
theorem c_build_chance (B : Blt mg) (F : Said (KFr.kfr w) mg "build_chance" (Qtop 25)) (c_flat : Callee P w (KFr.kfr w) mg base 1 "flat" ["build"] Qp_flatF) (c_times : Callee P w (KFr.kfr w) mg base 2 "times" ["one", "other"] Qp_timesF) (c_rule_chance : Callee P w (KFr.kfr w) mg base 4 "rule_chance" ["book", "weights", "number"] Qp_rule_chanceF) (k_ONE : TupC w mg "ONE" [1, 1]) : Callee P w (KFr.kfr w) mg base 5 "build_chance" ["book", "weights", "build"] Qp_build_chanceF := by
  obtain ⟨f, fd, hm, F⟩ := F
  refine ⟨f, fd, hm, F.kp, F.bindsN fun _ _ _ _ _ _ us hl => (match us, hl with | [_, _, _], _ => rfl), fnD_of F sc_build_chance fun cdv A outer s H E hr => ?_⟩
  have hu := hr.units
  have nd := sc_build_chance.nd
  have tk := takes_of (X := cxOf (L2.CX P w) P w (KFr.kfr w) mg base ["book", "weights", "build", "found", "node"] "build_chance" (defScope (Qtop 25)) f cdv A outer s H E) rfl rfl rfl rfl
  exact (sss_cons (ss_set (i := 3) nd rfl (loc_by rfl) (nin_by rfl) (j_gloT rfl k_ONE))
    (sss_cons (ss_for (kq := [0, 1, 2]) (passes_of rfl) rfl (si_items (j_get hu (j_callC c_flat hr (by decide) rfl tk (jl_lent (i := 2) rfl (vis_by rfl) jl_nil) (lLent_len lNil_len)) j_int (fun _ _ => rfl))) (sg_name (i := 4) nd rfl (loc_by rfl) (nin_by rfl)) (sss_one (ss_set (i := 3) nd rfl (loc_by rfl) (nin_by rfl) (j_callC c_times hr (by decide) rfl tk (jl_lent (i := 3) rfl (vis_by rfl) (jl_own (j_callC c_rule_chance hr (by decide) rfl tk (jl_lent (i := 0) rfl (vis_by rfl) (jl_lent (i := 1) rfl (vis_by rfl) (jl_own (J.cp (j_get hu (j_var (i := 4) rfl (vis_by rfl)) j_int (fun _ _ => rfl))) jl_nil))) (lLent_len (lLent_len (lOwn_len lNil_len)))) jl_nil)) (lLent_len (lOwn_len lNil_len))))) (all_in rfl))
    (sss_one (ss_ret (j_move (i := 3) rfl (vis_by rfl))))))

/-- mean_of -/
noncomputable def Qp_mean_ofF : List D → FRes := gFn 4 8 [0, 1, 2, 3] (gSeq (gSet 4 (gC (.tup ([0, 1].map .int))))
    (gSeq (gFor (gItems (gCall Qp_rules_ofF (lLent 0 (lLent 2 lNil)))) (bName 5) (gSeq (gSet 6 (gOp1 oLen (gComp (gItems (gCall Qp_slots_ofF (lLent 0 (lLent 5 lNil)))) [7] (bName 7) (gOneT (gTest (gOp2 (oEq false) (gCp (gOp2 oGet (gVar 7) (gC (.int 0)))) (gVar 3)))) (gCp (gVar 7)))))
    (gSet 4 (gCall Qp_plusF (lLent 4 (lOwn (gCall Qp_timesF (lOwn (gCall Qp_rule_chanceF (lLent 0 (lLent 1 (lLent 5 lNil)))) (lOwn (gCall Qp_fracF (lLent 6 (lOwn (gC (.int 1)) lNil))) lNil))) lNil))))))
    (gRet (gMove 4))))
theorem sc_mean_of : FnScope ["book", "weights", "name", "other", "found", "number", "many", "slot"] ["book", "weights", "name", "other"] (defScope (Qtop 26)) := ⟨rfl, rfl, rfl, by decide +kernel, rfl, by decide +kernel, by decide +kernel⟩
theorem c_mean_of (B : Blt mg) (F : Said (KFr.kfr w) mg "mean_of" (Qtop 26)) (c_rules_of : Callee P w (KFr.kfr w) mg base 3 "rules_of" ["book", "name"] Qp_rules_ofF) (c_slots_of : Callee P w (KFr.kfr w) mg base 4 "slots_of" ["book", "number"] Qp_slots_ofF) (c_plus : Callee P w (KFr.kfr w) mg base 2 "plus" ["one", "other"] Qp_plusF) (c_times : Callee P w (KFr.kfr w) mg base 2 "times" ["one", "other"] Qp_timesF) (c_frac : Callee P w (KFr.kfr w) mg base 1 "frac" ["numerator", "denominator"] Qp_fracF) (c_rule_chance : Callee P w (KFr.kfr w) mg base 4 "rule_chance" ["book", "weights", "number"] Qp_rule_chanceF) (k_ZERO : TupC w mg "ZERO" [0, 1]) : Callee P w (KFr.kfr w) mg base 5 "mean_of" ["book", "weights", "name", "other"] Qp_mean_ofF := by
  obtain ⟨f, fd, hm, F⟩ := F
  refine ⟨f, fd, hm, F.kp, F.bindsN fun _ _ _ _ _ _ us hl => (match us, hl with | [_, _, _, _], _ => rfl), fnD_of F sc_mean_of fun cdv A outer s H E hr => ?_⟩
  have hu := hr.units
  have nd := sc_mean_of.nd
  have tk := takes_of (X := cxOf (L2.CX P w) P w (KFr.kfr w) mg base ["book", "weights", "name", "other", "found", "number", "many", "slot"] "mean_of" (defScope (Qtop 26)) f cdv A outer s H E) rfl rfl rfl rfl
  exact (sss_cons (ss_set (i := 4) nd rfl (loc_by rfl) (nin_by rfl) (j_gloT rfl k_ZERO))
    (sss_cons (ss_for (kq := [0, 1, 2, 3]) (passes_of rfl) rfl (si_items (j_callC c_rules_of hr (by decide) rfl tk (jl_lent (i := 0) rfl (vis_by rfl) (jl_lent (i := 2) rfl (vis_by rfl) jl_nil)) (lLent_len (lLent_len lNil_len)))) (sg_name (i := 5) nd rfl (loc_by rfl) (nin_by rfl)) (sss_cons (ss_set (i := 6) nd rfl (loc_by rfl) (nin_by rfl) (j_len rfl B.len (j_lc (kp := []) (own := [("slot", 7)]) rfl nd (si_items (j_callC c_slots_of hr (by decide) rfl tk (jl_lent (i := 0) rfl (vis_by rfl) (jl_lent (i := 5) rfl (vis_by rfl) jl_nil)) (lLent_len (lLent_len lNil_len)))) (blkOk_by rfl) (all_nin rfl) (fun _ _ _ _ _ => (sg_name (i := 7) nd rfl (loc_by rfl) (nin_by rfl))) (fun _ _ _ _ _ => (pts_one1 (jt_eq (J.cp (j_get hu (j_var (i := 7) rfl (vis_by rfl)) j_int (fun _ _ => rfl))) (j_var (i := 3) rfl (vis_by rfl))))) (fun _ _ _ _ _ => (J.cp (j_var (i := 7) rfl (vis_by rfl)))))))
    (sss_one (ss_set (i := 4) nd rfl (loc_by rfl) (nin_by rfl) (j_callC c_plus hr (by decide) rfl tk (jl_lent (i := 4) rfl (vis_by rfl) (jl_own (j_callC c_times hr (by decide) rfl tk (jl_own (j_callC c_rule_chance hr (by decide) rfl tk (jl_lent (i := 0) rfl (vis_by rfl) (jl_lent (i := 1) rfl (vis_by rfl) (jl_lent (i := 5) rfl (vis_by rfl) jl_nil))) (lLent_len (lLent_len (lLent_len lNil_len)))) (jl_own (j_callC c_frac hr (by decide) rfl tk (jl_lent (i := 6) rfl (vis_by rfl) (jl_own j_int jl_nil)) (lLent_len (lOwn_len lNil_len))) jl_nil)) (lOwn_len (lOwn_len lNil_len))) jl_nil)) (lLent_len (lOwn_len lNil_len)))))) (all_in rfl))
    (sss_one (ss_ret (j_move (i := 4) rfl (vis_by rfl))))))

/-- means -/
noncomputable def Qp_meansF : List D → FRes := gFn 2 5 [0, 1] (gSeq (gSet 2 (gCall Qp_names_ofF (lLent 0 lNil)))
    (gRet (gOp1 oTuple (gComp (gItemsV 2) [3] (bName 3) gYes (gOp1 oTuple (gComp (gItemsV 2) [4] (bName 4) gYes (gCall Qp_mean_ofF (lLent 0 (lLent 1 (lLent 3 (lLent 4 lNil)))))))))))
theorem sc_means : FnScope ["book", "weights", "names", "name", "other"] ["book", "weights"] (defScope (Qtop 27)) := ⟨rfl, rfl, rfl, by decide +kernel, rfl, by decide +kernel, by decide +kernel⟩
theorem c_means (B : Blt mg) (F : Said (KFr.kfr w) mg "means" (Qtop 27)) (c_names_of : Callee P w (KFr.kfr w) mg base 1 "names_of" ["book"] Qp_names_ofF) (c_mean_of : Callee P w (KFr.kfr w) mg base 5 "mean_of" ["book", "weights", "name", "other"] Qp_mean_ofF) : Callee P w (KFr.kfr w) mg base 6 "means" ["book", "weights"] Qp_meansF := by
  obtain ⟨f, fd, hm, F⟩ := F
  refine ⟨f, fd, hm, F.kp, F.bindsN fun _ _ _ _ _ _ us hl => (match us, hl with | [_, _], _ => rfl), fnD_of F sc_means fun cdv A outer s H E hr => ?_⟩
  have hu := hr.units
  have nd := sc_means.nd
  have tk := takes_of (X := cxOf (L2.CX P w) P w (KFr.kfr w) mg base ["book", "weights", "names", "name", "other"] "means" (defScope (Qtop 27)) f cdv A outer s H E) rfl rfl rfl rfl
  exact (sss_cons (ss_set (i := 2) nd rfl (loc_by rfl) (nin_by rfl) (j_callC c_names_of hr (by decide) rfl tk (jl_lent (i := 0) rfl (vis_by rfl) jl_nil) (lLent_len lNil_len)))
    (sss_one (ss_ret (j_tuple rfl B.tuple (j_lc (kp := [2]) (own := [("name", 3)]) rfl nd (si_name (i := 2) rfl (vis_by rfl) (List.contains_iff_mem.mp rfl)) (blkOk_by rfl) (all_nin rfl) (fun _ _ _ _ _ => (sg_name (i := 3) nd rfl (loc_by rfl) (nin_by rfl))) (fun _ _ _ _ _ => PTs.yes) (fun _ _ _ _ _ => (j_tuple rfl B.tuple (j_lc (kp := [2]) (own := [("other", 4)]) rfl nd (si_name (i := 2) rfl (vis_by rfl) (List.contains_iff_mem.mp rfl)) (blkOk_by rfl) (all_nin rfl) (fun _ _ _ _ _ => (sg_name (i := 4) nd rfl (loc_by rfl) (nin_by rfl))) (fun _ _ _ _ _ => PTs.yes) (fun _ _ _ _ _ => (j_callC c_mean_of hr (by decide) rfl takes0 (jl_lent (i := 0) rfl (vis_by rfl) (jl_lent (i := 1) rfl (vis_by rfl) (jl_lent (i := 3) rfl (vis_by rfl) (jl_lent (i := 4) rfl (vis_by rfl) jl_nil)))) (lLent_len (lLent_len (lLent_len (lLent_len lNil_len))))))))))))))

/-- _law_begin -/
noncomputable def QbeginF : List D → FRes := gFn 1 2 [0] (gRet (gLst (gCons (gComp (gItemsV 0) [1] (bName 1) gYes (gOp1 oInt (gVar 1))) (gCons (gC (.int 0)) (gCons (gC (.int 0)) (gCons (gC (.int 5)) gNil))))))
theorem sc__law_begin : FnScope ["script", "cell"] ["script"] (defScope (Qtop 29)) := ⟨rfl, rfl, rfl, by decide +kernel, rfl, by decide +kernel, by decide +kernel⟩
theorem c__law_begin (B : Blt mg) (F : Said (KFr.kfr w) mg "_law_begin" (Qtop 29)) : Callee P w (KFr.kfr w) mg base 1 "_law_begin" ["script"] QbeginF := by
  obtain ⟨f, fd, hm, F⟩ := F
  refine ⟨f, fd, hm, F.kp, F.bindsN fun _ _ _ _ _ _ us hl => (match us, hl with | [_], _ => rfl), fnD_of F sc__law_begin fun cdv A outer s H E hr => ?_⟩
  have hu := hr.units
  have nd := sc__law_begin.nd
  have tk := takes_of (X := cxOf (L2.CX P w) P w (KFr.kfr w) mg base ["script", "cell"] "_law_begin" (defScope (Qtop 29)) f cdv A outer s H E) rfl rfl rfl rfl
  exact (sss_one (ss_ret (j_lst (ja_cons (j_lc (kp := [0]) (own := [("cell", 1)]) rfl nd (si_name (i := 0) rfl (vis_by rfl) (List.contains_iff_mem.mp rfl)) (blkOk_by rfl) (all_nin rfl) (fun _ _ _ _ _ => (sg_name (i := 1) nd rfl (loc_by rfl) (nin_by rfl))) (fun _ _ _ _ _ => PTs.yes) (fun _ _ _ _ _ => (j_int1 rfl B.int (j_var (i := 1) rfl (vis_by rfl))))) (ja_cons (J.weak j_int) (ja_cons (J.weak j_int) (ja_cons (J.weak j_int) ja_nil)))))))

/-- _law_draw -/
noncomputable def QdrawF : List D → FRes := gFn 2 5 [0, 1] (gSeq (gIfS (gTest (gOp2 (oCmp fGt) (gCp (gOp2 oGet (gVar 0) (gC (.int 2)))) (gC (.int 0)))) (gSeq (gSet 3 (gCp (gOp2 oGet (gVar 0) (gC (.int 2)))))
    (gSeq (gStore 0 (gC (.int 2)) (gOp2 (oInt2 fDiv) (gCp (gVar 3)) (gVar 1)))
    (gRet (gOp2 (oInt2 fMod) (gOp1 oInt (gVar 3)) (gVar 1))))) gNext)
    (gSeq (gSet 2 (gC (.int 0)))
    (gSeq (gIfS (gTest (gOp2 (oCmp fLt) (gCp (gOp2 oGet (gVar 0) (gC (.int 1)))) (gOp1 oLen (gOp2 oGet (gVar 0) (gC (.int 0)))))) (gSeq (gSet 4 (gCp (gOp2 oGet (gOp2 oGet (gVar 0) (gC (.int 0))) (gCp (gOp2 oGet (gVar 0) (gC (.int 1)))))))
    (gSet 2 (gOp2 oAdd (gOp2 (oInt2 fMul) (gC (.int 2)) (gOp1 oAbs (gVar 4))) (gOp1 oInt (gOp2 (oCmp fLt) (gCp (gVar 4)) (gC (.int 0))))))) gNext)
    (gSeq (gAugS 0 (fun a b => a + b) 1 (gC (.int 1)))
    (gSeq (gIfS (gTest (gOp2 (oCmp fGe) (gCp (gVar 2)) (gOp2 (oInt2 fMul) (gC (.int 2)) (gOp2 (oInt2 fPow) (gC (.int 10)) (gC (.int 18)))))) (gSeq (gSet 3 (gOp2 (oInt2 fMod) (gOp1 oInt (gOp2 (oInt2 fDiv) (gCp (gVar 2)) (gC (.int 2)))) (gOp2 (oInt2 fShl) (gC (.int 1)) (gC (.int 6000)))))
    (gSeq (gStore 0 (gC (.int 2)) (gOp2 (oInt2 fDiv) (gCp (gVar 3)) (gVar 1)))
    (gRet (gOp2 (oInt2 fMod) (gOp1 oInt (gVar 3)) (gVar 1))))) gNext)
    (gSeq (gStore 0 (gC (.int 3)) (gOp2 (oInt2 fMod) (gOp1 oInt (gOp2 oAdd (gOp2 oAdd (gOp2 oAdd (gOp2 (oInt2 fMul) (gCp (gOp2 oGet (gVar 0) (gC (.int 3)))) (gC (.int 48271))) (gOp2 (oInt2 fMul) (gOp2 (oInt2 fMod) (gOp1 oInt (gVar 2)) (gC (.int 2147483629))) (gC (.int 16807)))) (gOp2 (oInt2 fMul) (gCp (gOp2 oGet (gVar 0) (gC (.int 1)))) (gC (.int 69621)))) (gC (.int 11)))) (gC (.int 2147483647))))
    (gRet (gOp2 (oInt2 fMod) (gOp1 oInt (gOp2 (oInt2 fDiv) (gCp (gOp2 oGet (gVar 0) (gC (.int 3)))) (gC (.int 16)))) (gVar 1)))))))))
theorem sc__law_draw : FnScope ["d", "many", "size", "found", "cell"] ["d", "many"] (defScope (Qtop 30)) := ⟨rfl, rfl, rfl, by decide +kernel, rfl, by decide +kernel, by decide +kernel⟩
theorem c__law_draw (B : Blt mg) (F : Said (KFr.kfr w) mg "_law_draw" (Qtop 30)) : Callee P w (KFr.kfr w) mg base 1 "_law_draw" ["d", "many"] QdrawF := by
  obtain ⟨f, fd, hm, F⟩ := F
  refine ⟨f, fd, hm, F.kp, F.bindsN fun _ _ _ _ _ _ us hl => (match us, hl with | [_, _], _ => rfl), fnD_of F sc__law_draw fun cdv A outer s H E hr => ?_⟩
  have hu := hr.units
  have nd := sc__law_draw.nd
  have tk := takes_of (X := cxOf (L2.CX P w) P w (KFr.kfr w) mg base ["d", "many", "size", "found", "cell"] "_law_draw" (defScope (Qtop 30)) f cdv A outer s H E) rfl rfl rfl rfl
  exact (sss_cons (ss_if (jt_gt (J.cp (j_get hu (j_var (i := 0) rfl (vis_by rfl)) j_int (fun _ _ => rfl))) j_int) (sss_cons (ss_set (i := 3) nd rfl (loc_by rfl) (nin_by rfl) (J.cp (j_get hu (j_var (i := 0) rfl (vis_by rfl)) j_int (fun _ _ => rfl))))
    (sss_cons (ss_store (i := 0) hu rfl (vis_by rfl) (j_div (J.cp (j_var (i := 3) rfl (vis_by rfl))) (j_var (i := 1) rfl (vis_by rfl))) j_int)
    (sss_one (ss_ret (j_mod (j_int1 rfl B.int (j_var (i := 3) rfl (vis_by rfl))) (j_var (i := 1) rfl (vis_by rfl))))))) sss_nil)
    (sss_cons (ss_set (i := 2) nd rfl (loc_by rfl) (nin_by rfl) j_int)
    (sss_cons (ss_if (jt_lt (J.cp (j_get hu (j_var (i := 0) rfl (vis_by rfl)) j_int (fun _ _ => rfl))) (j_len rfl B.len (j_get hu (j_var (i := 0) rfl (vis_by rfl)) j_int (fun _ _ => rfl)))) (sss_cons (ss_set (i := 4) nd rfl (loc_by rfl) (nin_by rfl) (J.cp (j_get hu (j_get hu (j_var (i := 0) rfl (vis_by rfl)) j_int (fun _ _ => rfl)) (J.cp (j_get hu (j_var (i := 0) rfl (vis_by rfl)) j_int (fun _ _ => rfl))) (fun _ _ => rfl))))
    (sss_one (ss_set (i := 2) nd rfl (loc_by rfl) (nin_by rfl) (j_add (j_mul j_int (j_abs rfl B.abs (j_var (i := 4) rfl (vis_by rfl)))) (j_int1 rfl B.int (j_lt (J.cp (j_var (i := 4) rfl (vis_by rfl))) j_int)))))) sss_nil)
    (sss_cons (ss_augS (i := 0) (j := 1) ip_add rfl (vis_by rfl) j_int)
    (sss_cons (ss_if (jt_ge (J.cp (j_var (i := 2) rfl (vis_by rfl))) (j_mul j_int (j_pow j_int j_int))) (sss_cons (ss_set (i := 3) nd rfl (loc_by rfl) (nin_by rfl) (j_mod (j_int1 rfl B.int (j_div (J.cp (j_var (i := 2) rfl (vis_by rfl))) j_int)) (j_shl j_int j_int)))
    (sss_cons (ss_store (i := 0) hu rfl (vis_by rfl) (j_div (J.cp (j_var (i := 3) rfl (vis_by rfl))) (j_var (i := 1) rfl (vis_by rfl))) j_int)
    (sss_one (ss_ret (j_mod (j_int1 rfl B.int (j_var (i := 3) rfl (vis_by rfl))) (j_var (i := 1) rfl (vis_by rfl))))))) sss_nil)
    (sss_cons (ss_store (i := 0) hu rfl (vis_by rfl) (j_mod (j_int1 rfl B.int (j_add (j_add (j_add (j_mul (J.cp (j_get hu (j_var (i := 0) rfl (vis_by rfl)) j_int (fun _ _ => rfl))) j_int) (j_mul (j_mod (j_int1 rfl B.int (j_var (i := 2) rfl (vis_by rfl))) j_int) j_int)) (j_mul (J.cp (j_get hu (j_var (i := 0) rfl (vis_by rfl)) j_int (fun _ _ => rfl))) j_int)) j_int)) j_int) j_int)
    (sss_one (ss_ret (j_mod (j_int1 rfl B.int (j_div (J.cp (j_get hu (j_var (i := 0) rfl (vis_by rfl)) j_int (fun _ _ => rfl))) j_int)) (j_var (i := 1) rfl (vis_by rfl)))))))))))

/-- _law_pick -/
noncomputable def QpickF : List D → FRes := gFn 2 2 [0, 1] (gRet (gCp (gOpV oGet 1 (gCall QdrawF (lLent 0 (lOwn (gOp1 oLen (gVar 1)) lNil))))))
theorem sc__law_pick : FnScope ["d", "row"] ["d", "row"] (defScope (Qtop 31)) := ⟨rfl, rfl, rfl, by decide +kernel, rfl, by decide +kernel, by decide +kernel⟩
theorem c__law_pick (B : Blt mg) (F : Said (KFr.kfr w) mg "_law_pick" (Qtop 31)) (c__law_draw : Callee P w (KFr.kfr w) mg base 1 "_law_draw" ["d", "many"] QdrawF) : Callee P w (KFr.kfr w) mg base 2 "_law_pick" ["d", "row"] QpickF := by
  obtain ⟨f, fd, hm, F⟩ := F
  refine ⟨f, fd, hm, F.kp, F.bindsN fun _ _ _ _ _ _ us hl => (match us, hl with | [_, _], _ => rfl), fnD_of F sc__law_pick fun cdv A outer s H E hr => ?_⟩
  have hu := hr.units
  have nd := sc__law_pick.nd
  have tk := takes_of (X := cxOf (L2.CX P w) P w (KFr.kfr w) mg base ["d", "row"] "_law_pick" (defScope (Qtop 31)) f cdv A outer s H E) rfl rfl rfl rfl
  exact (sss_one (ss_ret (J.cp (j_getV (i := 1) hu rfl (vis_by rfl) (j_callC c__law_draw hr (by decide) rfl tk (jl_lent (i := 0) rfl (vis_by rfl) (jl_own (j_len rfl B.len (j_var (i := 1) rfl (vis_by rfl))) jl_nil)) (lLent_len (lOwn_len lNil_len))) (fun _ _ => rfl)))))

/-- _law_rare -/
noncomputable def QrareF : List D → FRes := gFn 2 2 [0, 1] (gRet (gOp2 (oEq false) (gCall QdrawF (lLent 0 (lLent 1 lNil))) (gOp2 (oInt2 fDiv) (gCp (gVar 1)) (gC (.int 2)))))
theorem sc__law_rare : FnScope ["d", "many"] ["d", "many"] (defScope (Qtop 32)) := ⟨rfl, rfl, rfl, by decide +kernel, rfl, by decide +kernel, by decide +kernel⟩
theorem c__law_rare (B : Blt mg) (F : Said (KFr.kfr w) mg "_law_rare" (Qtop 32)) (c__law_draw : Callee P w (KFr.kfr w) mg base 1 "_law_draw" ["d", "many"] QdrawF) : Callee P w (KFr.kfr w) mg base 2 "_law_rare" ["d", "many"] QrareF := by
  obtain ⟨f, fd, hm, F⟩ := F
  refine ⟨f, fd, hm, F.kp, F.bindsN fun _ _ _ _ _ _ us hl => (match us, hl with | [_, _], _ => rfl), fnD_of F sc__law_rare fun cdv A outer s H E hr => ?_⟩
  have hu := hr.units
  have nd := sc__law_rare.nd
  have tk := takes_of (X := cxOf (L2.CX P w) P w (KFr.kfr w) mg base ["d", "many"] "_law_rare" (defScope (Qtop 32)) f cdv A outer s H E) rfl rfl rfl rfl
  exact (sss_one (ss_ret (j_eq (j_callC c__law_draw hr (by decide) rfl tk (jl_lent (i := 0) rfl (vis_by rfl) (jl_lent (i := 1) rfl (vis_by rfl) jl_nil)) (lLent_len (lLent_len lNil_len))) (J.weak (j_div (J.cp (j_var (i := 1) rfl (vis_by rfl))) j_int)))))

/-- _law_shuffled -/
noncomputable def QshuffledF : List D → FRes := gFn 2 5 [0, 1] (gSeq (gSet 2 (gOp1 oList (gVar 1)))
    (gSeq (gSet 3 (gLst gNil))
    (gSeq (gFor (gRange1 (gOp1 oLen (gVar 2))) (bName 4) (gDrop (gMut 3 oAppend (gCons (gMut 2 oPopAt (gCons (gCall QdrawF (lLent 0 (lOwn (gOp1 oLen (gVar 2)) lNil))) gNil)) gNil))))
    (gRet (gMove 3)))))
theorem sc__law_shuffled : FnScope ["d", "row", "left", "found", "k"] ["d", "row"] (defScope (Qtop 33)) := ⟨rfl, rfl, rfl, by decide +kernel, rfl, by decide +kernel, by decide +kernel⟩
theorem c__law_shuffled (B : Blt mg) (F : Said (KFr.kfr w) mg "_law_shuffled" (Qtop 33)) (c__law_draw : Callee P w (KFr.kfr w) mg base 1 "_law_draw" ["d", "many"] QdrawF) : Callee P w (KFr.kfr w) mg base 2 "_law_shuffled" ["d", "row"] QshuffledF := by
  obtain ⟨f, fd, hm, F⟩ := F
  refine ⟨f, fd, hm, F.kp, F.bindsN fun _ _ _ _ _ _ us hl => (match us, hl with | [_, _], _ => rfl), fnD_of F sc__law_shuffled fun cdv A outer s H E hr => ?_⟩
  have hu := hr.units
  have nd := sc__law_shuffled.nd
  have tk := takes_of (X := cxOf (L2.CX P w) P w (KFr.kfr w) mg base ["d", "row", "left", "found", "k"] "_law_shuffled" (defScope (Qtop 33)) f cdv A outer s H E) rfl rfl rfl rfl
  exact (sss_cons (ss_set (i := 2) nd rfl (loc_by rfl) (nin_by rfl) (j_list rfl rfl B.list (j_var (i := 1) rfl (vis_by rfl))))
    (sss_cons (ss_set (i := 3) nd rfl (loc_by rfl) (nin_by rfl) (j_lst (ja_nil (ro := true))))
    (sss_cons (ss_for (kq := [0, 1]) (passes_of rfl) rfl (si_range1 rfl B.range (j_len rfl B.len (j_var (i := 2) rfl (vis_by rfl)))) (sg_name (i := 4) nd rfl (loc_by rfl) (nin_by rfl)) (sss_one (ss_expr (j_append (i := 3) rfl (vis_by rfl) (j_popAt (i := 2) rfl (vis_by rfl) (j_callC c__law_draw hr (by decide) rfl tk (jl_lent (i := 0) rfl (vis_by rfl) (jl_own (j_len rfl B.len (j_var (i := 2) rfl (vis_by rfl))) jl_nil)) (lLent_len (lOwn_len lNil_len))))))) (all_in rfl))
    (sss_one (ss_ret (j_move (i := 3) rfl (vis_by rfl)))))))

/-- _law_some -/
noncomputable def QsomeF : List D → FRes := gFn 3 3 [0, 1, 2] (gRet (gSl (gCall QshuffledF (lLent 0 (lLent 1 lNil))) gPN (gPS (gCp (gVar 2)))))
theorem sc__law_some : FnScope ["d", "row", "many"] ["d", "row", "many"] (defScope (Qtop 34)) := ⟨rfl, rfl, rfl, by decide +kernel, rfl, by decide +kernel, by decide +kernel⟩
theorem c__law_some (B : Blt mg) (F : Said (KFr.kfr w) mg "_law_some" (Qtop 34)) (c__law_shuffled : Callee P w (KFr.kfr w) mg base 2 "_law_shuffled" ["d", "row"] QshuffledF) : Callee P w (KFr.kfr w) mg base 3 "_law_some" ["d", "row", "many"] QsomeF := by
  obtain ⟨f, fd, hm, F⟩ := F
  refine ⟨f, fd, hm, F.kp, F.bindsN fun _ _ _ _ _ _ us hl => (match us, hl with | [_, _, _], _ => rfl), fnD_of F sc__law_some fun cdv A outer s H E hr => ?_⟩
  have hu := hr.units
  have nd := sc__law_some.nd
  have tk := takes_of (X := cxOf (L2.CX P w) P w (KFr.kfr w) mg base ["d", "row", "many"] "_law_some" (defScope (Qtop 34)) f cdv A outer s H E) rfl rfl rfl rfl
  exact (sss_one (ss_ret (j_slR (j_callC c__law_shuffled hr (by decide) rfl tk (jl_lent (i := 0) rfl (vis_by rfl) (jl_lent (i := 1) rfl (vis_by rfl) jl_nil)) (lLent_len (lLent_len lNil_len))) jo_none (jo_some (J.cp (j_var (i := 2) rfl (vis_by rfl)))))))

/-- _law_is_int -/
noncomputable def Qis_intF : List D → FRes := gFn 1 1 [0] (gRet (gAndV (gOp1 (oIsi "int") (gVar 0)) (gOp1 oNot (gOp1 (oIsi "bool") (gVar 0)))))
theorem sc__law_is_int : FnScope ["thing"] ["thing"] (defScope (Qtop 35)) := ⟨rfl, rfl, rfl, by decide +kernel, rfl, by decide +kernel, by decide +kernel⟩
theorem c__law_is_int (B : Blt mg) (F : Said (KFr.kfr w) mg "_law_is_int" (Qtop 35)) : Callee P w (KFr.kfr w) mg base 1 "_law_is_int" ["thing"] Qis_intF := by
  obtain ⟨f, fd, hm, F⟩ := F
  refine ⟨f, fd, hm, F.kp, F.bindsN fun _ _ _ _ _ _ us hl => (match us, hl with | [_], _ => rfl), fnD_of F sc__law_is_int fun cdv A outer s H E hr => ?_⟩
  have hu := hr.units
  have nd := sc__law_is_int.nd
  have tk := takes_of (X := cxOf (L2.CX P w) P w (KFr.kfr w) mg base ["thing"] "_law_is_int" (defScope (Qtop 35)) f cdv A outer s H E) rfl rfl rfl rfl
  exact (sss_one (ss_ret (j_and (J.weak (j_isi rfl B.isinstance rfl B.int (by decide +kernel) (j_var (i := 0) rfl (vis_by rfl)))) (j_one (J.weak (j_not (j_isi rfl B.isinstance rfl B.bool (by decide +kernel) (j_var (i := 0) rfl (vis_by rfl)))))))))

/-- _law_gcd -/
noncomputable def QgcdF : List D → FRes := gFn 2 2 [] (gSeq (gPar 0 1 (gCons (gOp1 oAbs (gVar 0)) (gCons (gOp1 oAbs (gVar 1)) gNil)))
    (gSeq (gWhile (gTest (gOp2 (oEq true) (gCp (gVar 1)) (gC (.int 0)))) (gPar 0 1 (gCons (gMove 1) (gCons (gOp2 (oInt2 fMod) (gOp1 oInt (gVar 0)) (gVar 1)) gNil))))
    (gRet (gMove 0))))
theorem sc__law_gcd : FnScope ["a", "b"] ["a", "b"] (defScope (Qtop 36)) := ⟨rfl, rfl, rfl, by decide +kernel, rfl, by decide +kernel, by decide +kernel⟩
theorem c__law_gcd (B : Blt mg) (F : Said (KFr.kfr w) mg "_law_gcd" (Qtop 36)) : Callee P w (KFr.kfr w) mg base 1 "_law_gcd" ["a", "b"] QgcdF := by
  obtain ⟨f, fd, hm, F⟩ := F
  refine ⟨f, fd, hm, F.kp, F.bindsN fun _ _ _ _ _ _ us hl => (match us, hl with | [_, _], _ => rfl), fnD_of F sc__law_gcd fun cdv A outer s H E hr => ?_⟩
  have hu := hr.units
  have nd := sc__law_gcd.nd
  have tk := takes_of (X := cxOf (L2.CX P w) P w (KFr.kfr w) mg base ["a", "b"] "_law_gcd" (defScope (Qtop 36)) f cdv A outer s H E) rfl rfl rfl rfl
  exact (sss_cons (ss_par (i := 0) (j := 1) rfl nd rfl rfl (by decide) rfl rfl (nin_by rfl) (nin_by rfl) (ja_cons (j_abs rfl B.abs (j_var (i := 0) rfl (vis_by rfl))) (ja_cons (j_abs rfl B.abs (j_var (i := 1) rfl (vis_by rfl))) ja_nil)))
    (sss_cons (ss_while (passes_of rfl) (jt_ne (J.cp (j_var (i := 1) rfl (vis_by rfl))) j_int) (sss_one (ss_par (i := 0) (j := 1) rfl nd rfl rfl (by decide) rfl rfl (nin_by rfl) (nin_by rfl) (ja_cons (j_move (i := 1) rfl (vis_by rfl)) (ja_cons (J.weak (j_mod (j_int1 rfl B.int (j_var (i := 0) rfl (vis_by rfl))) (j_var (i := 1) rfl (vis_by rfl)))) ja_nil)))))
    (sss_one (ss_ret (j_move (i := 0) rfl (vis_by rfl))))))

/-- _law_frac -/
noncomputable def QfracF : List D → FRes := gFn 2 3 [] (gSeq (gIfS (gTest (gOp2 (oCmp fLt) (gCp (gVar 1)) (gC (.int 0)))) (gPar 0 1 (gCons (gOp1 oNeg (gVar 0)) (gCons (gOp1 oNeg (gVar 1)) gNil))) gNext)
    (gSeq (gSet 2 (gCall QgcdF (lLent 0 (lLent 1 lNil))))
    (gRet (gTup (gCons (gOp2 (oInt2 fDivW) (gCp (gVar 0)) (gVar 2)) (gCons (gOp2 (oInt2 fDivW) (gCp (gVar 1)) (gVar 2)) gNil))))))
theorem sc__law_frac : FnScope ["n", "d", "common"] ["n", "d"] (defScope (Qtop 37)) := ⟨rfl, rfl, rfl, by decide +kernel, rfl, by decide +kernel, by decide +kernel⟩
theorem c__law_frac (B : Blt mg) (F : Said (KFr.kfr w) mg "_law_frac" (Qtop 37)) (c__law_gcd : Callee P w (KFr.kfr w) mg base 1 "_law_gcd" ["a", "b"] QgcdF) : Callee P w (KFr.kfr w) mg base 2 "_law_frac" ["n", "d"] QfracF := by
  obtain ⟨f, fd, hm, F⟩ := F
  refine ⟨f, fd, hm, F.kp, F.bindsN fun _ _ _ _ _ _ us hl => (match us, hl with | [_, _], _ => rfl), fnD_of F sc__law_frac fun cdv A outer s H E hr => ?_⟩
  have hu := hr.units
  have nd := sc__law_frac.nd
  have tk := takes_of (X := cxOf (L2.CX P w) P w (KFr.kfr w) mg base ["n", "d", "common"] "_law_frac" (defScope (Qtop 37)) f cdv A outer s H E) rfl rfl rfl rfl
  exact (sss_cons (ss_if (jt_lt (J.cp (j_var (i := 1) rfl (vis_by rfl))) j_int) (sss_one (ss_par (i := 0) (j := 1) rfl nd rfl rfl (by decide) rfl rfl (nin_by rfl) (nin_by rfl) (ja_cons (j_neg (j_var (i := 0) rfl (vis_by rfl))) (ja_cons (j_neg (j_var (i := 1) rfl (vis_by rfl))) ja_nil)))) sss_nil)
    (sss_cons (ss_set (i := 2) nd rfl (loc_by rfl) (nin_by rfl) (j_callC c__law_gcd hr (by decide) rfl tk (jl_lent (i := 0) rfl (vis_by rfl) (jl_lent (i := 1) rfl (vis_by rfl) jl_nil)) (lLent_len (lLent_len lNil_len))))
    (sss_one (ss_ret (j_tup (ja_cons (j_divW (J.cp (j_var (i := 0) rfl (vis_by rfl))) (j_var (i := 2) rfl (vis_by rfl))) (ja_cons (j_divW (J.cp (j_var (i := 1) rfl (vis_by rfl))) (j_var (i := 2) rfl (vis_by rfl))) ja_nil)))))))

/-- _law_is_frac -/
noncomputable def Qis_fracF : List D → FRes := gFn 1 1 [0] (gSeq (gIfS (gOr (gNot (gTest (gOp1 (oIsi "tuple") (gVar 0)))) (gTest (gOp2 (oEq true) (gOp1 oLen (gVar 0)) (gC (.int 2))))) (gRet (gC (.bl false))) gNext)
    (gSeq (gIfS (gNot (gAnd (gTest (gCall Qis_intF (lOwn (gCp (gOp2 oGet (gVar 0) (gC (.int 0)))) lNil))) (gTest (gCall Qis_intF (lOwn (gCp (gOp2 oGet (gVar 0) (gC (.int 1)))) lNil))))) (gRet (gC (.bl false))) gNext)
    (gRet (gAndV (gOp2 (oCmp fGe) (gCp (gOp2 oGet (gVar 0) (gC (.int 1)))) (gC (.int 1))) (gOp2 (oEq false) (gCall QgcdF (lOwn (gCp (gOp2 oGet (gVar 0) (gC (.int 0)))) (lOwn (gCp (gOp2 oGet (gVar 0) (gC (.int 1)))) lNil))) (gC (.int 1)))))))
theorem sc__law_is_frac : FnScope ["thing"] ["thing"] (defScope (Qtop 38)) := ⟨rfl, rfl, rfl, by decide +kernel, rfl, by decide +kernel, by decide +kernel⟩
theorem c__law_is_frac (B : Blt mg) (F : Said (KFr.kfr w) mg "_law_is_frac" (Qtop 38)) (c__law_is_int : Callee P w (KFr.kfr w) mg base 1 "_law_is_int" ["thing"] Qis_intF) (c__law_gcd : Callee P w (KFr.kfr w) mg base 1 "_law_gcd" ["a", "b"] QgcdF) : Callee P w (KFr.kfr w) mg base 2 "_law_is_frac" ["thing"] Qis_fracF := by
  obtain ⟨f, fd, hm, F⟩ := F
  refine ⟨f, fd, hm, F.kp, F.bindsN fun _ _ _ _ _ _ us hl => (match us, hl with | [_], _ => rfl), fnD_of F sc__law_is_frac fun cdv A outer s H E hr => ?_⟩
  have hu := hr.units
  have nd := sc__law_is_frac.nd
  have tk := takes_of (X := cxOf (L2.CX P w) P w (KFr.kfr w) mg base ["thing"] "_law_is_frac" (defScope (Qtop 38)) f cdv A outer s H E) rfl rfl rfl rfl
  exact (sss_cons (ss_if (jt_bool (jw_or (jt_not (jt_val (j_isi rfl B.isinstance rfl B.tuple (by decide +kernel) (j_var (i := 0) rfl (vis_by rfl))))) (jw_or1 (jt_ne (j_len rfl B.len (j_var (i := 0) rfl (vis_by rfl))) j_int)))) (sss_one (ss_ret j_bl)) sss_nil)
    (sss_cons (ss_if (jt_not (jt_bool (jw_and (jt_val (j_callC c__law_is_int hr (by decide) rfl tk (jl_own (J.cp (j_get hu (j_var (i := 0) rfl (vis_by rfl)) j_int (fun _ _ => rfl))) jl_nil) (lOwn_len lNil_len))) (jw_and1 (jt_val (j_callC c__law_is_int hr (by decide) rfl tk (jl_own (J.cp (j_get hu (j_var (i := 0) rfl (vis_by rfl)) j_int (fun _ _ => rfl))) jl_nil) (lOwn_len lNil_len))))))) (sss_one (ss_ret j_bl)) sss_nil)
    (sss_one (ss_ret (j_and (J.weak (j_ge (J.cp (j_get hu (j_var (i := 0) rfl (vis_by rfl)) j_int (fun _ _ => rfl))) j_int)) (j_one (j_eq (j_callC c__law_gcd hr (by decide) rfl tk (jl_own (J.cp (j_get hu (j_var (i := 0) rfl (vis_by rfl)) j_int (fun _ _ => rfl))) (jl_own (J.cp (j_get hu (j_var (i := 0) rfl (vis_by rfl)) j_int (fun _ _ => rfl))) jl_nil)) (lOwn_len (lOwn_len lNil_len))) (J.weak j_int))))))))

/-- _law_letters -/
noncomputable def QlettersF : List D → FRes := gFn 2 2 [0, 1] (gRet (gCall QsomeF (lLent 0 (lOwn (gOp1 oList (gC (.str "abcdefghijklmnopqrstuvwxyz"))) (lLent 1 lNil)))))
theorem sc__law_letters : FnScope ["d", "many"] ["d", "many"] (defScope (Qtop 39)) := ⟨rfl, rfl, rfl, by decide +kernel, rfl, by decide +kernel, by decide +kernel⟩
theorem c__law_letters (B : Blt mg) (F : Said (KFr.kfr w) mg "_law_letters" (Qtop 39)) (c__law_some : Callee P w (KFr.kfr w) mg base 3 "_law_some" ["d", "row", "many"] QsomeF) : Callee P w (KFr.kfr w) mg base 4 "_law_letters" ["d", "many"] QlettersF := by
  obtain ⟨f, fd, hm, F⟩ := F
  refine ⟨f, fd, hm, F.kp, F.bindsN fun _ _ _ _ _ _ us hl => (match us, hl with | [_, _], _ => rfl), fnD_of F sc__law_letters fun cdv A outer s H E hr => ?_⟩
  have hu := hr.units
  have nd := sc__law_letters.nd
  have tk := takes_of (X := cxOf (L2.CX P w) P w (KFr.kfr w) mg base ["d", "many"] "_law_letters" (defScope (Qtop 39)) f cdv A outer s H E) rfl rfl rfl rfl
  exact (sss_one (ss_ret (j_callC c__law_some hr (by decide) rfl tk (jl_lent (i := 0) rfl (vis_by rfl) (jl_own (j_list rfl rfl B.list j_str) (jl_lent (i := 1) rfl (vis_by rfl) jl_nil))) (lLent_len (lOwn_len (lLent_len lNil_len))))))

/-- _law_names -/
noncomputable def QnamesF : List D → FRes := gFn 2 6 [0, 1] (gSeq (gSet 2 (gC (.str "abcdefghijklmnopqrstuvwxyzABCDEFGHIJKLMNOPQRSTUVWXYZ0123456789_")))
    (gSeq (gSet 3 (gLst gNil))
    (gSeq (gFor (gItems (gCall QsomeF (lLent 0 (lOwn (gOp1 oList (gC (.str "ABCDEFGHIJKLMNOPQRSTUVWXYZ"))) (lLent 1 lNil))))) (bName 4) (gDrop (gMut 3 oAppend (gCons (gOp2 oAdd (gCp (gVar 4)) (gOp1 (oJoin1 "") (gComp (gRange1 (gCall QdrawF (lLent 0 (lOwn (gC (.int 5)) lNil)))) [5] (bName 5) gYes (gCp (gOpV oGet 2 (gCall QdrawF (lLent 0 (lOwn (gC (.int 63)) lNil)))))))) gNil))))
    (gRet (gMove 3)))))
theorem sc__law_names : FnScope ["d", "many", "signs", "found", "first", "k"] ["d", "many"] (defScope (Qtop 40)) := ⟨rfl, rfl, rfl, by decide +kernel, rfl, by decide +kernel, by decide +kernel⟩
theorem c__law_names (B : Blt mg) (F : Said (KFr.kfr w) mg "_law_names" (Qtop 40)) (c__law_some : Callee P w (KFr.kfr w) mg base 3 "_law_some" ["d", "row", "many"] QsomeF) (c__law_draw : Callee P w (KFr.kfr w) mg base 1 "_law_draw" ["d", "many"] QdrawF) : Callee P w (KFr.kfr w) mg base 4 "_law_names" ["d", "many"] QnamesF := by
  obtain ⟨f, fd, hm, F⟩ := F
  refine ⟨f, fd, hm, F.kp, F.bindsN fun _ _ _ _ _ _ us hl => (match us, hl with | [_, _], _ => rfl), fnD_of F sc__law_names fun cdv A outer s H E hr => ?_⟩
  have hu := hr.units
  have nd := sc__law_names.nd
  have tk := takes_of (X := cxOf (L2.CX P w) P w (KFr.kfr w) mg base ["d", "many", "signs", "found", "first", "k"] "_law_names" (defScope (Qtop 40)) f cdv A outer s H E) rfl rfl rfl rfl
  exact (sss_cons (ss_set (i := 2) nd rfl (loc_by rfl) (nin_by rfl) j_str)
    (sss_cons (ss_set (i := 3) nd rfl (loc_by rfl) (nin_by rfl) (j_lst (ja_nil (ro := true))))
    (sss_cons (ss_for (kq := [0, 1]) (passes_of rfl) rfl (si_items (j_callC c__law_some hr (by decide) rfl tk (jl_lent (i := 0) rfl (vis_by rfl) (jl_own (j_list rfl rfl B.list j_str) (jl_lent (i := 1) rfl (vis_by rfl) jl_nil))) (lLent_len (lOwn_len (lLent_len lNil_len))))) (sg_name (i := 4) nd rfl (loc_by rfl) (nin_by rfl)) (sss_one (ss_expr (j_append (i := 3) rfl (vis_by rfl) (j_add (J.weak (J.cp (j_var (i := 4) rfl (vis_by rfl)))) (j_join (j_lc (kp := []) (own := [("k", 5)]) rfl nd (si_range1 rfl B.range (j_callC c__law_draw hr (by decide) rfl tk (jl_lent (i := 0) rfl (vis_by rfl) (jl_own j_int jl_nil)) (lLent_len (lOwn_len lNil_len)))) (blkOk_by rfl) (all_nin rfl) (fun _ _ _ _ _ => (sg_name (i := 5) nd rfl (loc_by rfl) (nin_by rfl))) (fun _ _ _ _ _ => PTs.yes) (fun _ _ _ _ _ => (J.cp (j_getV (i := 2) hu rfl (vis_by rfl) (j_callC c__law_draw hr (by decide) rfl takes0 (jl_lent (i := 0) rfl (vis_by rfl) (jl_own j_int jl_nil)) (lLent_len (lOwn_len lNil_len))) (fun _ _ => rfl)))))))))) (all_in rfl))
    (sss_one (ss_ret (j_move (i := 3) rfl (vis_by rfl)))))))

/-- _law_ties -/
noncomputable def QtiesF : List D → FRes := gFn 4 7 [0, 1, 2, 3] (gSeq (gSet 4 (gLst gNil))
    (gSeq (gIfS (gTest (gOp2 (oCmp fGe) (gCp (gVar 1)) (gC (.int 2)))) (gFor (gRange1 (gVar 2)) (bName 5) (gSeq (gSet 6 (gOp1 oSorted (gCall QsomeF (lLent 0 (lOwn (gOp1 oRange1 (gVar 1)) (lOwn (gC (.int 2)) lNil))))))
    (gDrop (gMut 4 oAppend (gCons (gTup (gCons (gCp (gOp2 oGet (gVar 6) (gC (.int 0)))) (gCons (gCp (gOp2 oGet (gVar 6) (gC (.int 1)))) (gCons (gCall QpickF (lLent 0 (lLent 3 lNil))) gNil)))) gNil))))) gNext)
    (gRet (gOp1 oTuple (gOp1 oSorted (gVar 4))))))
theorem sc__law_ties : FnScope ["d", "spots", "many", "strands", "found", "k", "pair"] ["d", "spots", "many", "strands"] (defScope (Qtop 41)) := ⟨rfl, rfl, rfl, by decide +kernel, rfl, by decide +kernel, by decide +kernel⟩
theorem c__law_ties (B : Blt mg) (F : Said (KFr.kfr w) mg "_law_ties" (Qtop 41)) (c__law_some : Callee P w (KFr.kfr w) mg base 3 "_law_some" ["d", "row", "many"] QsomeF) (c__law_pick : Callee P w (KFr.kfr w) mg base 2 "_law_pick" ["d", "row"] QpickF) : Callee P w (KFr.kfr w) mg base 4 "_law_ties" ["d", "spots", "many", "strands"] QtiesF := by
  obtain ⟨f, fd, hm, F⟩ := F
  refine ⟨f, fd, hm, F.kp, F.bindsN fun _ _ _ _ _ _ us hl => (match us, hl with | [_, _, _, _], _ => rfl), fnD_of F sc__law_ties fun cdv A outer s H E hr => ?_⟩
  have hu := hr.units
  have nd := sc__law_ties.nd
  have tk := takes_of (X := cxOf (L2.CX P w) P w (KFr.kfr w) mg base ["d", "spots", "many", "strands", "found", "k", "pair"] "_law_ties" (defScope (Qtop 41)) f cdv A outer s H E) rfl rfl rfl rfl
  exact (sss_cons (ss_set (i := 4) nd rfl (loc_by rfl) (nin_by rfl) (j_lst (ja_nil (ro := true))))
    (sss_cons (ss_if (jt_ge (J.cp (j_var (i := 1) rfl (vis_by rfl))) j_int) (sss_one (ss_for (kq := [0, 1, 2, 3]) (passes_of rfl) rfl (si_range1 rfl B.range (j_var (i := 2) rfl (vis_by rfl))) (sg_name (i := 5) nd rfl (loc_by rfl) (nin_by rfl)) (sss_cons (ss_set (i := 6) nd rfl (loc_by rfl) (nin_by rfl) (j_sorted hu rfl rfl B.sorted (j_callC c__law_some hr (by decide) rfl tk (jl_lent (i := 0) rfl (vis_by rfl) (jl_own (j_listRg rfl rfl B.list rfl B.range (j_var (i := 1) rfl (vis_by rfl))) (jl_own j_int jl_nil))) (lLent_len (lOwn_len (lOwn_len lNil_len))))))
    (sss_one (ss_expr (j_append (i := 4) rfl (vis_by rfl) (j_tup (ja_cons (J.weak (J.cp (j_get hu (j_var (i := 6) rfl (vis_by rfl)) j_int (fun _ _ => rfl)))) (ja_cons (J.weak (J.cp (j_get hu (j_var (i := 6) rfl (vis_by rfl)) j_int (fun _ _ => rfl)))) (ja_cons (j_callC c__law_pick hr (by decide) rfl tk (jl_lent (i := 0) rfl (vis_by rfl) (jl_lent (i := 3) rfl (vis_by rfl) jl_nil)) (lLent_len (lLent_len lNil_len))) ja_nil)))))))) (all_in rfl))) sss_nil)
    (sss_one (ss_ret (j_tuple rfl B.tuple (j_sorted hu rfl rfl B.sorted (j_var (i := 4) rfl (vis_by rfl))))))))

/-- _law_marks -/
noncomputable def QmarksF : List D → FRes := gFn 3 4 [0, 1, 2] (gRet (gOp1 (oJoin1 "") (gComp (gRange1 (gVar 1)) [3] (bName 3) gYes (gCall QpickF (lLent 0 (lLent 2 lNil))))))
theorem sc__law_marks : FnScope ["d", "many", "marks", "k"] ["d", "many", "marks"] (defScope (Qtop 42)) := ⟨rfl, rfl, rfl, by decide +kernel, rfl, by decide +kernel, by decide +kernel⟩
theorem c__law_marks (B : Blt mg) (F : Said (KFr.kfr w) mg "_law_marks" (Qtop 42)) (c__law_pick : Callee P w (KFr.kfr w) mg base 2 "_law_pick" ["d", "row"] QpickF) : Callee P w (KFr.kfr w) mg base 3 "_law_marks" ["d", "many", "marks"] QmarksF := by
  obtain ⟨f, fd, hm, F⟩ := F
  refine ⟨f, fd, hm, F.kp, F.bindsN fun _ _ _ _ _ _ us hl => (match us, hl with | [_, _, _], _ => rfl), fnD_of F sc__law_marks fun cdv A outer s H E hr => ?_⟩
  have hu := hr.units
  have nd := sc__law_marks.nd
  have tk := takes_of (X := cxOf (L2.CX P w) P w (KFr.kfr w) mg base ["d", "many", "marks", "k"] "_law_marks" (defScope (Qtop 42)) f cdv A outer s H E) rfl rfl rfl rfl
  exact (sss_one (ss_ret (j_join (j_lc (kp := []) (own := [("k", 3)]) rfl nd (si_range1 rfl B.range (j_var (i := 1) rfl (vis_by rfl))) (blkOk_by rfl) (all_nin rfl) (fun _ _ _ _ _ => (sg_name (i := 3) nd rfl (loc_by rfl) (nin_by rfl))) (fun _ _ _ _ _ => PTs.yes) (fun _ _ _ _ _ => (j_callC c__law_pick hr (by decide) rfl takes0 (jl_lent (i := 0) rfl (vis_by rfl) (jl_lent (i := 2) rfl (vis_by rfl) jl_nil)) (lLent_len (lLent_len lNil_len))))))))

/-- _law_rule -/
noncomputable def QruleF : List D → FRes := gFn 7 11 [0, 1, 2, 3, 4, 5, 6] (gSeq (gSet 7 (gOp1 oMax (gOp2 oAdd (gLst (gCons (gCp (gVar 3)) gNil)) (gComp (gItemsV 2) [10] (bName 10) gYes (gOp2 (oInt2 fSub) (gCp (gOp2 oGet (gVar 10) (gC (.int 1)))) (gOp2 oGet (gVar 1) (gC (.int 1))))))))
    (gSeq (gSet 8 (gOp2 oAdd (gCp (gOp2 oGet (gVar 1) (gC (.int 1)))) (gVar 7)))
    (gSeq (gSet 9 (gOp1 oTuple (gComp (gItemsV 2) [10] (bName 10) gYes (gTup (gCons (gCp (gOp2 oGet (gVar 10) (gC (.int 0)))) (gCons (gOp1 oTuple (gCall QsomeF (lLent 0 (lOwn (gOp1 oRange1 (gVar 8)) (lOwn (gCp (gOp2 oGet (gVar 10) (gC (.int 1)))) lNil))))) gNil))))))
    (gRet (gTup (gCons (gCp (gOp2 oGet (gVar 1) (gC (.int 0)))) (gCons (gCall QmarksF (lLent 0 (lLent 7 (lLent 5 lNil)))) (gCons (gCall QtiesF (lLent 0 (lLent 8 (lLent 4 (lLent 6 lNil))))) (gCons (gMove 9) gNil)))))))))
theorem sc__law_rule : FnScope ["d", "pair", "slots", "inner", "ties", "marks", "strands", "own", "spots", "told", "slot"] ["d", "pair", "slots", "inner", "ties", "marks", "strands"] (defScope (Qtop 43)) := ⟨rfl, rfl, rfl, by decide +kernel, rfl, by decide +kernel, by decide +kernel⟩
theorem c__law_rule (B : Blt mg) (F : Said (KFr.kfr w) mg "_law_rule" (Qtop 43)) (c__law_some : Callee P w (KFr.kfr w) mg base 3 "_law_some" ["d", "row", "many"] QsomeF) (c__law_marks : Callee P w (KFr.kfr w) mg base 3 "_law_marks" ["d", "many", "marks"] QmarksF) (c__law_ties : Callee P w (KFr.kfr w) mg base 4 "_law_ties" ["d", "spots", "many", "strands"] QtiesF) : Callee P w (KFr.kfr w) mg base 5 "_law_rule" ["d", "pair", "slots", "inner", "ties", "marks", "strands"] QruleF := by
  obtain ⟨f, fd, hm, F⟩ := F
  refine ⟨f, fd, hm, F.kp, F.bindsN fun _ _ _ _ _ _ us hl => (match us, hl with | [_, _, _, _, _, _, _], _ => rfl), fnD_of F sc__law_rule fun cdv A outer s H E hr => ?_⟩
  have hu := hr.units
  have nd := sc__law_rule.nd
  have tk := takes_of (X := cxOf (L2.CX P w) P w (KFr.kfr w) mg base ["d", "pair", "slots", "inner", "ties", "marks", "strands", "own", "spots", "told", "slot"] "_law_rule" (defScope (Qtop 43)) f cdv A outer s H E) rfl rfl rfl rfl
  exact (sss_cons (ss_set (i := 7) nd rfl (loc_by rfl) (nin_by rfl) (j_max rfl rfl B.max (j_add (J.weak (j_lst (ja_cons (J.cp (j_var (i := 3) rfl (vis_by rfl))) ja_nil))) (j_lc (kp := [2]) (own := [("slot", 10)]) rfl nd (si_name (i := 2) rfl (vis_by rfl) (List.contains_iff_mem.mp rfl)) (blkOk_by rfl) (all_nin rfl) (fun _ _ _ _ _ => (sg_name (i := 10) nd rfl (loc_by rfl) (nin_by rfl))) (fun _ _ _ _ _ => PTs.yes) (fun _ _ _ _ _ => (j_sub (J.cp (j_get hu (j_var (i := 10) rfl (vis_by rfl)) j_int (fun _ _ => rfl))) (j_get hu (j_var (i := 1) rfl (vis_by rfl)) j_int (fun _ _ => rfl))))))))
    (sss_cons (ss_set (i := 8) nd rfl (loc_by rfl) (nin_by rfl) (j_add (J.cp (j_get hu (j_var (i := 1) rfl (vis_by rfl)) j_int (fun _ _ => rfl))) (j_var (i := 7) rfl (vis_by rfl))))
    (sss_cons (ss_set (i := 9) nd rfl (loc_by rfl) (nin_by rfl) (j_tuple rfl B.tuple (j_lc (kp := [2]) (own := [("slot", 10)]) rfl nd (si_name (i := 2) rfl (vis_by rfl) (List.contains_iff_mem.mp rfl)) (blkOk_by rfl) (all_nin rfl) (fun _ _ _ _ _ => (sg_name (i := 10) nd rfl (loc_by rfl) (nin_by rfl))) (fun _ _ _ _ _ => PTs.yes) (fun _ _ _ _ _ => (j_tup (ja_cons (J.weak (J.cp (j_get hu (j_var (i := 10) rfl (vis_by rfl)) j_int (fun _ _ => rfl)))) (ja_cons (j_tuple rfl B.tuple (j_callC c__law_some hr (by decide) rfl takes0 (jl_lent (i := 0) rfl (vis_by rfl) (jl_own (j_listRg rfl rfl B.list rfl B.range (j_var (i := 8) rfl (vis_by rfl))) (jl_own (J.cp (j_get hu (j_var (i := 10) rfl (vis_by rfl)) j_int (fun _ _ => rfl))) jl_nil))) (lLent_len (lOwn_len (lOwn_len lNil_len))))) ja_nil)))))))
    (sss_one (ss_ret (j_tup (ja_cons (J.weak (J.cp (j_get hu (j_var (i := 1) rfl (vis_by rfl)) j_int (fun _ _ => rfl)))) (ja_cons (j_callC c__law_marks hr (by decide) rfl tk (jl_lent (i := 0) rfl (vis_by rfl) (jl_lent (i := 7) rfl (vis_by rfl) (jl_lent (i := 5) rfl (vis_by rfl) jl_nil))) (lLent_len (lLent_len (lLent_len lNil_len)))) (ja_cons (j_callC c__law_ties hr (by decide) rfl tk (jl_lent (i := 0) rfl (vis_by rfl) (jl_lent (i := 8) rfl (vis_by rfl) (jl_lent (i := 4) rfl (vis_by rfl) (jl_lent (i := 6) rfl (vis_by rfl) jl_nil)))) (lLent_len (lLent_len (lLent_len (lLent_len lNil_len))))) (ja_cons (j_move (i := 9) rfl (vis_by rfl)) ja_nil))))))))))

/-- _law_book -/
noncomputable def QbookF : List D → FRes := gFn 7 15 [0, 1, 2, 3, 4, 5, 6] (gSeq (gSet 7 (gCall QnamesF (lLent 0 (lLent 1 lNil))))
    (gSeq (gSet 8 (gComp (gItemsV 7) [13] (bName 13) gYes (gTup (gCons (gCp (gVar 13)) (gCons (gIf (gTest (gOp2 (oEq false) (gCp (gVar 13)) (gOp2 oGet (gVar 7) (gC (.int 0))))) (gC (.int 0)) (gCall QdrawF (lLent 0 (lOwn (gOp2 oAdd (gCp (gVar 2)) (gC (.int 1))) lNil)))) gNil)))))
    (gSeq (gSet 9 (gLst gNil))
    (gSeq (gFor (gItemsV 8) (bName 10) (gDrop (gMut 9 oAppend (gCons (gCall QruleF (lLent 0 (lLent 10 (lOwn (gLst gNil) (lOwn (gOp2 oAdd (gCall QdrawF (lLent 0 (lOwn (gC (.int 2)) lNil))) (gOp2 (oEq false) (gCp (gOp2 oGet (gVar 10) (gC (.int 1)))) (gC (.int 0)))) (lOwn (gOp2 oAdd (gC (.int 1)) (gCall QdrawF (lLent 0 (lOwn (gC (.int 2)) lNil)))) (lLent 5 (lLent 6 lNil)))))))) gNil))))
    (gSeq (gFor (gRange1 (gVar 3)) (bName 11) (gSeq (gSet 10 (gIf (gTest (gOp2 (oEq false) (gCp (gVar 11)) (gC (.int 0)))) (gCp (gOp2 oGet (gVar 8) (gC (.int 0)))) (gCall QpickF (lLent 0 (lLent 8 lNil)))))
    (gSeq (gSet 12 (gComp (gRange1 (gOp2 oAdd (gC (.int 1)) (gCall QdrawF (lLent 0 (lLent 4 lNil))))) [14] (bName 14) gYes (gCall QpickF (lLent 0 (lLent 8 lNil)))))
    (gDrop (gMut 9 oAppend (gCons (gCall QruleF (lLent 0 (lLent 10 (lLent 12 (lOwn (gCall QdrawF (lLent 0 (lOwn (gC (.int 2)) lNil))) (lOwn (gCall QdrawF (lLent 0 (lOwn (gC (.int 3)) lNil))) (lLent 5 (lLent 6 lNil)))))))) gNil))))))
    (gRet (gTup (gCons (gCp (gOp2 oGet (gVar 7) (gC (.int 0)))) (gCons (gOp1 oTuple (gOp1 oSorted (gVar 8))) (gCons (gOp1 oTuple (gCall QshuffledF (lLent 0 (lLent 9 lNil)))) gNil))))))))))
theorem sc__law_book : FnScope ["d", "many", "arity", "more", "slots", "marks", "strands", "names", "pairs", "rules", "pair", "k", "used", "name", "j"] ["d", "many", "arity", "more", "slots", "marks", "strands"] (defScope (Qtop 44)) := ⟨rfl, rfl, rfl, by decide +kernel, rfl, by decide +kernel, by decide +kernel⟩
theorem c__law_book (B : Blt mg) (F : Said (KFr.kfr w) mg "_law_book" (Qtop 44)) (c__law_names : Callee P w (KFr.kfr w) mg base 4 "_law_names" ["d", "many"] QnamesF) (c__law_draw : Callee P w (KFr.kfr w) mg base 1 "_law_draw" ["d", "many"] QdrawF) (c__law_rule : Callee P w (KFr.kfr w) mg base 5 "_law_rule" ["d", "pair", "slots", "inner", "ties", "marks", "strands"] QruleF) (c__law_pick : Callee P w (KFr.kfr w) mg base 2 "_law_pick" ["d", "row"] QpickF) (c__law_shuffled : Callee P w (KFr.kfr w) mg base 2 "_law_shuffled" ["d", "row"] QshuffledF) : Callee P w (KFr.kfr w) mg base 6 "_law_book" ["d", "many", "arity", "more", "slots", "marks", "strands"] QbookF := by
  obtain ⟨f, fd, hm, F⟩ := F
  refine ⟨f, fd, hm, F.kp, F.bindsN fun _ _ _ _ _ _ us hl => (match us, hl with | [_, _, _, _, _, _, _], _ => rfl), fnD_of F sc__law_book fun cdv A outer s H E hr => ?_⟩
  have hu := hr.units
  have nd := sc__law_book.nd
  have tk := takes_of (X := cxOf (L2.CX P w) P w (KFr.kfr w) mg base ["d", "many", "arity", "more", "slots", "marks", "strands", "names", "pairs", "rules", "pair", "k", "used", "name", "j"] "_law_book" (defScope (Qtop 44)) f cdv A outer s H E) rfl rfl rfl rfl
  exact (sss_cons (ss_set (i := 7) nd rfl (loc_by rfl) (nin_by rfl) (j_callC c__law_names hr (by decide) rfl tk (jl_lent (i := 0) rfl (vis_by rfl) (jl_lent (i := 1) rfl (vis_by rfl) jl_nil)) (lLent_len (lLent_len lNil_len))))
    (sss_cons (ss_set (i := 8) nd rfl (loc_by rfl) (nin_by rfl) (j_lc (kp := [7]) (own := [("name", 13)]) rfl nd (si_name (i := 7) rfl (vis_by rfl) (List.contains_iff_mem.mp rfl)) (blkOk_by rfl) (all_nin rfl) (fun _ _ _ _ _ => (sg_name (i := 13) nd rfl (loc_by rfl) (nin_by rfl))) (fun _ _ _ _ _ => PTs.yes) (fun _ _ _ _ _ => (j_tup (ja_cons (J.weak (J.cp (j_var (i := 13) rfl (vis_by rfl)))) (ja_cons (j_ifExp (jt_eq (J.cp (j_var (i := 13) rfl (vis_by rfl))) (j_get hu (j_var (i := 7) rfl (vis_by rfl)) j_int (fun _ _ => rfl))) (J.weak j_int) (j_callC c__law_draw hr (by decide) rfl takes0 (jl_lent (i := 0) rfl (vis_by rfl) (jl_own (j_add (J.cp (j_var (i := 2) rfl (vis_by rfl))) j_int) jl_nil)) (lLent_len (lOwn_len lNil_len)))) ja_nil))))))
    (sss_cons (ss_set (i := 9) nd rfl (loc_by rfl) (nin_by rfl) (j_lst (ja_nil (ro := true))))
    (sss_cons (ss_for (kq := [0, 1, 2, 3, 4, 5, 6, 8]) (passes_of rfl) rfl (si_name (i := 8) rfl (vis_by rfl) (List.contains_iff_mem.mp rfl)) (sg_name (i := 10) nd rfl (loc_by rfl) (nin_by rfl)) (sss_one (ss_expr (j_append (i := 9) rfl (vis_by rfl) (j_callC c__law_rule hr (by decide) rfl tk (jl_lent (i := 0) rfl (vis_by rfl) (jl_lent (i := 10) rfl (vis_by rfl) (jl_own (j_lst (ja_nil (ro := true))) (jl_own (j_add (j_callC c__law_draw hr (by decide) rfl tk (jl_lent (i := 0) rfl (vis_by rfl) (jl_own j_int jl_nil)) (lLent_len (lOwn_len lNil_len))) (J.weak (j_eq (J.cp (j_get hu (j_var (i := 10) rfl (vis_by rfl)) j_int (fun _ _ => rfl))) j_int))) (jl_own (j_add (J.weak j_int) (j_callC c__law_draw hr (by decide) rfl tk (jl_lent (i := 0) rfl (vis_by rfl) (jl_own j_int jl_nil)) (lLent_len (lOwn_len lNil_len)))) (jl_lent (i := 5) rfl (vis_by rfl) (jl_lent (i := 6) rfl (vis_by rfl) jl_nil))))))) (lLent_len (lLent_len (lOwn_len (lOwn_len (lOwn_len (lLent_len (lLent_len lNil_len))))))))))) (all_in rfl))
    (sss_cons (ss_for (kq := [0, 1, 2, 3, 4, 5, 6]) (passes_of rfl) rfl (si_range1 rfl B.range (j_var (i := 3) rfl (vis_by rfl))) (sg_name (i := 11) nd rfl (loc_by rfl) (nin_by rfl)) (sss_cons (ss_set (i := 10) nd rfl (loc_by rfl) (nin_by rfl) (j_ifExp (jt_eq (J.cp (j_var (i := 11) rfl (vis_by rfl))) j_int) (J.weak (J.cp (j_get hu (j_var (i := 8) rfl (vis_by rfl)) j_int (fun _ _ => rfl)))) (j_callC c__law_pick hr (by decide) rfl tk (jl_lent (i := 0) rfl (vis_by rfl) (jl_lent (i := 8) rfl (vis_by rfl) jl_nil)) (lLent_len (lLent_len lNil_len)))))
    (sss_cons (ss_setLc (i := 12) rfl nd rfl rfl (nin_by rfl) rfl (kp := []) (own := [("j", 14)]) (si_range1 rfl B.range (j_add (J.weak j_int) (j_callC c__law_draw hr (by decide) rfl tk (jl_lent (i := 0) rfl (vis_by rfl) (jl_lent (i := 4) rfl (vis_by rfl) jl_nil)) (lLent_len (lLent_len lNil_len))))) (blkOk_by rfl) (all_nin rfl) (fun _ _ _ _ _ => (sg_name (i := 14) nd rfl (loc_by rfl) (nin_by rfl))) (fun _ _ _ _ _ => PTs.yes) (fun _ _ _ _ _ => (j_callC c__law_pick hr (by decide) rfl takes0 (jl_lent (i := 0) rfl (vis_by rfl) (jl_lent (i := 8) rfl (vis_by rfl) jl_nil)) (lLent_len (lLent_len lNil_len)))))
    (sss_one (ss_expr (j_append (i := 9) rfl (vis_by rfl) (j_callC c__law_rule hr (by decide) rfl tk (jl_lent (i := 0) rfl (vis_by rfl) (jl_lent (i := 10) rfl (vis_by rfl) (jl_lent (i := 12) rfl (vis_by rfl) (jl_own (j_callC c__law_draw hr (by decide) rfl tk (jl_lent (i := 0) rfl (vis_by rfl) (jl_own j_int jl_nil)) (lLent_len (lOwn_len lNil_len))) (jl_own (j_callC c__law_draw hr (by decide) rfl tk (jl_lent (i := 0) rfl (vis_by rfl) (jl_own j_int jl_nil)) (lLent_len (lOwn_len lNil_len))) (jl_lent (i := 5) rfl (vis_by rfl) (jl_lent (i := 6) rfl (vis_by rfl) jl_nil))))))) (lLent_len (lLent_len (lLent_len (lOwn_len (lOwn_len (lLent_len (lLent_len lNil_len))))))))))))) (all_in rfl))
    (sss_one (ss_ret (j_tup (ja_cons (J.weak (J.cp (j_get hu (j_var (i := 7) rfl (vis_by rfl)) j_int (fun _ _ => rfl)))) (ja_cons (J.weak (j_tuple rfl B.tuple (j_sorted hu rfl rfl B.sorted (j_var (i := 8) rfl (vis_by rfl))))) (ja_cons (j_tuple rfl B.tuple (j_callC c__law_shuffled hr (by decide) rfl tk (jl_lent (i := 0) rfl (vis_by rfl) (jl_lent (i := 9) rfl (vis_by rfl) jl_nil)) (lLent_len (lLent_len lNil_len)))) ja_nil)))))))))))

/-- _law_rules -/
noncomputable def QrulesF : List D → FRes := gFn 2 3 [0, 1] (gRet (gComp (gRange1 (gOp1 oLen (gOp2 oGet (gVar 0) (gC (.int 2))))) [2] (bName 2) (gOneT (gTest (gOp2 (oEq false) (gCp (gOp2 oGet (gOp2 oGet (gOp2 oGet (gVar 0) (gC (.int 2))) (gCp (gVar 2))) (gC (.int 0)))) (gVar 1)))) (gCp (gVar 2))))
theorem sc__law_rules : FnScope ["book", "name", "k"] ["book", "name"] (defScope (Qtop 45)) := ⟨rfl, rfl, rfl, by decide +kernel, rfl, by decide +kernel, by decide +kernel⟩
theorem c__law_rules (B : Blt mg) (F : Said (KFr.kfr w) mg "_law_rules" (Qtop 45)) : Callee P w (KFr.kfr w) mg base 1 "_law_rules" ["book", "name"] QrulesF := by
  obtain ⟨f, fd, hm, F⟩ := F
  refine ⟨f, fd, hm, F.kp, F.bindsN fun _ _ _ _ _ _ us hl => (match us, hl with | [_, _], _ => rfl), fnD_of F sc__law_rules fun cdv A outer s H E hr => ?_⟩
  have hu := hr.units
  have nd := sc__law_rules.nd
  have tk := takes_of (X := cxOf (L2.CX P w) P w (KFr.kfr w) mg base ["book", "name", "k"] "_law_rules" (defScope (Qtop 45)) f cdv A outer s H E) rfl rfl rfl rfl
  exact (sss_one (ss_ret (j_lc (kp := []) (own := [("k", 2)]) rfl nd (si_range1 rfl B.range (j_len rfl B.len (j_get hu (j_var (i := 0) rfl (vis_by rfl)) j_int (fun _ _ => rfl)))) (blkOk_by rfl) (all_nin rfl) (fun _ _ _ _ _ => (sg_name (i := 2) nd rfl (loc_by rfl) (nin_by rfl))) (fun _ _ _ _ _ => (pts_one1 (jt_eq (J.cp (j_get hu (j_get hu (j_get hu (j_var (i := 0) rfl (vis_by rfl)) j_int (fun _ _ => rfl)) (J.cp (j_var (i := 2) rfl (vis_by rfl))) (fun _ _ => rfl)) j_int (fun _ _ => rfl))) (j_var (i := 1) rfl (vis_by rfl))))) (fun _ _ _ _ _ => (J.cp (j_var (i := 2) rfl (vis_by rfl)))))))

/-- _law_parts -/
noncomputable def QpartsF : List D → FRes := gFn 1 1 [0] (gSeq (gIfS (gOr (gTest (gOp1 (oIsN false) (gVar 0))) (gTest (gOp2 (oIn false) (gCp (gOp2 oGet (gVar 0) (gC (.int 0)))) (gTup (gCons (gC (.str "least")) (gCons (gC (.str "rest")) gNil)))))) (gRet (gLst gNil)) gNext)
    (gRet (gIf (gTest (gOp1 (oIsi "str") (gOp2 oGet (gVar 0) (gC (.int 0))))) (gOp1 oList (gSl (gVar 0) (gPS (gC (.int 1))) gPN)) (gOp1 oList (gOp2 oGet (gVar 0) (gOp1 oNeg (gC (.int 1))))))))
theorem sc__law_parts : FnScope ["node"] ["node"] (defScope (Qtop 46)) := ⟨rfl, rfl, rfl, by decide +kernel, rfl, by decide +kernel, by decide +kernel⟩
theorem c__law_parts (B : Blt mg) (F : Said (KFr.kfr w) mg "_law_parts" (Qtop 46)) : Callee P w (KFr.kfr w) mg base 1 "_law_parts" ["node"] QpartsF := by
  obtain ⟨f, fd, hm, F⟩ := F
  refine ⟨f, fd, hm, F.kp, F.bindsN fun _ _ _ _ _ _ us hl => (match us, hl with | [_], _ => rfl), fnD_of F sc__law_parts fun cdv A outer s H E hr => ?_⟩
  have hu := hr.units
  have nd := sc__law_parts.nd
  have tk := takes_of (X := cxOf (L2.CX P w) P w (KFr.kfr w) mg base ["node"] "_law_parts" (defScope (Qtop 46)) f cdv A outer s H E) rfl rfl rfl rfl
  exact (sss_cons (ss_if (jt_bool (jw_or (jt_isN (j_var (i := 0) rfl (vis_by rfl))) (jw_or1 (jt_in hu (J.cp (j_get hu (j_var (i := 0) rfl (vis_by rfl)) j_int (fun _ _ => rfl))) (j_tup (ja_cons j_str (ja_cons j_str ja_nil))))))) (sss_one (ss_ret (j_lst (ja_nil (ro := true))))) sss_nil)
    (sss_one (ss_ret (j_ifExp (jt_val (j_isi rfl B.isinstance rfl B.str (by decide +kernel) (j_get hu (j_var (i := 0) rfl (vis_by rfl)) j_int (fun _ _ => rfl)))) (J.weak (j_list rfl rfl B.list (j_slR (j_var (i := 0) rfl (vis_by rfl)) (jo_some j_int) jo_none))) (J.weak (j_list rfl rfl B.list (j_get hu (j_var (i := 0) rfl (vis_by rfl)) (j_neg j_int) (fun _ _ => rfl))))))))

/-- _law_flat -/
noncomputable def QflatF : List D → FRes := gFn 1 8 [0] (gSeq (gAsg (bTup 2 (bCons (bName 3) (bCons (bName 4) bNil))) (gTup (gCons (gLst gNil) (gCons (gLst gNil) gNil))))
    (gSeq (gSet 1 (gLst (gCons (gTup (gCons (gCp (gVar 0)) (gCons (gOp1 oNeg (gC (.int 1))) gNil))) gNil)))
    (gSeq (gFor (gRange1 (gC (.int 5000))) (bName 2) (gSeq (gIfS (gTest (gOp2 (oEq false) (gOp1 oLen (gVar 1)) (gC (.int 0)))) (gRet (gLst (gCons (gMove 3) (gCons (gMove 4) gNil)))) gNext)
    (gSeq (gAsg (bTup 2 (bCons (bName 5) (bCons (bName 6) bNil))) (gMut 1 oPop gNil))
    (gSeq (gIfS (gTest (gOp2 (oCmp fGe) (gCp (gVar 6)) (gC (.int 0)))) (gDrop (gMutS 4 (gCp (gVar 6)) oAppend (gCons (gOp1 oLen (gVar 3)) gNil))) gNext)
    (gSeq (gDrop (gMut 1 oExtend (gCons (gComp (gItems (gOp1 oRev (gCall QpartsF (lLent 5 lNil)))) [7] (bName 7) gYes (gTup (gCons (gCp (gVar 7)) (gCons (gOp1 oLen (gVar 3)) gNil)))) gNil)))
    (gSeq (gDrop (gMut 3 oAppend (gCons (gMove 5) gNil)))
    (gDrop (gMut 4 oAppend (gCons (gLst gNil) gNil)))))))))
    (gRet (gLst (gCons (gMove 3) (gCons (gMove 4) gNil)))))))
theorem sc__law_flat : FnScope ["thing", "waiting", "turn", "nodes", "below", "node", "above", "part"] ["thing"] (defScope (Qtop 47)) := ⟨rfl, rfl, rfl, by decide +kernel, rfl, by decide +kernel, by decide +kernel⟩
theorem c__law_flat (B : Blt mg) (F : Said (KFr.kfr w) mg "_law_flat" (Qtop 47)) (c__law_parts : Callee P w (KFr.kfr w) mg base 1 "_law_parts" ["node"] QpartsF) : Callee P w (KFr.kfr w) mg base 2 "_law_flat" ["thing"] QflatF := by
  obtain ⟨f, fd, hm, F⟩ := F
  refine ⟨f, fd, hm, F.kp, F.bindsN fun _ _ _ _ _ _ us hl => (match us, hl with | [_], _ => rfl), fnD_of F sc__law_flat fun cdv A outer s H E hr => ?_⟩
  have hu := hr.units
  have nd := sc__law_flat.nd
  have tk := takes_of (X := cxOf (L2.CX P w) P w (KFr.kfr w) mg base ["thing", "waiting", "turn", "nodes", "below", "node", "above", "part"] "_law_flat" (defScope (Qtop 47)) f cdv A outer s H E) rfl rfl rfl rfl
  exact (sss_cons (ss_asg (j_tup (ja_cons (j_lst (ja_nil (ro := true))) (ja_cons (j_lst (ja_nil (ro := true))) ja_nil))) (sg_tup rfl (sgs_cons (sg_name (i := 3) nd rfl (loc_by rfl) (nin_by rfl)) (sgs_cons (sg_name (i := 4) nd rfl (loc_by rfl) (nin_by rfl)) sgs_nil))))
    (sss_cons (ss_set (i := 1) nd rfl (loc_by rfl) (nin_by rfl) (j_lst (ja_cons (j_tup (ja_cons (J.cp (j_var (i := 0) rfl (vis_by rfl))) (ja_cons (j_neg j_int) ja_nil))) ja_nil)))
    (sss_cons (ss_for (kq := [0]) (passes_of rfl) rfl (si_range1 rfl B.range j_int) (sg_name (i := 2) nd rfl (loc_by rfl) (nin_by rfl)) (sss_cons (ss_if (jt_eq (j_len rfl B.len (j_var (i := 1) rfl (vis_by rfl))) j_int) (sss_one (ss_ret (j_lst (ja_cons (j_move (i := 3) rfl (vis_by rfl)) (ja_cons (j_move (i := 4) rfl (vis_by rfl)) ja_nil))))) sss_nil)
    (sss_cons (ss_asg (j_pop (i := 1) rfl (vis_by rfl)) (sg_tup rfl (sgs_cons (sg_name (i := 5) nd rfl (loc_by rfl) (nin_by rfl)) (sgs_cons (sg_name (i := 6) nd rfl (loc_by rfl) (nin_by rfl)) sgs_nil))))
    (sss_cons (ss_if (jt_ge (J.cp (j_var (i := 6) rfl (vis_by rfl))) j_int) (sss_one (ss_expr (j_appendS (i := 4) hu rfl (vis_by rfl) (J.cp (j_var (i := 6) rfl (vis_by rfl))) (fun _ _ => rfl) (j_len rfl B.len (j_var (i := 3) rfl (vis_by rfl)))))) sss_nil)
    (sss_cons (ss_expr (j_extend (i := 1) rfl (vis_by rfl) (j_lc (kp := []) (own := [("part", 7)]) rfl nd (si_items (j_rev (j_callC c__law_parts hr (by decide) rfl tk (jl_lent (i := 5) rfl (vis_by rfl) jl_nil) (lLent_len lNil_len)))) (blkOk_by rfl) (all_nin rfl) (fun _ _ _ _ _ => (sg_name (i := 7) nd rfl (loc_by rfl) (nin_by rfl))) (fun _ _ _ _ _ => PTs.yes) (fun _ _ _ _ _ => (j_tup (ja_cons (J.cp (j_var (i := 7) rfl (vis_by rfl))) (ja_cons (j_len rfl B.len (j_var (i := 3) rfl (vis_by rfl))) ja_nil)))))))
    (sss_cons (ss_expr (j_append (i := 3) rfl (vis_by rfl) (j_move (i := 5) rfl (vis_by rfl))))
    (sss_one (ss_expr (j_append (i := 4) rfl (vis_by rfl) (j_lst (ja_nil (ro := true))))))))))) (all_in rfl))
    (sss_one (ss_ret (j_lst (ja_cons (j_move (i := 3) rfl (vis_by rfl)) (ja_cons (j_move (i := 4) rfl (vis_by rfl)) ja_nil))))))))

/-- _law_joined -/
noncomputable def QjoinedF : List D → FRes := gFn 1 7 [0] (gSeq (gSet 1 (gLst gNil))
    (gSeq (gFor (gRange1 (gOp1 oLen (gVar 0))) (bName 2) (gSeq (gAsg (bTup 2 (bCons (bName 4) (bCons (bName 5) bNil))) (gCp (gOp2 oGet (gVar 0) (gOp2 (oInt2 fSub) (gOp2 (oInt2 fSub) (gOp1 oLen (gVar 0)) (gC (.int 1))) (gVar 2)))))
    (gSeq (gSet 3 (gComp (gRange1 (gVar 5)) [6] (bName 6) gYes (gMut 1 oPop gNil)))
    (gDrop (gMut 1 oAppend (gCons (gTup (gCons (gMove 4) (gCons (gOp1 oTuple (gVar 3)) gNil))) gNil))))))
    (gRet (gCp (gOp2 oGet (gVar 1) (gC (.int 0)))))))
theorem sc__law_joined : FnScope ["rows", "built", "k", "parts", "rule", "many", "j"] ["rows"] (defScope (Qtop 48)) := ⟨rfl, rfl, rfl, by decide +kernel, rfl, by decide +kernel, by decide +kernel⟩
theorem c__law_joined (B : Blt mg) (F : Said (KFr.kfr w) mg "_law_joined" (Qtop 48)) : Callee P w (KFr.kfr w) mg base 1 "_law_joined" ["rows"] QjoinedF := by
  obtain ⟨f, fd, hm, F⟩ := F
  refine ⟨f, fd, hm, F.kp, F.bindsN fun _ _ _ _ _ _ us hl => (match us, hl with | [_], _ => rfl), fnD_of F sc__law_joined fun cdv A outer s H E hr => ?_⟩
  have hu := hr.units
  have nd := sc__law_joined.nd
  have tk := takes_of (X := cxOf (L2.CX P w) P w (KFr.kfr w) mg base ["rows", "built", "k", "parts", "rule", "many", "j"] "_law_joined" (defScope (Qtop 48)) f cdv A outer s H E) rfl rfl rfl rfl
  exact (sss_cons (ss_set (i := 1) nd rfl (loc_by rfl) (nin_by rfl) (j_lst (ja_nil (ro := true))))
    (sss_cons (ss_for (kq := [0]) (passes_of rfl) rfl (si_range1 rfl B.range (j_len rfl B.len (j_var (i := 0) rfl (vis_by rfl)))) (sg_name (i := 2) nd rfl (loc_by rfl) (nin_by rfl)) (sss_cons (ss_asg (J.cp (j_get hu (j_var (i := 0) rfl (vis_by rfl)) (j_sub (j_sub (j_len rfl B.len (j_var (i := 0) rfl (vis_by rfl))) j_int) (j_var (i := 2) rfl (vis_by rfl))) (fun _ _ => rfl))) (sg_tup rfl (sgs_cons (sg_name (i := 4) nd rfl (loc_by rfl) (nin_by rfl)) (sgs_cons (sg_name (i := 5) nd rfl (loc_by rfl) (nin_by rfl)) sgs_nil))))
    (sss_cons (ss_setLc (i := 3) rfl nd rfl rfl (nin_by rfl) rfl (kp := []) (own := [("j", 6)]) (si_range1 rfl B.range (j_var (i := 5) rfl (vis_by rfl))) (blkOk_by rfl) (all_nin rfl) (fun _ _ _ _ _ => (sg_name (i := 6) nd rfl (loc_by rfl) (nin_by rfl))) (fun _ _ _ _ _ => PTs.yes) (fun _ _ _ _ _ => (j_pop (i := 1) rfl (vis_by rfl))))
    (sss_one (ss_expr (j_append (i := 1) rfl (vis_by rfl) (j_tup (ja_cons (j_move (i := 4) rfl (vis_by rfl)) (ja_cons (J.weak (j_tuple rfl B.tuple (j_var (i := 3) rfl (vis_by rfl)))) ja_nil)))))))) (all_in rfl))
    (sss_one (ss_ret (J.cp (j_get hu (j_var (i := 1) rfl (vis_by rfl)) j_int (fun _ _ => rfl)))))))

/-- _law_least -/
noncomputable def QleastF : List D → FRes := gFn 1 6 [0] (gSeq (gSet 1 (gC (.dic [] [])))
    (gSeq (gFor (gRange1 (gOp1 oLen (gOp2 oGet (gVar 0) (gC (.int 1))))) (bName 2) (gFor (gItems (gCp (gOp2 oGet (gVar 0) (gC (.int 2))))) (bName 3) (gIfS (gTest (gOp1 oAll (gComp (gItems (gCp (gOp2 oGet (gVar 3) (gC (.int 3))))) [5] (bName 5) gYes (gOp2 (oIn false) (gCp (gOp2 oGet (gVar 5) (gC (.int 0)))) (gVar 1))))) (gSeq (gSet 4 (gOp2 oAdd (gC (.int 1)) (gOp1 oSum (gComp (gItems (gCp (gOp2 oGet (gVar 3) (gC (.int 3))))) [5] (bName 5) gYes (gCp (gOp2 oGet (gVar 1) (gCp (gOp2 oGet (gVar 5) (gC (.int 0))))))))))
    (gIfS (gOr (gTest (gOp2 (oIn true) (gCp (gOp2 oGet (gVar 3) (gC (.int 0)))) (gVar 1))) (gTest (gOp2 (oCmp fLt) (gCp (gVar 4)) (gOp2 oGet (gVar 1) (gCp (gOp2 oGet (gVar 3) (gC (.int 0)))))))) (gStore 1 (gCp (gOp2 oGet (gVar 3) (gC (.int 0)))) (gMove 4)) gNext)) gNext)))
    (gRet (gMove 1))))
theorem sc__law_least : FnScope ["book", "least", "turn", "rule", "steps", "slot"] ["book"] (defScope (Qtop 49)) := ⟨rfl, rfl, rfl, by decide +kernel, rfl, by decide +kernel, by decide +kernel⟩
theorem c__law_least (B : Blt mg) (F : Said (KFr.kfr w) mg "_law_least" (Qtop 49)) : Callee P w (KFr.kfr w) mg base 1 "_law_least" ["book"] QleastF := by
  obtain ⟨f, fd, hm, F⟩ := F
  refine ⟨f, fd, hm, F.kp, F.bindsN fun _ _ _ _ _ _ us hl => (match us, hl with | [_], _ => rfl), fnD_of F sc__law_least fun cdv A outer s H E hr => ?_⟩
  have hu := hr.units
  have nd := sc__law_least.nd
  have tk := takes_of (X := cxOf (L2.CX P w) P w (KFr.kfr w) mg base ["book", "least", "turn", "rule", "steps", "slot"] "_law_least" (defScope (Qtop 49)) f cdv A outer s H E) rfl rfl rfl rfl
  exact (sss_cons (ss_set (i := 1) nd rfl (loc_by rfl) (nin_by rfl) j_dict0)
    (sss_cons (ss_for (kq := [0]) (passes_of rfl) rfl (si_range1 rfl B.range (j_len rfl B.len (j_get hu (j_var (i := 0) rfl (vis_by rfl)) j_int (fun _ _ => rfl)))) (sg_name (i := 2) nd rfl (loc_by rfl) (nin_by rfl)) (sss_one (ss_for (kq := [0]) (passes_of rfl) rfl (si_items (J.cp (j_get hu (j_var (i := 0) rfl (vis_by rfl)) j_int (fun _ _ => rfl)))) (sg_name (i := 3) nd rfl (loc_by rfl) (nin_by rfl)) (sss_one (ss_if (jt_val (j_all rfl rfl B.all (j_lc (kp := []) (own := [("slot", 5)]) rfl nd (si_items (J.cp (j_get hu (j_var (i := 3) rfl (vis_by rfl)) j_int (fun _ _ => rfl)))) (blkOk_by rfl) (all_nin rfl) (fun _ _ _ _ _ => (sg_name (i := 5) nd rfl (loc_by rfl) (nin_by rfl))) (fun _ _ _ _ _ => PTs.yes) (fun _ _ _ _ _ => (j_in hu (J.cp (j_get hu (j_var (i := 5) rfl (vis_by rfl)) j_int (fun _ _ => rfl))) (j_var (i := 1) rfl (vis_by rfl))))))) (sss_cons (ss_set (i := 4) nd rfl (loc_by rfl) (nin_by rfl) (j_add (J.weak j_int) (j_sum rfl rfl B.sum (j_lc (kp := []) (own := [("slot", 5)]) rfl nd (si_items (J.cp (j_get hu (j_var (i := 3) rfl (vis_by rfl)) j_int (fun _ _ => rfl)))) (blkOk_by rfl) (all_nin rfl) (fun _ _ _ _ _ => (sg_name (i := 5) nd rfl (loc_by rfl) (nin_by rfl))) (fun _ _ _ _ _ => PTs.yes) (fun _ _ _ _ _ => (J.cp (j_get hu (j_var (i := 1) rfl (vis_by rfl)) (J.cp (j_get hu (j_var (i := 5) rfl (vis_by rfl)) j_int (fun _ _ => rfl))) (fun _ _ => rfl))))))))
    (sss_one (ss_if (jt_bool (jw_or (jt_notIn hu (J.cp (j_get hu (j_var (i := 3) rfl (vis_by rfl)) j_int (fun _ _ => rfl))) (j_var (i := 1) rfl (vis_by rfl))) (jw_or1 (jt_lt (J.cp (j_var (i := 4) rfl (vis_by rfl))) (j_get hu (j_var (i := 1) rfl (vis_by rfl)) (J.cp (j_get hu (j_var (i := 3) rfl (vis_by rfl)) j_int (fun _ _ => rfl))) (fun _ _ => rfl)))))) (sss_one (ss_store (i := 1) hu rfl (vis_by rfl) (j_move (i := 4) rfl (vis_by rfl)) (J.weak (J.cp (j_get hu (j_var (i := 3) rfl (vis_by rfl)) j_int (fun _ _ => rfl)))))) sss_nil))) sss_nil)) (all_in rfl))) (all_in rfl))
    (sss_one (ss_ret (j_move (i := 1) rfl (vis_by rfl))))))

/-- _law_build -/
noncomputable def QbuildF : List D → FRes := gFn 4 16 [0, 1, 2, 3] (gSeq (gSet 4 (gCall QleastF (lLent 1 lNil)))
    (gSeq (gIfS (gTest (gOp2 (oIn true) (gCp (gVar 2)) (gVar 4))) (gRet (gC .non)) gNext)
    (gSeq (gSet 5 (gOp2 oMax2 (gC (.int 0)) (gOp2 (oInt2 fSub) (gCp (gVar 3)) (gOp2 oGet (gVar 4) (gCp (gVar 2))))))
    (gSeq (gSet 6 (gLst gNil))
    (gSeq (gSet 7 (gLst (gCons (gCp (gVar 2)) gNil)))
    (gSeq (gFor (gRange1 (gC (.int 4000))) (bName 8) (gSeq (gIfS (gTest (gOp2 (oEq false) (gOp1 oLen (gVar 7)) (gC (.int 0)))) (gRet (gCall QjoinedF (lLent 6 lNil))) gNext)
    (gSeq (gSet 9 (gMut 7 oPop gNil))
    (gSeq (gSet 10 (gLst gNil))
    (gSeq (gFor (gItems (gCall QrulesF (lLent 1 (lLent 9 lNil)))) (bName 11) (gSeq (gSet 12 (gCp (gOp2 oGet (gOp2 oGet (gOp2 oGet (gVar 1) (gC (.int 2))) (gCp (gVar 11))) (gC (.int 3)))))
    (gIfS (gTest (gOp1 oAll (gComp (gItemsV 12) [15] (bName 15) gYes (gOp2 (oIn false) (gCp (gOp2 oGet (gVar 15) (gC (.int 0)))) (gVar 4))))) (gSeq (gSet 14 (gOp2 (oInt2 fSub) (gOp2 oAdd (gC (.int 1)) (gOp1 oSum (gComp (gItemsV 12) [15] (bName 15) gYes (gCp (gOp2 oGet (gVar 4) (gCp (gOp2 oGet (gVar 15) (gC (.int 0))))))))) (gOp2 oGet (gVar 4) (gCp (gVar 9)))))
    (gIfS (gTest (gOp2 (oCmp fLe) (gCp (gVar 14)) (gVar 5))) (gDrop (gMut 10 oAppend (gCons (gTup (gCons (gMove 14) (gCons (gMove 11) gNil))) gNil))) gNext)) gNext)))
    (gSeq (gAsg (bTup 2 (bCons (bName 14) (bCons (bName 11) bNil))) (gCall QpickF (lLent 0 (lLent 10 lNil))))
    (gSeq (gAugI 5 (fun a b => a - b) (gVar 14))
    (gSeq (gSet 12 (gCp (gOp2 oGet (gOp2 oGet (gOp2 oGet (gVar 1) (gC (.int 2))) (gCp (gVar 11))) (gC (.int 3)))))
    (gSeq (gDrop (gMut 6 oAppend (gCons (gTup (gCons (gMove 11) (gCons (gOp1 oLen (gVar 12)) gNil))) gNil)))
    (gFor (gRange1 (gOp1 oLen (gVar 12))) (bName 13) (gDrop (gMut 7 oAppend (gCons (gCp (gOp2 oGet (gOp2 oGet (gVar 12) (gOp2 (oInt2 fSub) (gOp2 (oInt2 fSub) (gOp1 oLen (gVar 12)) (gC (.int 1))) (gVar 13))) (gC (.int 0)))) gNil)))))))))))))
    (gRet (gC .non))))))))
theorem sc__law_build : FnScope ["d", "book", "name", "most", "least", "spare", "rows", "waiting", "turn", "due", "open_rules", "number", "slots", "k", "more", "slot"] ["d", "book", "name", "most"] (defScope (Qtop 50)) := ⟨rfl, rfl, rfl, by decide +kernel, rfl, by decide +kernel, by decide +kernel⟩
theorem c__law_build (B : Blt mg) (F : Said (KFr.kfr w) mg "_law_build" (Qtop 50)) (c__law_least : Callee P w (KFr.kfr w) mg base 1 "_law_least" ["book"] QleastF) (c__law_joined : Callee P w (KFr.kfr w) mg base 1 "_law_joined" ["rows"] QjoinedF) (c__law_rules : Callee P w (KFr.kfr w) mg base 1 "_law_rules" ["book", "name"] QrulesF) (c__law_pick : Callee P w (KFr.kfr w) mg base 2 "_law_pick" ["d", "row"] QpickF) : Callee P w (KFr.kfr w) mg base 3 "_law_build" ["d", "book", "name", "most"] QbuildF := by
  obtain ⟨f, fd, hm, F⟩ := F
  refine ⟨f, fd, hm, F.kp, F.bindsN fun _ _ _ _ _ _ us hl => (match us, hl with | [_, _, _, _], _ => rfl), fnD_of F sc__law_build fun cdv A outer s H E hr => ?_⟩
  have hu := hr.units
  have nd := sc__law_build.nd
  have tk := takes_of (X := cxOf (L2.CX P w) P w (KFr.kfr w) mg base ["d", "book", "name", "most", "least", "spare", "rows", "waiting", "turn", "due", "open_rules", "number", "slots", "k", "more", "slot"] "_law_build" (defScope (Qtop 50)) f cdv A outer s H E) rfl rfl rfl rfl
  exact (sss_cons (ss_set (i := 4) nd rfl (loc_by rfl) (nin_by rfl) (j_callC c__law_least hr (by decide) rfl tk (jl_lent (i := 1) rfl (vis_by rfl) jl_nil) (lLent_len lNil_len)))
    (sss_cons (ss_if (jt_notIn hu (J.cp (j_var (i := 2) rfl (vis_by rfl))) (j_var (i := 4) rfl (vis_by rfl))) (sss_one (ss_ret j_non)) sss_nil)
    (sss_cons (ss_set (i := 5) nd rfl (loc_by rfl) (nin_by rfl) (j_max2 rfl rfl B.max j_int (j_sub (J.cp (j_var (i := 3) rfl (vis_by rfl))) (j_get hu (j_var (i := 4) rfl (vis_by rfl)) (J.cp (j_var (i := 2) rfl (vis_by rfl))) (fun _ _ => rfl)))))
    (sss_cons (ss_set (i := 6) nd rfl (loc_by rfl) (nin_by rfl) (j_lst (ja_nil (ro := true))))
    (sss_cons (ss_set (i := 7) nd rfl (loc_by rfl) (nin_by rfl) (j_lst (ja_cons (J.cp (j_var (i := 2) rfl (vis_by rfl))) ja_nil)))
    (sss_cons (ss_for (kq := [0, 1, 2, 3]) (passes_of rfl) rfl (si_range1 rfl B.range j_int) (sg_name (i := 8) nd rfl (loc_by rfl) (nin_by rfl)) (sss_cons (ss_if (jt_eq (j_len rfl B.len (j_var (i := 7) rfl (vis_by rfl))) j_int) (sss_one (ss_ret (j_callC c__law_joined hr (by decide) rfl tk (jl_lent (i := 6) rfl (vis_by rfl) jl_nil) (lLent_len lNil_len)))) sss_nil)
    (sss_cons (ss_set (i := 9) nd rfl (loc_by rfl) (nin_by rfl) (j_pop (i := 7) rfl (vis_by rfl)))
    (sss_cons (ss_set (i := 10) nd rfl (loc_by rfl) (nin_by rfl) (j_lst (ja_nil (ro := true))))
    (sss_cons (ss_for (kq := [0, 1, 2, 3]) (passes_of rfl) rfl (si_items (j_callC c__law_rules hr (by decide) rfl tk (jl_lent (i := 1) rfl (vis_by rfl) (jl_lent (i := 9) rfl (vis_by rfl) jl_nil)) (lLent_len (lLent_len lNil_len)))) (sg_name (i := 11) nd rfl (loc_by rfl) (nin_by rfl)) (sss_cons (ss_set (i := 12) nd rfl (loc_by rfl) (nin_by rfl) (J.cp (j_get hu (j_get hu (j_get hu (j_var (i := 1) rfl (vis_by rfl)) j_int (fun _ _ => rfl)) (J.cp (j_var (i := 11) rfl (vis_by rfl))) (fun _ _ => rfl)) j_int (fun _ _ => rfl))))
    (sss_one (ss_if (jt_val (j_all rfl rfl B.all (j_lc (kp := [12]) (own := [("slot", 15)]) rfl nd (si_name (i := 12) rfl (vis_by rfl) (List.contains_iff_mem.mp rfl)) (blkOk_by rfl) (all_nin rfl) (fun _ _ _ _ _ => (sg_name (i := 15) nd rfl (loc_by rfl) (nin_by rfl))) (fun _ _ _ _ _ => PTs.yes) (fun _ _ _ _ _ => (j_in hu (J.cp (j_get hu (j_var (i := 15) rfl (vis_by rfl)) j_int (fun _ _ => rfl))) (j_var (i := 4) rfl (vis_by rfl))))))) (sss_cons (ss_set (i := 14) nd rfl (loc_by rfl) (nin_by rfl) (j_sub (j_add (J.weak j_int) (j_sum rfl rfl B.sum (j_lc (kp := [12]) (own := [("slot", 15)]) rfl nd (si_name (i := 12) rfl (vis_by rfl) (List.contains_iff_mem.mp rfl)) (blkOk_by rfl) (all_nin rfl) (fun _ _ _ _ _ => (sg_name (i := 15) nd rfl (loc_by rfl) (nin_by rfl))) (fun _ _ _ _ _ => PTs.yes) (fun _ _ _ _ _ => (J.cp (j_get hu (j_var (i := 4) rfl (vis_by rfl)) (J.cp (j_get hu (j_var (i := 15) rfl (vis_by rfl)) j_int (fun _ _ => rfl))) (fun _ _ => rfl))))))) (J.weak (j_get hu (j_var (i := 4) rfl (vis_by rfl)) (J.cp (j_var (i := 9) rfl (vis_by rfl))) (fun _ _ => rfl)))))
    (sss_one (ss_if (jt_le (J.cp (j_var (i := 14) rfl (vis_by rfl))) (j_var (i := 5) rfl (vis_by rfl))) (sss_one (ss_expr (j_append (i := 10) rfl (vis_by rfl) (j_tup (ja_cons (j_move (i := 14) rfl (vis_by rfl)) (ja_cons (j_move (i := 11) rfl (vis_by rfl)) ja_nil)))))) sss_nil))) sss_nil))) (all_in rfl))
    (sss_cons (ss_asg (j_callC c__law_pick hr (by decide) rfl tk (jl_lent (i := 0) rfl (vis_by rfl) (jl_lent (i := 10) rfl (vis_by rfl) jl_nil)) (lLent_len (lLent_len lNil_len))) (sg_tup rfl (sgs_cons (sg_name (i := 14) nd rfl (loc_by rfl) (nin_by rfl)) (sgs_cons (sg_name (i := 11) nd rfl (loc_by rfl) (nin_by rfl)) sgs_nil))))
    (sss_cons (ss_subI (i := 5) nd rfl (loc_by rfl) (nin_by rfl) (j_var (i := 14) rfl (vis_by rfl)))
    (sss_cons (ss_set (i := 12) nd rfl (loc_by rfl) (nin_by rfl) (J.cp (j_get hu (j_get hu (j_get hu (j_var (i := 1) rfl (vis_by rfl)) j_int (fun _ _ => rfl)) (J.cp (j_var (i := 11) rfl (vis_by rfl))) (fun _ _ => rfl)) j_int (fun _ _ => rfl))))
    (sss_cons (ss_expr (j_append (i := 6) rfl (vis_by rfl) (j_tup (ja_cons (j_move (i := 11) rfl (vis_by rfl)) (ja_cons (J.weak (j_len rfl B.len (j_var (i := 12) rfl (vis_by rfl)))) ja_nil)))))
    (sss_one (ss_for (kq := [0, 1, 2, 3]) (passes_of rfl) rfl (si_range1 rfl B.range (j_len rfl B.len (j_var (i := 12) rfl (vis_by rfl)))) (sg_name (i := 13) nd rfl (loc_by rfl) (nin_by rfl)) (sss_one (ss_expr (j_append (i := 7) rfl (vis_by rfl) (J.cp (j_get hu (j_get hu (j_var (i := 12) rfl (vis_by rfl)) (j_sub (j_sub (j_len rfl B.len (j_var (i := 12) rfl (vis_by rfl))) j_int) (j_var (i := 13) rfl (vis_by rfl))) (fun _ _ => rfl)) j_int (fun _ _ => rfl)))))) (all_in rfl))))))))))) (all_in rfl))
    (sss_one (ss_ret j_non))))))))

/-- _law_long_name -/
noncomputable def Qlong_nameF : List D → FRes := gFn 1 1 [0] (gRet (gOp2 oAdd (gCp (gVar 0)) (gOp2 oMulS (gC (.str "_")) (gOp2 (oInt2 fSub) (gC (.int 60)) (gOp1 oLen (gVar 0))))))
theorem sc__law_long_name : FnScope ["name"] ["name"] (defScope (Qtop 52)) := ⟨rfl, rfl, rfl, by decide +kernel, rfl, by decide +kernel, by decide +kernel⟩
theorem c__law_long_name (B : Blt mg) (F : Said (KFr.kfr w) mg "_law_long_name" (Qtop 52)) : Callee P w (KFr.kfr w) mg base 1 "_law_long_name" ["name"] Qlong_nameF := by
  obtain ⟨f, fd, hm, F⟩ := F
  refine ⟨f, fd, hm, F.kp, F.bindsN fun _ _ _ _ _ _ us hl => (match us, hl with | [_], _ => rfl), fnD_of F sc__law_long_name fun cdv A outer s H E hr => ?_⟩
  have hu := hr.units
  have nd := sc__law_long_name.nd
  have tk := takes_of (X := cxOf (L2.CX P w) P w (KFr.kfr w) mg base ["name"] "_law_long_name" (defScope (Qtop 52)) f cdv A outer s H E) rfl rfl rfl rfl
  exact (sss_one (ss_ret (j_add (J.cp (j_var (i := 0) rfl (vis_by rfl))) (j_mulS j_str (j_sub j_int (j_len rfl B.len (j_var (i := 0) rfl (vis_by rfl))))))))

/-- _law_long_book -/
noncomputable def Qlong_bookF : List D → FRes := gFn 1 10 [0] (gSeq (gSet 1 (gOp1 oTuple (gComp (gItems (gCp (gOp2 oGet (gVar 0) (gC (.int 1))))) [3, 8] (bTup 2 (bCons (bName 3) (bCons (bName 8) bNil))) gYes (gTup (gCons (gCall Qlong_nameF (lLent 3 lNil)) (gCons (gCp (gVar 8)) gNil))))))
    (gSeq (gSet 2 (gLst gNil))
    (gSeq (gFor (gItems (gCp (gOp2 oGet (gVar 0) (gC (.int 2))))) (bTup 4 (bCons (bName 3) (bCons (bName 4) (bCons (bName 5) (bCons (bName 6) bNil))))) (gSeq (gSet 7 (gOp1 oTuple (gComp (gItemsV 6) [9] (bName 9) gYes (gTup (gCons (gCall Qlong_nameF (lOwn (gCp (gOp2 oGet (gVar 9) (gC (.int 0)))) lNil)) (gCons (gCp (gOp2 oGet (gVar 9) (gC (.int 1)))) gNil))))))
    (gDrop (gMut 2 oAppend (gCons (gTup (gCons (gCall Qlong_nameF (lLent 3 lNil)) (gCons (gMove 4) (gCons (gMove 5) (gCons (gMove 7) gNil))))) gNil)))))
    (gRet (gTup (gCons (gCall Qlong_nameF (lOwn (gCp (gOp2 oGet (gVar 0) (gC (.int 0)))) lNil)) (gCons (gMove 1) (gCons (gOp1 oTuple (gVar 2)) gNil))))))))
theorem sc__law_long_book : FnScope ["book", "names", "rules", "name", "marks", "ties", "slots", "longer", "arity", "slot"] ["book"] (defScope (Qtop 53)) := ⟨rfl, rfl, rfl, by decide +kernel, rfl, by decide +kernel, by decide +kernel⟩
theorem c__law_long_book (B : Blt mg) (F : Said (KFr.kfr w) mg "_law_long_book" (Qtop 53)) (c__law_long_name : Callee P w (KFr.kfr w) mg base 1 "_law_long_name" ["name"] Qlong_nameF) : Callee P w (KFr.kfr w) mg base 2 "_law_long_book" ["book"] Qlong_bookF := by
  obtain ⟨f, fd, hm, F⟩ := F
  refine ⟨f, fd, hm, F.kp, F.bindsN fun _ _ _ _ _ _ us hl => (match us, hl with | [_], _ => rfl), fnD_of F sc__law_long_book fun cdv A outer s H E hr => ?_⟩
  have hu := hr.units
  have nd := sc__law_long_book.nd
  have tk := takes_of (X := cxOf (L2.CX P w) P w (KFr.kfr w) mg base ["book", "names", "rules", "name", "marks", "ties", "slots", "longer", "arity", "slot"] "_law_long_book" (defScope (Qtop 53)) f cdv A outer s H E) rfl rfl rfl rfl
  exact (sss_cons (ss_set (i := 1) nd rfl (loc_by rfl) (nin_by rfl) (j_tuple rfl B.tuple (j_lc (kp := []) (own := [("name", 3), ("arity", 8)]) rfl nd (si_items (J.cp (j_get hu (j_var (i := 0) rfl (vis_by rfl)) j_int (fun _ _ => rfl)))) (blkOk_by rfl) (all_nin rfl) (fun _ _ _ _ _ => (sg_tup rfl (sgs_cons (sg_name (i := 3) nd rfl (loc_by rfl) (nin_by rfl)) (sgs_cons (sg_name (i := 8) nd rfl (loc_by rfl) (nin_by rfl)) sgs_nil)))) (fun _ _ _ _ _ => PTs.yes) (fun _ _ _ _ _ => (j_tup (ja_cons (j_callC c__law_long_name hr (by decide) rfl takes0 (jl_lent (i := 3) rfl (vis_by rfl) jl_nil) (lLent_len lNil_len)) (ja_cons (J.weak (J.cp (j_var (i := 8) rfl (vis_by rfl)))) ja_nil)))))))
    (sss_cons (ss_set (i := 2) nd rfl (loc_by rfl) (nin_by rfl) (j_lst (ja_nil (ro := true))))
    (sss_cons (ss_for (kq := [0]) (passes_of rfl) rfl (si_items (J.cp (j_get hu (j_var (i := 0) rfl (vis_by rfl)) j_int (fun _ _ => rfl)))) (sg_tup rfl (sgs_cons (sg_name (i := 3) nd rfl (loc_by rfl) (nin_by rfl)) (sgs_cons (sg_name (i := 4) nd rfl (loc_by rfl) (nin_by rfl)) (sgs_cons (sg_name (i := 5) nd rfl (loc_by rfl) (nin_by rfl)) (sgs_cons (sg_name (i := 6) nd rfl (loc_by rfl) (nin_by rfl)) sgs_nil))))) (sss_cons (ss_set (i := 7) nd rfl (loc_by rfl) (nin_by rfl) (j_tuple rfl B.tuple (j_lc (kp := [6]) (own := [("slot", 9)]) rfl nd (si_name (i := 6) rfl (vis_by rfl) (List.contains_iff_mem.mp rfl)) (blkOk_by rfl) (all_nin rfl) (fun _ _ _ _ _ => (sg_name (i := 9) nd rfl (loc_by rfl) (nin_by rfl))) (fun _ _ _ _ _ => PTs.yes) (fun _ _ _ _ _ => (j_tup (ja_cons (j_callC c__law_long_name hr (by decide) rfl takes0 (jl_own (J.cp (j_get hu (j_var (i := 9) rfl (vis_by rfl)) j_int (fun _ _ => rfl))) jl_nil) (lOwn_len lNil_len)) (ja_cons (J.weak (J.cp (j_get hu (j_var (i := 9) rfl (vis_by rfl)) j_int (fun _ _ => rfl)))) ja_nil)))))))
    (sss_one (ss_expr (j_append (i := 2) rfl (vis_by rfl) (j_tup (ja_cons (j_callC c__law_long_name hr (by decide) rfl tk (jl_lent (i := 3) rfl (vis_by rfl) jl_nil) (lLent_len lNil_len)) (ja_cons (j_move (i := 4) rfl (vis_by rfl)) (ja_cons (j_move (i := 5) rfl (vis_by rfl)) (ja_cons (j_move (i := 7) rfl (vis_by rfl)) ja_nil))))))))) (all_in rfl))
    (sss_one (ss_ret (j_tup (ja_cons (j_callC c__law_long_name hr (by decide) rfl tk (jl_own (J.cp (j_get hu (j_var (i := 0) rfl (vis_by rfl)) j_int (fun _ _ => rfl))) jl_nil) (lOwn_len lNil_len)) (ja_cons (j_move (i := 1) rfl (vis_by rfl)) (ja_cons (J.weak (j_tuple rfl B.tuple (j_var (i := 2) rfl (vis_by rfl)))) ja_nil)))))))))

/-- _law_chance_book -/
noncomputable def Qchance_bookF : List D → FRes := gFn 1 8 [0] (gSeq (gSet 1 (gCall QlettersF (lLent 0 (lOwn (gC (.int 2)) lNil))))
    (gSeq (gSet 2 (gCall QlettersF (lLent 0 (lOwn (gC (.int 1)) lNil))))
    (gSeq (gPar 4 5 (gCons (gOp2 oAdd (gC (.int 1)) (gCall QdrawF (lLent 0 (lOwn (gC (.int 4)) lNil)))) (gCons (gCall QdrawF (lLent 0 (lOwn (gC (.int 8)) lNil))) gNil)))
    (gSeq (gIfS (gTest (gCall QrareF (lLent 0 (lOwn (gC (.int 16)) lNil)))) (gPar 4 5 (gCons (gOp2 oAdd (gC (.int 5)) (gCall QdrawF (lLent 0 (lOwn (gC (.int 12)) lNil)))) (gCons (gOp2 oAdd (gC (.int 5)) (gCall QdrawF (lLent 0 (lOwn (gC (.int 20)) lNil)))) gNil))) (gIfS (gTest (gCall QrareF (lLent 0 (lOwn (gC (.int 48)) lNil)))) (gPar 4 5 (gCons (gC (.int 2)) (gCons (gOp2 (oInt2 fSub) (gC (.int 398)) (gCall QdrawF (lLent 0 (lOwn (gC (.int 300)) lNil)))) gNil))) gNext))
    (gSeq (gSet 3 (gCall QbookF (lLent 0 (lLent 4 (lOwn (gC (.int 3)) (lLent 5 (lOwn (gOp2 oAdd (gC (.int 1)) (gCall QdrawF (lLent 0 (lOwn (gC (.int 3)) lNil)))) (lLent 1 (lLent 2 lNil)))))))))
    (gSeq (gIfS (gTest (gOp2 (oEq false) (gCall QdrawF (lLent 0 (lOwn (gC (.int 3)) lNil))) (gC (.int 1)))) (gFor (gRange1 (gOp2 oAdd (gC (.int 1)) (gCall QdrawF (lLent 0 (lOwn (gC (.int 3)) lNil))))) (bName 6) (gSeq (gSet 7 (gCall QdrawF (lLent 0 (lOwn (gOp2 oAdd (gOp1 oLen (gOp2 oGet (gVar 3) (gC (.int 2)))) (gC (.int 1))) lNil))))
    (gSet 3 (gTup (gCons (gCp (gOp2 oGet (gVar 3) (gC (.int 0)))) (gCons (gCp (gOp2 oGet (gVar 3) (gC (.int 1)))) (gCons (gOp2 oAddT (gSl (gOp2 oGet (gVar 3) (gC (.int 2))) gPN (gPS (gCp (gVar 7)))) (gSl (gOp2 oGet (gVar 3) (gC (.int 2))) (gPS (gOp2 oAdd (gCp (gVar 7)) (gC (.int 1)))) gPN)) gNil))))))) gNext)
    (gRet (gIf (gTest (gOp2 (oEq false) (gCall QdrawF (lLent 0 (lOwn (gC (.int 12)) lNil))) (gC (.int 1)))) (gCall Qlong_bookF (lLent 3 lNil)) (gMove 3)))))))))
theorem sc__law_chance_book : FnScope ["d", "marks", "strands", "book", "many", "more", "k", "gone"] ["d"] (defScope (Qtop 51)) := ⟨rfl, rfl, rfl, by decide +kernel, rfl, by decide +kernel, by decide +kernel⟩
theorem c__law_chance_book (B : Blt mg) (F : Said (KFr.kfr w) mg "_law_chance_book" (Qtop 51)) (c__law_letters : Callee P w (KFr.kfr w) mg base 4 "_law_letters" ["d", "many"] QlettersF) (c__law_draw : Callee P w (KFr.kfr w) mg base 1 "_law_draw" ["d", "many"] QdrawF) (c__law_rare : Callee P w (KFr.kfr w) mg base 2 "_law_rare" ["d", "many"] QrareF) (c__law_book : Callee P w (KFr.kfr w) mg base 6 "_law_book" ["d", "many", "arity", "more", "slots", "marks", "strands"] QbookF) (c__law_long_book : Callee P w (KFr.kfr w) mg base 2 "_law_long_book" ["book"] Qlong_bookF) : Callee P w (KFr.kfr w) mg base 7 "_law_chance_book" ["d"] Qchance_bookF := by
  obtain ⟨f, fd, hm, F⟩ := F
  refine ⟨f, fd, hm, F.kp, F.bindsN fun _ _ _ _ _ _ us hl => (match us, hl with | [_], _ => rfl), fnD_of F sc__law_chance_book fun cdv A outer s H E hr => ?_⟩
  have hu := hr.units
  have nd := sc__law_chance_book.nd
  have tk := takes_of (X := cxOf (L2.CX P w) P w (KFr.kfr w) mg base ["d", "marks", "strands", "book", "many", "more", "k", "gone"] "_law_chance_book" (defScope (Qtop 51)) f cdv A outer s H E) rfl rfl rfl rfl
  exact (sss_cons (ss_set (i := 1) nd rfl (loc_by rfl) (nin_by rfl) (j_callC c__law_letters hr (by decide) rfl tk (jl_lent (i := 0) rfl (vis_by rfl) (jl_own j_int jl_nil)) (lLent_len (lOwn_len lNil_len))))
    (sss_cons (ss_set (i := 2) nd rfl (loc_by rfl) (nin_by rfl) (j_callC c__law_letters hr (by decide) rfl tk (jl_lent (i := 0) rfl (vis_by rfl) (jl_own j_int jl_nil)) (lLent_len (lOwn_len lNil_len))))
    (sss_cons (ss_par (i := 4) (j := 5) rfl nd rfl rfl (by decide) rfl rfl (nin_by rfl) (nin_by rfl) (ja_cons (j_add (J.weak j_int) (j_callC c__law_draw hr (by decide) rfl tk (jl_lent (i := 0) rfl (vis_by rfl) (jl_own j_int jl_nil)) (lLent_len (lOwn_len lNil_len)))) (ja_cons (j_callC c__law_draw hr (by decide) rfl tk (jl_lent (i := 0) rfl (vis_by rfl) (jl_own j_int jl_nil)) (lLent_len (lOwn_len lNil_len))) ja_nil)))
    (sss_cons (ss_if (jt_val (j_callC c__law_rare hr (by decide) rfl tk (jl_lent (i := 0) rfl (vis_by rfl) (jl_own j_int jl_nil)) (lLent_len (lOwn_len lNil_len)))) (sss_one (ss_par (i := 4) (j := 5) rfl nd rfl rfl (by decide) rfl rfl (nin_by rfl) (nin_by rfl) (ja_cons (j_add (J.weak j_int) (j_callC c__law_draw hr (by decide) rfl tk (jl_lent (i := 0) rfl (vis_by rfl) (jl_own j_int jl_nil)) (lLent_len (lOwn_len lNil_len)))) (ja_cons (j_add (J.weak j_int) (j_callC c__law_draw hr (by decide) rfl tk (jl_lent (i := 0) rfl (vis_by rfl) (jl_own j_int jl_nil)) (lLent_len (lOwn_len lNil_len)))) ja_nil)))) (sss_one (ss_if (jt_val (j_callC c__law_rare hr (by decide) rfl tk (jl_lent (i := 0) rfl (vis_by rfl) (jl_own j_int jl_nil)) (lLent_len (lOwn_len lNil_len)))) (sss_one (ss_par (i := 4) (j := 5) rfl nd rfl rfl (by decide) rfl rfl (nin_by rfl) (nin_by rfl) (ja_cons (J.weak j_int) (ja_cons (j_sub (J.weak j_int) (j_callC c__law_draw hr (by decide) rfl tk (jl_lent (i := 0) rfl (vis_by rfl) (jl_own j_int jl_nil)) (lLent_len (lOwn_len lNil_len)))) ja_nil)))) sss_nil)))
    (sss_cons (ss_set (i := 3) nd rfl (loc_by rfl) (nin_by rfl) (j_callC c__law_book hr (by decide) rfl tk (jl_lent (i := 0) rfl (vis_by rfl) (jl_lent (i := 4) rfl (vis_by rfl) (jl_own j_int (jl_lent (i := 5) rfl (vis_by rfl) (jl_own (j_add (J.weak j_int) (j_callC c__law_draw hr (by decide) rfl tk (jl_lent (i := 0) rfl (vis_by rfl) (jl_own j_int jl_nil)) (lLent_len (lOwn_len lNil_len)))) (jl_lent (i := 1) rfl (vis_by rfl) (jl_lent (i := 2) rfl (vis_by rfl) jl_nil))))))) (lLent_len (lLent_len (lOwn_len (lLent_len (lOwn_len (lLent_len (lLent_len lNil_len)))))))))
    (sss_cons (ss_if (jt_eq (j_callC c__law_draw hr (by decide) rfl tk (jl_lent (i := 0) rfl (vis_by rfl) (jl_own j_int jl_nil)) (lLent_len (lOwn_len lNil_len))) (J.weak j_int)) (sss_one (ss_for (kq := [0]) (passes_of rfl) rfl (si_range1 rfl B.range (j_add (J.weak j_int) (j_callC c__law_draw hr (by decide) rfl tk (jl_lent (i := 0) rfl (vis_by rfl) (jl_own j_int jl_nil)) (lLent_len (lOwn_len lNil_len))))) (sg_name (i := 6) nd rfl (loc_by rfl) (nin_by rfl)) (sss_cons (ss_set (i := 7) nd rfl (loc_by rfl) (nin_by rfl) (j_callC c__law_draw hr (by decide) rfl tk (jl_lent (i := 0) rfl (vis_by rfl) (jl_own (j_add (j_len rfl B.len (j_get hu (j_var (i := 3) rfl (vis_by rfl)) j_int (fun _ _ => rfl))) j_int) jl_nil)) (lLent_len (lOwn_len lNil_len))))
    (sss_one (ss_set (i := 3) nd rfl (loc_by rfl) (nin_by rfl) (j_tup (ja_cons (J.cp (j_get hu (j_var (i := 3) rfl (vis_by rfl)) j_int (fun _ _ => rfl))) (ja_cons (J.cp (j_get hu (j_var (i := 3) rfl (vis_by rfl)) j_int (fun _ _ => rfl))) (ja_cons (j_addT (j_slR (j_get hu (j_var (i := 3) rfl (vis_by rfl)) j_int (fun _ _ => rfl)) jo_none (jo_some (J.cp (j_var (i := 7) rfl (vis_by rfl))))) (j_slR (j_get hu (j_var (i := 3) rfl (vis_by rfl)) j_int (fun _ _ => rfl)) (jo_some (j_add (J.cp (j_var (i := 7) rfl (vis_by rfl))) j_int)) jo_none)) ja_nil))))))) (all_in rfl))) sss_nil)
    (sss_one (ss_ret (j_ifExp (jt_eq (j_callC c__law_draw hr (by decide) rfl tk (jl_lent (i := 0) rfl (vis_by rfl) (jl_own j_int jl_nil)) (lLent_len (lOwn_len lNil_len))) (J.weak j_int)) (j_callC c__law_long_book hr (by decide) rfl tk (jl_lent (i := 3) rfl (vis_by rfl) jl_nil) (lLent_len lNil_len)) (j_move (i := 3) rfl (vis_by rfl)))))))))))

/-- _law_chance_weights -/
noncomputable def Qchance_weightsF : List D → FRes := gFn 2 9 [0, 1] (gSeq (gSet 2 (gCall QdrawF (lLent 0 (lOwn (gC (.int 4)) lNil))))
    (gSeq (gSet 3 (gComp (gItems (gCp (gOp2 oGet (gVar 1) (gC (.int 2))))) [5] (bName 5) gYes (gOp2 oAdd (gC (.int 1)) (gCall QdrawF (lLent 0 (lOwn (gIf (gTest (gOp2 (oEq false) (gCp (gVar 2)) (gC (.int 1)))) (gC (.int 99)) (gC (.int 5))) lNil))))))
    (gSeq (gIfS (gTest (gOp2 (oCmp fGe) (gCp (gVar 2)) (gC (.int 2)))) (gFor (gRange1 (gOp1 oLen (gOp2 oGet (gVar 1) (gC (.int 2))))) (bName 4) (gIfS (gTest (gOp2 (oEq false) (gOp1 oLen (gOp2 oGet (gOp2 oGet (gOp2 oGet (gVar 1) (gC (.int 2))) (gCp (gVar 4))) (gC (.int 3)))) (gC (.int 0)))) (gSeq (gSet 6 (gComp (gItems (gCall QrulesF (lLent 1 (lOwn (gCp (gOp2 oGet (gOp2 oGet (gOp2 oGet (gVar 1) (gC (.int 2))) (gCp (gVar 4))) (gC (.int 0)))) lNil)))) [8] (bName 8) (gOneT (gTest (gOp2 (oCmp fGt) (gOp1 oLen (gOp2 oGet (gOp2 oGet (gOp2 oGet (gVar 1) (gC (.int 2))) (gCp (gVar 8))) (gC (.int 3)))) (gC (.int 0))))) (gCp (gVar 8))))
    (gSeq (gSet 7 (gOp1 oSum (gComp (gItemsV 6) [8] (bName 8) gYes (gOp2 (oInt2 fMul) (gCp (gOp2 oGet (gVar 3) (gCp (gVar 8)))) (gOp2 (oInt2 fSub) (gOp1 oLen (gOp2 oGet (gOp2 oGet (gOp2 oGet (gVar 1) (gC (.int 2))) (gCp (gVar 8))) (gC (.int 3)))) (gC (.int 1)))))))
    (gStore 3 (gCp (gVar 4)) (gOp2 oMin2 (gC (.int 99)) (gOp2 oMax2 (gC (.int 1)) (gOp2 oAdd (gCp (gVar 7)) (gOp2 (oInt2 fMul) (gOp2 (oInt2 fSub) (gCp (gVar 2)) (gC (.int 2))) (gOp2 (oInt2 fSub) (gCall QdrawF (lLent 0 (lOwn (gC (.int 3)) lNil))) (gC (.int 1)))))))))) gNext)) gNext)
    (gRet (gOp1 oTuple (gVar 3))))))
theorem sc__law_chance_weights : FnScope ["d", "book", "way", "weights", "k", "rule", "rules", "level", "j"] ["d", "book"] (defScope (Qtop 54)) := ⟨rfl, rfl, rfl, by decide +kernel, rfl, by decide +kernel, by decide +kernel⟩
theorem c__law_chance_weights (B : Blt mg) (F : Said (KFr.kfr w) mg "_law_chance_weights" (Qtop 54)) (c__law_draw : Callee P w (KFr.kfr w) mg base 1 "_law_draw" ["d", "many"] QdrawF) (c__law_rules : Callee P w (KFr.kfr w) mg base 1 "_law_rules" ["book", "name"] QrulesF) : Callee P w (KFr.kfr w) mg base 2 "_law_chance_weights" ["d", "book"] Qchance_weightsF := by
  obtain ⟨f, fd, hm, F⟩ := F
  refine ⟨f, fd, hm, F.kp, F.bindsN fun _ _ _ _ _ _ us hl => (match us, hl with | [_, _], _ => rfl), fnD_of F sc__law_chance_weights fun cdv A outer s H E hr => ?_⟩
  have hu := hr.units
  have nd := sc__law_chance_weights.nd
  have tk := takes_of (X := cxOf (L2.CX P w) P w (KFr.kfr w) mg base ["d", "book", "way", "weights", "k", "rule", "rules", "level", "j"] "_law_chance_weights" (defScope (Qtop 54)) f cdv A outer s H E) rfl rfl rfl rfl
  exact (sss_cons (ss_set (i := 2) nd rfl (loc_by rfl) (nin_by rfl) (j_callC c__law_draw hr (by decide) rfl tk (jl_lent (i := 0) rfl (vis_by rfl) (jl_own j_int jl_nil)) (lLent_len (lOwn_len lNil_len))))
    (sss_cons (ss_set (i := 3) nd rfl (loc_by rfl) (nin_by rfl) (j_lc (kp := []) (own := [("rule", 5)]) rfl nd (si_items (J.cp (j_get hu (j_var (i := 1) rfl (vis_by rfl)) j_int (fun _ _ => rfl)))) (blkOk_by rfl) (all_nin rfl) (fun _ _ _ _ _ => (sg_name (i := 5) nd rfl (loc_by rfl) (nin_by rfl))) (fun _ _ _ _ _ => PTs.yes) (fun _ _ _ _ _ => (j_add (J.weak j_int) (j_callC c__law_draw hr (by decide) rfl takes0 (jl_lent (i := 0) rfl (vis_by rfl) (jl_own (j_ifExp (jt_eq (J.cp (j_var (i := 2) rfl (vis_by rfl))) j_int) (J.weak j_int) (J.weak j_int)) jl_nil)) (lLent_len (lOwn_len lNil_len)))))))
    (sss_cons (ss_if (jt_ge (J.cp (j_var (i := 2) rfl (vis_by rfl))) j_int) (sss_one (ss_for (kq := [0, 1]) (passes_of rfl) rfl (si_range1 rfl B.range (j_len rfl B.len (j_get hu (j_var (i := 1) rfl (vis_by rfl)) j_int (fun _ _ => rfl)))) (sg_name (i := 4) nd rfl (loc_by rfl) (nin_by rfl)) (sss_one (ss_if (jt_eq (j_len rfl B.len (j_get hu (j_get hu (j_get hu (j_var (i := 1) rfl (vis_by rfl)) j_int (fun _ _ => rfl)) (J.cp (j_var (i := 4) rfl (vis_by rfl))) (fun _ _ => rfl)) j_int (fun _ _ => rfl))) j_int) (sss_cons (ss_setLc (i := 6) rfl nd rfl rfl (nin_by rfl) rfl (kp := []) (own := [("j", 8)]) (si_items (j_callC c__law_rules hr (by decide) rfl tk (jl_lent (i := 1) rfl (vis_by rfl) (jl_own (J.cp (j_get hu (j_get hu (j_get hu (j_var (i := 1) rfl (vis_by rfl)) j_int (fun _ _ => rfl)) (J.cp (j_var (i := 4) rfl (vis_by rfl))) (fun _ _ => rfl)) j_int (fun _ _ => rfl))) jl_nil)) (lLent_len (lOwn_len lNil_len)))) (blkOk_by rfl) (all_nin rfl) (fun _ _ _ _ _ => (sg_name (i := 8) nd rfl (loc_by rfl) (nin_by rfl))) (fun _ _ _ _ _ => (pts_one1 (jt_gt (j_len rfl B.len (j_get hu (j_get hu (j_get hu (j_var (i := 1) rfl (vis_by rfl)) j_int (fun _ _ => rfl)) (J.cp (j_var (i := 8) rfl (vis_by rfl))) (fun _ _ => rfl)) j_int (fun _ _ => rfl))) j_int))) (fun _ _ _ _ _ => (J.cp (j_var (i := 8) rfl (vis_by rfl)))))
    (sss_cons (ss_set (i := 7) nd rfl (loc_by rfl) (nin_by rfl) (j_sum rfl rfl B.sum (j_lc (kp := [6]) (own := [("j", 8)]) rfl nd (si_name (i := 6) rfl (vis_by rfl) (List.contains_iff_mem.mp rfl)) (blkOk_by rfl) (all_nin rfl) (fun _ _ _ _ _ => (sg_name (i := 8) nd rfl (loc_by rfl) (nin_by rfl))) (fun _ _ _ _ _ => PTs.yes) (fun _ _ _ _ _ => (j_mul (J.cp (j_get hu (j_var (i := 3) rfl (vis_by rfl)) (J.cp (j_var (i := 8) rfl (vis_by rfl))) (fun _ _ => rfl))) (j_sub (j_len rfl B.len (j_get hu (j_get hu (j_get hu (j_var (i := 1) rfl (vis_by rfl)) j_int (fun _ _ => rfl)) (J.cp (j_var (i := 8) rfl (vis_by rfl))) (fun _ _ => rfl)) j_int (fun _ _ => rfl))) j_int))))))
    (sss_one (ss_store (i := 3) hu rfl (vis_by rfl) (j_min2 rfl rfl B.min (J.weak j_int) (j_max2 rfl rfl B.max (J.weak j_int) (j_add (J.weak (J.cp (j_var (i := 7) rfl (vis_by rfl)))) (j_mul (J.weak (j_sub (J.cp (j_var (i := 2) rfl (vis_by rfl))) j_int)) (j_sub (j_callC c__law_draw hr (by decide) rfl tk (jl_lent (i := 0) rfl (vis_by rfl) (jl_own j_int jl_nil)) (lLent_len (lOwn_len lNil_len))) (J.weak j_int)))))) (J.weak (J.cp (j_var (i := 4) rfl (vis_by rfl)))))))) sss_nil)) (all_in rfl))) sss_nil)
    (sss_one (ss_ret (j_tuple rfl B.tuple (j_var (i := 3) rfl (vis_by rfl))))))))

/-- _law_weight_sums -/
noncomputable def Qweight_sumsF : List D → FRes := gFn 2 5 [0, 1] (gSeq (gSet 2 (gC (.dic [] [])))
    (gSeq (gFor (gRange1 (gOp1 oLen (gOp2 oGet (gVar 0) (gC (.int 2))))) (bName 3) (gSeq (gSet 4 (gCp (gOp2 oGet (gOp2 oGet (gOp2 oGet (gVar 0) (gC (.int 2))) (gCp (gVar 3))) (gC (.int 0)))))
    (gStore 2 (gCp (gVar 4)) (gOp2 oAdd (gGet2 2 (gCp (gVar 4)) (gC (.int 0))) (gOp2 oGet (gVar 1) (gCp (gVar 3)))))))
    (gRet (gMove 2))))
theorem sc__law_weight_sums : FnScope ["book", "weights", "sums", "k", "name"] ["book", "weights"] (defScope (Qtop 55)) := ⟨rfl, rfl, rfl, by decide +kernel, rfl, by decide +kernel, by decide +kernel⟩
theorem c__law_weight_sums (B : Blt mg) (F : Said (KFr.kfr w) mg "_law_weight_sums" (Qtop 55)) : Callee P w (KFr.kfr w) mg base 1 "_law_weight_sums" ["book", "weights"] Qweight_sumsF := by
  obtain ⟨f, fd, hm, F⟩ := F
  refine ⟨f, fd, hm, F.kp, F.bindsN fun _ _ _ _ _ _ us hl => (match us, hl with | [_, _], _ => rfl), fnD_of F sc__law_weight_sums fun cdv A outer s H E hr => ?_⟩
  have hu := hr.units
  have nd := sc__law_weight_sums.nd
  have tk := takes_of (X := cxOf (L2.CX P w) P w (KFr.kfr w) mg base ["book", "weights", "sums", "k", "name"] "_law_weight_sums" (defScope (Qtop 55)) f cdv A outer s H E) rfl rfl rfl rfl
  exact (sss_cons (ss_set (i := 2) nd rfl (loc_by rfl) (nin_by rfl) j_dict0)
    (sss_cons (ss_for (kq := [0, 1]) (passes_of rfl) rfl (si_range1 rfl B.range (j_len rfl B.len (j_get hu (j_var (i := 0) rfl (vis_by rfl)) j_int (fun _ _ => rfl)))) (sg_name (i := 3) nd rfl (loc_by rfl) (nin_by rfl)) (sss_cons (ss_set (i := 4) nd rfl (loc_by rfl) (nin_by rfl) (J.cp (j_get hu (j_get hu (j_get hu (j_var (i := 0) rfl (vis_by rfl)) j_int (fun _ _ => rfl)) (J.cp (j_var (i := 3) rfl (vis_by rfl))) (fun _ _ => rfl)) j_int (fun _ _ => rfl))))
    (sss_one (ss_store (i := 2) hu rfl (vis_by rfl) (j_add (j_get2 (i := 2) hu rfl (vis_by rfl) (J.cp (j_var (i := 4) rfl (vis_by rfl))) j_int ⟨rfl, rfl, rfl, rfl⟩) (j_get hu (j_var (i := 1) rfl (vis_by rfl)) (J.cp (j_var (i := 3) rfl (vis_by rfl))) (fun _ _ => rfl))) (J.cp (j_var (i := 4) rfl (vis_by rfl)))))) (all_in rfl))
    (sss_one (ss_ret (j_move (i := 2) rfl (vis_by rfl))))))

/-- _law_due_row -/
noncomputable def Qdue_rowF : List D → FRes := gFn 4 10 [0, 1, 2, 3] (gSeq (gSet 4 (gLst gNil))
    (gSeq (gFor (gItems (gCp (gOp2 oGet (gVar 0) (gC (.int 1))))) (bTup 2 (bCons (bName 5) (bCons (bName 6) bNil))) (gSeq (gSet 7 (gC (.int 0)))
    (gSeq (gFor (gItems (gCall QrulesF (lLent 0 (lLent 3 lNil)))) (bName 8) (gAugI 7 (fun a b => a + b) (gOp2 (oInt2 fMul) (gCp (gOp2 oGet (gVar 1) (gCp (gVar 8)))) (gOp1 oLen (gComp (gItems (gCp (gOp2 oGet (gOp2 oGet (gOp2 oGet (gVar 0) (gC (.int 2))) (gCp (gVar 8))) (gC (.int 3))))) [9] (bName 9) (gOneT (gTest (gOp2 (oEq false) (gCp (gOp2 oGet (gVar 9) (gC (.int 0)))) (gVar 5)))) (gCp (gVar 9)))))))
    (gDrop (gMut 4 oAppend (gCons (gCall QfracF (lLent 7 (lOwn (gGet2 2 (gCp (gVar 3)) (gC (.int 1))) lNil))) gNil))))))
    (gRet (gOp1 oTuple (gVar 4)))))
theorem sc__law_due_row : FnScope ["book", "weights", "sums", "name", "found", "other", "arity", "whole", "number", "slot"] ["book", "weights", "sums", "name"] (defScope (Qtop 56)) := ⟨rfl, rfl, rfl, by decide +kernel, rfl, by decide +kernel, by decide +kernel⟩
theorem c__law_due_row (B : Blt mg) (F : Said (KFr.kfr w) mg "_law_due_row" (Qtop 56)) (c__law_rules : Callee P w (KFr.kfr w) mg base 1 "_law_rules" ["book", "name"] QrulesF) (c__law_frac : Callee P w (KFr.kfr w) mg base 2 "_law_frac" ["n", "d"] QfracF) : Callee P w (KFr.kfr w) mg base 3 "_law_due_row" ["book", "weights", "sums", "name"] Qdue_rowF := by
  obtain ⟨f, fd, hm, F⟩ := F
  refine ⟨f, fd, hm, F.kp, F.bindsN fun _ _ _ _ _ _ us hl => (match us, hl with | [_, _, _, _], _ => rfl), fnD_of F sc__law_due_row fun cdv A outer s H E hr => ?_⟩
  have hu := hr.units
  have nd := sc__law_due_row.nd
  have tk := takes_of (X := cxOf (L2.CX P w) P w (KFr.kfr w) mg base ["book", "weights", "sums", "name", "found", "other", "arity", "whole", "number", "slot"] "_law_due_row" (defScope (Qtop 56)) f cdv A outer s H E) rfl rfl rfl rfl
  exact (sss_cons (ss_set (i := 4) nd rfl (loc_by rfl) (nin_by rfl) (j_lst (ja_nil (ro := true))))
    (sss_cons (ss_for (kq := [0, 1, 2, 3]) (passes_of rfl) rfl (si_items (J.cp (j_get hu (j_var (i := 0) rfl (vis_by rfl)) j_int (fun _ _ => rfl)))) (sg_tup rfl (sgs_cons (sg_name (i := 5) nd rfl (loc_by rfl) (nin_by rfl)) (sgs_cons (sg_name (i := 6) nd rfl (loc_by rfl) (nin_by rfl)) sgs_nil))) (sss_cons (ss_set (i := 7) nd rfl (loc_by rfl) (nin_by rfl) j_int)
    (sss_cons (ss_for (kq := [0, 1, 2, 3]) (passes_of rfl) rfl (si_items (j_callC c__law_rules hr (by decide) rfl tk (jl_lent (i := 0) rfl (vis_by rfl) (jl_lent (i := 3) rfl (vis_by rfl) jl_nil)) (lLent_len (lLent_len lNil_len)))) (sg_name (i := 8) nd rfl (loc_by rfl) (nin_by rfl)) (sss_one (ss_addI (i := 7) nd rfl (loc_by rfl) (nin_by rfl) (j_mul (J.weak (J.cp (j_get hu (j_var (i := 1) rfl (vis_by rfl)) (J.cp (j_var (i := 8) rfl (vis_by rfl))) (fun _ _ => rfl)))) (j_len rfl B.len (j_lc (kp := []) (own := [("slot", 9)]) rfl nd (si_items (J.cp (j_get hu (j_get hu (j_get hu (j_var (i := 0) rfl (vis_by rfl)) j_int (fun _ _ => rfl)) (J.cp (j_var (i := 8) rfl (vis_by rfl))) (fun _ _ => rfl)) j_int (fun _ _ => rfl)))) (blkOk_by rfl) (all_nin rfl) (fun _ _ _ _ _ => (sg_name (i := 9) nd rfl (loc_by rfl) (nin_by rfl))) (fun _ _ _ _ _ => (pts_one1 (jt_eq (J.cp (j_get hu (j_var (i := 9) rfl (vis_by rfl)) j_int (fun _ _ => rfl))) (j_var (i := 5) rfl (vis_by rfl))))) (fun _ _ _ _ _ => (J.cp (j_var (i := 9) rfl (vis_by rfl))))))))) (all_in rfl))
    (sss_one (ss_expr (j_append (i := 4) rfl (vis_by rfl) (j_callC c__law_frac hr (by decide) rfl tk (jl_lent (i := 7) rfl (vis_by rfl) (jl_own (j_get2 (i := 2) hu rfl (vis_by rfl) (J.cp (j_var (i := 3) rfl (vis_by rfl))) j_int ⟨rfl, rfl, rfl, rfl⟩) jl_nil)) (lLent_len (lOwn_len lNil_len)))))))) (all_in rfl))
    (sss_one (ss_ret (j_tuple rfl B.tuple (j_var (i := 4) rfl (vis_by rfl)))))))

/-- _law_due_chance -/
noncomputable def Qdue_chanceF : List D → FRes := gFn 4 7 [0, 1, 2, 3] (gSeq (gAsg (bTup 2 (bCons (bName 5) (bCons (bName 6) bNil))) (gTup (gCons (gC (.int 1)) (gCons (gC (.int 1)) gNil))))
    (gSeq (gFor (gItems (gOp2 oGet (gCall QflatF (lLent 3 lNil)) (gC (.int 0)))) (bName 4) (gSeq (gSet 5 (gOp2 (oInt2 fMul) (gCp (gVar 5)) (gOp2 oGet (gVar 1) (gCp (gOp2 oGet (gVar 4) (gC (.int 0)))))))
    (gSet 6 (gOp2 (oInt2 fMul) (gCp (gVar 6)) (gOp2 oGet (gVar 2) (gCp (gOp2 oGet (gOp2 oGet (gOp2 oGet (gVar 0) (gC (.int 2))) (gCp (gOp2 oGet (gVar 4) (gC (.int 0))))) (gC (.int 0)))))))))
    (gRet (gCall QfracF (lLent 5 (lLent 6 lNil))))))
theorem sc__law_due_chance : FnScope ["book", "weights", "sums", "build", "node", "high", "low"] ["book", "weights", "sums", "build"] (defScope (Qtop 57)) := ⟨rfl, rfl, rfl, by decide +kernel, rfl, by decide +kernel, by decide +kernel⟩
theorem c__law_due_chance (B : Blt mg) (F : Said (KFr.kfr w) mg "_law_due_chance" (Qtop 57)) (c__law_flat : Callee P w (KFr.kfr w) mg base 2 "_law_flat" ["thing"] QflatF) (c__law_frac : Callee P w (KFr.kfr w) mg base 2 "_law_frac" ["n", "d"] QfracF) : Callee P w (KFr.kfr w) mg base 3 "_law_due_chance" ["book", "weights", "sums", "build"] Qdue_chanceF := by
  obtain ⟨f, fd, hm, F⟩ := F
  refine ⟨f, fd, hm, F.kp, F.bindsN fun _ _ _ _ _ _ us hl => (match us, hl with | [_, _, _, _], _ => rfl), fnD_of F sc__law_due_chance fun cdv A outer s H E hr => ?_⟩
  have hu := hr.units
  have nd := sc__law_due_chance.nd
  have tk := takes_of (X := cxOf (L2.CX P w) P w (KFr.kfr w) mg base ["book", "weights", "sums", "build", "node", "high", "low"] "_law_due_chance" (defScope (Qtop 57)) f cdv A outer s H E) rfl rfl rfl rfl
  exact (sss_cons (ss_asg (j_tup (ja_cons j_int (ja_cons j_int ja_nil))) (sg_tup rfl (sgs_cons (sg_name (i := 5) nd rfl (loc_by rfl) (nin_by rfl)) (sgs_cons (sg_name (i := 6) nd rfl (loc_by rfl) (nin_by rfl)) sgs_nil))))
    (sss_cons (ss_for (kq := [0, 1, 2, 3]) (passes_of rfl) rfl (si_items (j_get hu (j_callC c__law_flat hr (by decide) rfl tk (jl_lent (i := 3) rfl (vis_by rfl) jl_nil) (lLent_len lNil_len)) j_int (fun _ _ => rfl))) (sg_name (i := 4) nd rfl (loc_by rfl) (nin_by rfl)) (sss_cons (ss_set (i := 5) nd rfl (loc_by rfl) (nin_by rfl) (j_mul (J.cp (j_var (i := 5) rfl (vis_by rfl))) (j_get hu (j_var (i := 1) rfl (vis_by rfl)) (J.cp (j_get hu (j_var (i := 4) rfl (vis_by rfl)) j_int (fun _ _ => rfl))) (fun _ _ => rfl))))
    (sss_one (ss_set (i := 6) nd rfl (loc_by rfl) (nin_by rfl) (j_mul (J.cp (j_var (i := 6) rfl (vis_by rfl))) (j_get hu (j_var (i := 2) rfl (vis_by rfl)) (J.cp (j_get hu (j_get hu (j_get hu (j_var (i := 0) rfl (vis_by rfl)) j_int (fun _ _ => rfl)) (J.cp (j_get hu (j_var (i := 4) rfl (vis_by rfl)) j_int (fun _ _ => rfl))) (fun _ _ => rfl)) j_int (fun _ _ => rfl))) (fun _ _ => rfl)))))) (all_in rfl))
    (sss_one (ss_ret (j_callC c__law_frac hr (by decide) rfl tk (jl_lent (i := 5) rfl (vis_by rfl) (jl_lent (i := 6) rfl (vis_by rfl) jl_nil)) (lLent_len (lLent_len lNil_len)))))))

/-- _law_is_row -/
noncomputable def Qis_rowF : List D → FRes := gFn 2 3 [0, 1] (gSeq (gIfS (gOr (gNot (gTest (gOp1 (oIsi "tuple") (gVar 0)))) (gTest (gOp2 (oEq true) (gOp1 oLen (gVar 0)) (gOp1 oLen (gVar 1))))) (gRet (gC (.bl false))) gNext)
    (gRet (gOp1 oAll (gComp (gRange1 (gOp1 oLen (gVar 1))) [2] (bName 2) gYes (gAndV (gCall Qis_fracF (lOwn (gCp (gOp2 oGet (gVar 0) (gCp (gVar 2)))) lNil)) (gOp2 (oEqD false) (gCp (gOp2 oGet (gVar 0) (gCp (gVar 2)))) (gOp2 oGet (gVar 1) (gCp (gVar 2)))))))))
theorem sc__law_is_row : FnScope ["told", "due", "k"] ["told", "due"] (defScope (Qtop 58)) := ⟨rfl, rfl, rfl, by decide +kernel, rfl, by decide +kernel, by decide +kernel⟩
theorem c__law_is_row (B : Blt mg) (F : Said (KFr.kfr w) mg "_law_is_row" (Qtop 58)) (c__law_is_frac : Callee P w (KFr.kfr w) mg base 2 "_law_is_frac" ["thing"] Qis_fracF) : Callee P w (KFr.kfr w) mg base 3 "_law_is_row" ["told", "due"] Qis_rowF := by
  obtain ⟨f, fd, hm, F⟩ := F
  refine ⟨f, fd, hm, F.kp, F.bindsN fun _ _ _ _ _ _ us hl => (match us, hl with | [_, _], _ => rfl), fnD_of F sc__law_is_row fun cdv A outer s H E hr => ?_⟩
  have hu := hr.units
  have nd := sc__law_is_row.nd
  have tk := takes_of (X := cxOf (L2.CX P w) P w (KFr.kfr w) mg base ["told", "due", "k"] "_law_is_row" (defScope (Qtop 58)) f cdv A outer s H E) rfl rfl rfl rfl
  exact (sss_cons (ss_if (jt_bool (jw_or (jt_not (jt_val (j_isi rfl B.isinstance rfl B.tuple (by decide +kernel) (j_var (i := 0) rfl (vis_by rfl))))) (jw_or1 (jt_ne (j_len rfl B.len (j_var (i := 0) rfl (vis_by rfl))) (j_len rfl B.len (j_var (i := 1) rfl (vis_by rfl))))))) (sss_one (ss_ret j_bl)) sss_nil)
    (sss_one (ss_ret (j_all rfl rfl B.all (j_lc (kp := []) (own := [("k", 2)]) rfl nd (si_range1 rfl B.range (j_len rfl B.len (j_var (i := 1) rfl (vis_by rfl)))) (blkOk_by rfl) (all_nin rfl) (fun _ _ _ _ _ => (sg_name (i := 2) nd rfl (loc_by rfl) (nin_by rfl))) (fun _ _ _ _ _ => PTs.yes) (fun _ _ _ _ _ => (j_and (j_callC c__law_is_frac hr (by decide) rfl takes0 (jl_own (J.cp (j_get hu (j_var (i := 0) rfl (vis_by rfl)) (J.cp (j_var (i := 2) rfl (vis_by rfl))) (fun _ _ => rfl))) jl_nil) (lOwn_len lNil_len)) (j_one (J.weak (j_eqD hu (J.cp (j_get hu (j_var (i := 0) rfl (vis_by rfl)) (J.cp (j_var (i := 2) rfl (vis_by rfl))) (fun _ _ => rfl))) (j_get hu (j_var (i := 1) rfl (vis_by rfl)) (J.cp (j_var (i := 2) rfl (vis_by rfl))) (fun _ _ => rfl))))))))))))

/-- _law_chance_builds -/
noncomputable def Qchance_buildsF : List D → FRes := gFn 2 5 [0, 1] (gSeq (gSet 2 (gLst gNil))
    (gSeq (gFor (gItems (gTup (gCons (gC (.int 1)) (gCons (gC (.int 4)) (gCons (gC (.int 15)) (gCons (gC (.int 60)) gNil)))))) (bName 3) (gSeq (gSet 4 (gCall QbuildF (lLent 0 (lLent 1 (lOwn (gOp2 oGet (gCall QpickF (lLent 0 (lOwn (gCp (gOp2 oGet (gVar 1) (gC (.int 1)))) lNil))) (gC (.int 0))) (lLent 3 lNil))))))
    (gIfS (gTest (gOp1 (oIsN true) (gVar 4))) (gDrop (gMut 2 oAppend (gCons (gMove 4) gNil))) gNext)))
    (gRet (gMove 2))))
theorem sc__law_chance_builds : FnScope ["d", "book", "found", "most", "build"] ["d", "book"] (defScope (Qtop 59)) := ⟨rfl, rfl, rfl, by decide +kernel, rfl, by decide +kernel, by decide +kernel⟩
theorem c__law_chance_builds (B : Blt mg) (F : Said (KFr.kfr w) mg "_law_chance_builds" (Qtop 59)) (c__law_build : Callee P w (KFr.kfr w) mg base 3 "_law_build" ["d", "book", "name", "most"] QbuildF) (c__law_pick : Callee P w (KFr.kfr w) mg base 2 "_law_pick" ["d", "row"] QpickF) : Callee P w (KFr.kfr w) mg base 4 "_law_chance_builds" ["d", "book"] Qchance_buildsF := by
  obtain ⟨f, fd, hm, F⟩ := F
  refine ⟨f, fd, hm, F.kp, F.bindsN fun _ _ _ _ _ _ us hl => (match us, hl with | [_, _], _ => rfl), fnD_of F sc__law_chance_builds fun cdv A outer s H E hr => ?_⟩
  have hu := hr.units
  have nd := sc__law_chance_builds.nd
  have tk := takes_of (X := cxOf (L2.CX P w) P w (KFr.kfr w) mg base ["d", "book", "found", "most", "build"] "_law_chance_builds" (defScope (Qtop 59)) f cdv A outer s H E) rfl rfl rfl rfl
  exact (sss_cons (ss_set (i := 2) nd rfl (loc_by rfl) (nin_by rfl) (j_lst (ja_nil (ro := true))))
    (sss_cons (ss_for (kq := [0, 1]) (passes_of rfl) rfl (si_items (j_tup (ja_cons j_int (ja_cons j_int (ja_cons j_int (ja_cons j_int ja_nil)))))) (sg_name (i := 3) nd rfl (loc_by rfl) (nin_by rfl)) (sss_cons (ss_set (i := 4) nd rfl (loc_by rfl) (nin_by rfl) (j_callC c__law_build hr (by decide) rfl tk (jl_lent (i := 0) rfl (vis_by rfl) (jl_lent (i := 1) rfl (vis_by rfl) (jl_own (j_get hu (j_callC c__law_pick hr (by decide) rfl tk (jl_lent (i := 0) rfl (vis_by rfl) (jl_own (J.cp (j_get hu (j_var (i := 1) rfl (vis_by rfl)) j_int (fun _ _ => rfl))) jl_nil)) (lLent_len (lOwn_len lNil_len))) j_int (fun _ _ => rfl)) (jl_lent (i := 3) rfl (vis_by rfl) jl_nil)))) (lLent_len (lLent_len (lOwn_len (lLent_len lNil_len))))))
    (sss_one (ss_if (jt_notN (j_var (i := 4) rfl (vis_by rfl))) (sss_one (ss_expr (j_append (i := 2) rfl (vis_by rfl) (j_move (i := 4) rfl (vis_by rfl))))) sss_nil))) (all_in rfl))
    (sss_one (ss_ret (j_move (i := 2) rfl (vis_by rfl))))))

/-- _law_is_asked -/
noncomputable def Qis_askedF : List D → FRes := gFn 3 8 [0, 1, 2] (gSeq (gSet 3 (gCall Qweight_sumsF (lLent 0 (lLent 1 lNil))))
    (gSeq (gSet 4 (gCall Qp_meansF (lLent 0 (lLent 1 lNil))))
    (gSeq (gIfS (gOr (gNot (gTest (gOp1 (oIsi "tuple") (gVar 4)))) (gTest (gOp2 (oEq true) (gOp1 oLen (gVar 4)) (gOp1 oLen (gOp2 oGet (gVar 0) (gC (.int 1))))))) (gRet (gC (.bl false))) gNext)
    (gSeq (gFor (gRange1 (gOp1 oLen (gOp2 oGet (gVar 0) (gC (.int 1))))) (bName 5) (gIfS (gNot (gTest (gCall Qis_rowF (lOwn (gCp (gOp2 oGet (gVar 4) (gCp (gVar 5)))) (lOwn (gCall Qdue_rowF (lLent 0 (lLent 1 (lLent 3 (lOwn (gCp (gOp2 oGet (gOp2 oGet (gOp2 oGet (gVar 0) (gC (.int 1))) (gCp (gVar 5))) (gC (.int 0)))) lNil))))) lNil))))) (gRet (gC (.bl false))) gNext))
    (gSeq (gFor (gItemsV 2) (bName 6) (gSeq (gSet 7 (gCall Qp_build_chanceF (lLent 0 (lLent 1 (lLent 6 lNil)))))
    (gIfS (gOr (gNot (gTest (gCall Qis_fracF (lLent 7 lNil)))) (gTest (gOp2 (oEqD true) (gCp (gVar 7)) (gCall Qdue_chanceF (lLent 0 (lLent 1 (lLent 3 (lLent 6 lNil)))))))) (gRet (gC (.bl false))) gNext)))
    (gRet (gC (.bl true))))))))
theorem sc__law_is_asked : FnScope ["book", "weights", "builds", "sums", "told", "k", "build", "chance"] ["book", "weights", "builds"] (defScope (Qtop 60)) := ⟨rfl, rfl, rfl, by decide +kernel, rfl, by decide +kernel, by decide +kernel⟩
theorem c__law_is_asked (B : Blt mg) (F : Said (KFr.kfr w) mg "_law_is_asked" (Qtop 60)) (c__law_weight_sums : Callee P w (KFr.kfr w) mg base 1 "_law_weight_sums" ["book", "weights"] Qweight_sumsF) (c_means : Callee P w (KFr.kfr w) mg base 6 "means" ["book", "weights"] Qp_meansF) (c__law_is_row : Callee P w (KFr.kfr w) mg base 3 "_law_is_row" ["told", "due"] Qis_rowF) (c__law_due_row : Callee P w (KFr.kfr w) mg base 3 "_law_due_row" ["book", "weights", "sums", "name"] Qdue_rowF) (c_build_chance : Callee P w (KFr.kfr w) mg base 5 "build_chance" ["book", "weights", "build"] Qp_build_chanceF) (c__law_is_frac : Callee P w (KFr.kfr w) mg base 2 "_law_is_frac" ["thing"] Qis_fracF) (c__law_due_chance : Callee P w (KFr.kfr w) mg base 3 "_law_due_chance" ["book", "weights", "sums", "build"] Qdue_chanceF) : Callee P w (KFr.kfr w) mg base 7 "_law_is_asked" ["book", "weights", "builds"] Qis_askedF := by
  obtain ⟨f, fd, hm, F⟩ := F
  refine ⟨f, fd, hm, F.kp, F.bindsN fun _ _ _ _ _ _ us hl => (match us, hl with | [_, _, _], _ => rfl), fnD_of F sc__law_is_asked fun cdv A outer s H E hr => ?_⟩
  have hu := hr.units
  have nd := sc__law_is_asked.nd
  have tk := takes_of (X := cxOf (L2.CX P w) P w (KFr.kfr w) mg base ["book", "weights", "builds", "sums", "told", "k", "build", "chance"] "_law_is_asked" (defScope (Qtop 60)) f cdv A outer s H E) rfl rfl rfl rfl
  exact (sss_cons (ss_set (i := 3) nd rfl (loc_by rfl) (nin_by rfl) (j_callC c__law_weight_sums hr (by decide) rfl tk (jl_lent (i := 0) rfl (vis_by rfl) (jl_lent (i := 1) rfl (vis_by rfl) jl_nil)) (lLent_len (lLent_len lNil_len))))
    (sss_cons (ss_set (i := 4) nd rfl (loc_by rfl) (nin_by rfl) (j_callC c_means hr (by decide) rfl tk (jl_lent (i := 0) rfl (vis_by rfl) (jl_lent (i := 1) rfl (vis_by rfl) jl_nil)) (lLent_len (lLent_len lNil_len))))
    (sss_cons (ss_if (jt_bool (jw_or (jt_not (jt_val (j_isi rfl B.isinstance rfl B.tuple (by decide +kernel) (j_var (i := 4) rfl (vis_by rfl))))) (jw_or1 (jt_ne (j_len rfl B.len (j_var (i := 4) rfl (vis_by rfl))) (j_len rfl B.len (j_get hu (j_var (i := 0) rfl (vis_by rfl)) j_int (fun _ _ => rfl))))))) (sss_one (ss_ret j_bl)) sss_nil)
    (sss_cons (ss_for (kq := [0, 1, 2]) (passes_of rfl) rfl (si_range1 rfl B.range (j_len rfl B.len (j_get hu (j_var (i := 0) rfl (vis_by rfl)) j_int (fun _ _ => rfl)))) (sg_name (i := 5) nd rfl (loc_by rfl) (nin_by rfl)) (sss_one (ss_if (jt_not (jt_val (j_callC c__law_is_row hr (by decide) rfl tk (jl_own (J.cp (j_get hu (j_var (i := 4) rfl (vis_by rfl)) (J.cp (j_var (i := 5) rfl (vis_by rfl))) (fun _ _ => rfl))) (jl_own (j_callC c__law_due_row hr (by decide) rfl tk (jl_lent (i := 0) rfl (vis_by rfl) (jl_lent (i := 1) rfl (vis_by rfl) (jl_lent (i := 3) rfl (vis_by rfl) (jl_own (J.cp (j_get hu (j_get hu (j_get hu (j_var (i := 0) rfl (vis_by rfl)) j_int (fun _ _ => rfl)) (J.cp (j_var (i := 5) rfl (vis_by rfl))) (fun _ _ => rfl)) j_int (fun _ _ => rfl))) jl_nil)))) (lLent_len (lLent_len (lLent_len (lOwn_len lNil_len))))) jl_nil)) (lOwn_len (lOwn_len lNil_len))))) (sss_one (ss_ret j_bl)) sss_nil)) (all_in rfl))
    (sss_cons (ss_for (kq := [0, 1, 2]) (passes_of rfl) rfl (si_name (i := 2) rfl (vis_by rfl) (List.contains_iff_mem.mp rfl)) (sg_name (i := 6) nd rfl (loc_by rfl) (nin_by rfl)) (sss_cons (ss_set (i := 7) nd rfl (loc_by rfl) (nin_by rfl) (j_callC c_build_chance hr (by decide) rfl tk (jl_lent (i := 0) rfl (vis_by rfl) (jl_lent (i := 1) rfl (vis_by rfl) (jl_lent (i := 6) rfl (vis_by rfl) jl_nil))) (lLent_len (lLent_len (lLent_len lNil_len)))))
    (sss_one (ss_if (jt_bool (jw_or (jt_not (jt_val (j_callC c__law_is_frac hr (by decide) rfl tk (jl_lent (i := 7) rfl (vis_by rfl) jl_nil) (lLent_len lNil_len)))) (jw_or1 (jt_neD hu (J.weak (J.cp (j_var (i := 7) rfl (vis_by rfl)))) (j_callC c__law_due_chance hr (by decide) rfl tk (jl_lent (i := 0) rfl (vis_by rfl) (jl_lent (i := 1) rfl (vis_by rfl) (jl_lent (i := 3) rfl (vis_by rfl) (jl_lent (i := 6) rfl (vis_by rfl) jl_nil)))) (lLent_len (lLent_len (lLent_len (lLent_len lNil_len))))))))) (sss_one (ss_ret j_bl)) sss_nil))) (all_in rfl))
    (sss_one (ss_ret j_bl)))))))

/-- law -/
noncomputable def Qp_lawF : List D → FRes := gFn 1 10 [0] (gSeq (gSet 1 (gCall QbeginF (lLent 0 lNil)))
    (gSeq (gSet 2 (gCall Qchance_bookF (lLent 1 lNil)))
    (gSeq (gSet 3 (gCall Qchance_weightsF (lLent 1 (lLent 2 lNil))))
    (gSeq (gSet 4 (gCall Qchance_weightsF (lLent 1 (lLent 2 lNil))))
    (gSeq (gSet 5 (gOp2 (oCmp fLe) (gOp1 oMax (gOp2 oAdd (gLst (gCons (gC (.int 0)) gNil)) (gOp1 oList (gVar 3)))) (gC (.int 33))))
    (gSeq (gSet 6 (gOp1 oTuple (gComp (gItemsV 3) [9] (bName 9) gYes (gIf (gTest (gVar 5)) (gOp2 (oInt2 fMul) (gCp (gVar 9)) (gC (.int 3))) (gOp2 (oInt2 fSub) (gC (.int 100)) (gVar 9))))))
    (gSeq (gSet 7 (gCall Qchance_buildsF (lLent 1 (lLent 2 lNil))))
    (gSeq (gFor (gItems (gTup (gCons (gMove 3) (gCons (gMove 4) (gCons (gMove 3) (gCons (gMove 6) gNil)))))) (bName 8) (gIfS (gNot (gTest (gCall Qis_askedF (lLent 2 (lLent 8 (lLent 7 lNil)))))) (gRet (gC (.bl false))) gNext))
    (gRet (gC (.bl true)))))))))))
theorem sc_law : FnScope ["script", "d", "book", "first", "second", "is_low", "third", "builds", "weights", "weight"] ["script"] (defScope (Qtop 61)) := ⟨rfl, rfl, rfl, by decide +kernel, rfl, by decide +kernel, by decide +kernel⟩
theorem c_law (B : Blt mg) (F : Said (KFr.kfr w) mg "law" (Qtop 61)) (c__law_begin : Callee P w (KFr.kfr w) mg base 1 "_law_begin" ["script"] QbeginF) (c__law_chance_book : Callee P w (KFr.kfr w) mg base 7 "_law_chance_book" ["d"] Qchance_bookF) (c__law_chance_weights : Callee P w (KFr.kfr w) mg base 2 "_law_chance_weights" ["d", "book"] Qchance_weightsF) (c__law_chance_builds : Callee P w (KFr.kfr w) mg base 4 "_law_chance_builds" ["d", "book"] Qchance_buildsF) (c__law_is_asked : Callee P w (KFr.kfr w) mg base 7 "_law_is_asked" ["book", "weights", "builds"] Qis_askedF) : Callee P w (KFr.kfr w) mg base 8 "law" ["script"] Qp_lawF := by
  obtain ⟨f, fd, hm, F⟩ := F
  refine ⟨f, fd, hm, F.kp, F.bindsN fun _ _ _ _ _ _ us hl => (match us, hl with | [_], _ => rfl), fnD_of F sc_law fun cdv A outer s H E hr => ?_⟩
  have hu := hr.units
  have nd := sc_law.nd
  have tk := takes_of (X := cxOf (L2.CX P w) P w (KFr.kfr w) mg base ["script", "d", "book", "first", "second", "is_low", "third", "builds", "weights", "weight"] "law" (defScope (Qtop 61)) f cdv A outer s H E) rfl rfl rfl rfl
  exact (sss_cons (ss_set (i := 1) nd rfl (loc_by rfl) (nin_by rfl) (j_callC c__law_begin hr (by decide) rfl tk (jl_lent (i := 0) rfl (vis_by rfl) jl_nil) (lLent_len lNil_len)))
    (sss_cons (ss_set (i := 2) nd rfl (loc_by rfl) (nin_by rfl) (j_callC c__law_chance_book hr (by decide) rfl tk (jl_lent (i := 1) rfl (vis_by rfl) jl_nil) (lLent_len lNil_len)))
    (sss_cons (ss_set (i := 3) nd rfl (loc_by rfl) (nin_by rfl) (j_callC c__law_chance_weights hr (by decide) rfl tk (jl_lent (i := 1) rfl (vis_by rfl) (jl_lent (i := 2) rfl (vis_by rfl) jl_nil)) (lLent_len (lLent_len lNil_len))))
    (sss_cons (ss_set (i := 4) nd rfl (loc_by rfl) (nin_by rfl) (j_callC c__law_chance_weights hr (by decide) rfl tk (jl_lent (i := 1) rfl (vis_by rfl) (jl_lent (i := 2) rfl (vis_by rfl) jl_nil)) (lLent_len (lLent_len lNil_len))))
    (sss_cons (ss_set (i := 5) nd rfl (loc_by rfl) (nin_by rfl) (j_le (j_max rfl rfl B.max (j_add (j_lst (ja_cons j_int ja_nil)) (j_list rfl rfl B.list (j_var (i := 3) rfl (vis_by rfl))))) j_int))
    (sss_cons (ss_set (i := 6) nd rfl (loc_by rfl) (nin_by rfl) (j_tuple rfl B.tuple (j_lc (kp := [3]) (own := [("weight", 9)]) rfl nd (si_name (i := 3) rfl (vis_by rfl) (List.contains_iff_mem.mp rfl)) (blkOk_by rfl) (all_nin rfl) (fun _ _ _ _ _ => (sg_name (i := 9) nd rfl (loc_by rfl) (nin_by rfl))) (fun _ _ _ _ _ => PTs.yes) (fun _ _ _ _ _ => (j_ifExp (jt_val (j_var (i := 5) rfl (vis_by rfl))) (J.weak (j_mul (J.cp (j_var (i := 9) rfl (vis_by rfl))) j_int)) (J.weak (j_sub j_int (j_var (i := 9) rfl (vis_by rfl)))))))))
    (sss_cons (ss_set (i := 7) nd rfl (loc_by rfl) (nin_by rfl) (j_callC c__law_chance_builds hr (by decide) rfl tk (jl_lent (i := 1) rfl (vis_by rfl) (jl_lent (i := 2) rfl (vis_by rfl) jl_nil)) (lLent_len (lLent_len lNil_len))))
    (sss_cons (ss_for (kq := [0]) (passes_of rfl) rfl (si_items (j_tup (ja_cons (j_move (i := 3) rfl (vis_by rfl)) (ja_cons (j_move (i := 4) rfl (vis_by rfl)) (ja_cons (j_move (i := 3) rfl (vis_by rfl)) (ja_cons (j_move (i := 6) rfl (vis_by rfl)) ja_nil)))))) (sg_name (i := 8) nd rfl (loc_by rfl) (nin_by rfl)) (sss_one (ss_if (jt_not (jt_val (j_callC c__law_is_asked hr (by decide) rfl tk (jl_lent (i := 2) rfl (vis_by rfl) (jl_lent (i := 8) rfl (vis_by rfl) (jl_lent (i := 7) rfl (vis_by rfl) jl_nil))) (lLent_len (lLent_len (lLent_len lNil_len)))))) (sss_one (ss_ret j_bl)) sss_nil)) (all_in rfl))
    (sss_one (ss_ret j_bl))))))))))

end
end DV
set_option Elab.async false
set_option linter.all false
set_option maxRecDepth 100000
set_option maxHeartbeats 4000000
namespace DV
open PySem PySem.Spec PyProof.Rows L2
def dI (cs : List Int) : List D := cs.map .int
theorem dI_pure (cs : List Int) : D.pures (dI cs) = true := pures_all.mpr fun d hd => by
  obtain ⟨c, _, rfl⟩ := List.mem_map.mp hd
  rfl
/-- the drawer's box -/
def IsD (d : D) : Prop := ∃ (cs : List Int) (p s g : Int), d = .lst [.lst (dI cs), .int p, .int s, .int g] ∧ 0 ≤ p ∧ 0 ≤ s ∧ 0 ≤ g
theorem isD_pure {d : D} (h : IsD d) : d.pure = false := by
  obtain ⟨cs, p, s, g, rfl, _⟩ := h
  rfl
theorem draw_spec {d : D} {m : Int} (hd : IsD d) (h0 : 0 < m) (h1 : m < 1073741824) : Sat (QdrawF [d, .int m]) fun p => ∃ r d', p = (.int r, [some d', some (.int m)]) ∧ 0 ≤ r ∧ r < m ∧ IsD d' := by
  obtain ⟨cs, p, s, g, rfl, hp, hs, hg⟩ := hd
  have mul2 : ∀ i : Int, fMul 2 i = some (2 * i) := fun i => fMul_ok (.inl ⟨by decide, by decide⟩)
  have mulr : ∀ (i k : Int), 0 ≤ k → k < 100000 → fMul i k = some (i * k) := fun i k h1 h2 => fMul_ok (.inr ⟨by omega, by omega⟩)
  have d2 : ∀ i : Int, fDiv i 2 = some (i / 2) := fun i => fDiv_ok (by decide) (by decide)
  have d16 : ∀ i : Int, fDiv i 16 = some (i / 16) := fun i => fDiv_ok (by decide) (by decide)
  unfold QdrawF
  rw [e_fn]
  by_cases h : 0 < s
  · simp [fGt, h, D.bool, fDiv_ok h0 h1, fMod, h0, ixN, outsL]
    exact ⟨_, _, ⟨rfl, rfl⟩, Int.emod_nonneg _ (by omega), Int.emod_lt_of_pos _ h0, cs, p, s / m, g, rfl, hp, Int.ediv_nonneg hs (by omega), hg⟩
  · by_cases h2 : p < cs.length
    · simp [fGt, h, D.bool, fMod, h0, ixN, outsL, dI, fLt, h2, hp, atI_pos, mul2, fGe, fPow]
      rw [sat_ite]
      have pw : (0 : Int) < 2 ^ 6000 := Int.pow_pos (by decide)
      have es : fShl 1 6000 = some (1 * 2 ^ 6000) := rfl
      constructor
      · intro h3
        rw [Int.one_mul] at es
        generalize (2 : Int) ^ 6000 = big at pw es
        simp [fMod, d2, es, fDiv_ok h0 h1, pw, h0, ixN, outsL]
        exact ⟨_, _, ⟨rfl, rfl⟩, Int.emod_nonneg _ (by omega), Int.emod_lt_of_pos _ h0, cs, _, _, g, rfl, by omega, Int.ediv_nonneg (Int.emod_nonneg _ (by omega)) (by omega), hg⟩
      · intro h3
        simp [fMod, d16, mulr, h0, ixN, outsL]
        exact ⟨_, _, ⟨rfl, rfl⟩, Int.emod_nonneg _ (by omega), Int.emod_lt_of_pos _ h0, cs, _, s, _, rfl, by omega, hs, Int.emod_nonneg _ (by omega)⟩
    · simp [fGt, h, D.bool, d16, mul2, mulr, fMod, h0, ixN, outsL, dI, fLt, h2, hp, fGe, fPow]
      exact ⟨_, _, ⟨rfl, rfl⟩, Int.emod_nonneg _ (by omega), Int.emod_lt_of_pos _ h0, cs, _, s, _, rfl, by omega, hs, Int.emod_nonneg _ (by omega)⟩
theorem begin_spec {cs : List Int} (hl : cs.length ≤ sizeLine) : Sat (QbeginF [.fro (dI cs)]) fun p => ∃ d', p = (d', [some (.fro (dI cs))]) ∧ IsD d' := by
  unfold QbeginF
  rw [e_fn]
  have hp := dI_pure cs
  have hl2 : (dI cs).length ≤ sizeLine := by unfold dI; rw [List.length_map]; exact hl
  simp [e_itemsVF, hp, wipeR, hl2, Src.chk]
  refine (comp_map (fun ρ => ρ = [some (.fro (dI cs)), none]) (fun x y => y = x) rfl (fun _ _ => rfl) fun x hx ρ hr => ?_).mono fun q hq => ?_
  · subst hr
    obtain ⟨c, _, rfl⟩ := List.mem_map.mp hx
    refine ⟨_, rfl, ?_⟩
    simp [wipeR]
  · obtain ⟨h1, h2⟩ := hq
    obtain ⟨ys, ρ⟩ := q
    simp only at h1 h2
    subst h2
    have e := each_eq (f := fun x => x) h1
    rw [List.map_id'] at e
    subst e
    simp [Src.fin, outsL, D.pure, hp, backR, unR]
    exact ⟨cs, 0, 0, 5, rfl, by omega, by omega, by omega⟩
/-- a list or a tuple of plain values -/
def Row (row : D) (ds : List D) : Prop := (row = .lst ds ∨ row = .tup ds) ∧ D.pures ds = true
theorem Row.list {ds : List D} (h : D.pures ds = true) : Row (.lst ds) ds := ⟨.inl rfl, h⟩
theorem Row.tuple {ds : List D} (h : D.pures ds = true) : Row (.tup ds) ds := ⟨.inr rfl, h⟩
theorem pures_mem {ds : List D} {d : D} (h : D.pures ds = true) (hd : d ∈ ds) : d.pure = true := pures_all.mp h d hd
theorem pick_spec {d row : D} {ds : List D} (hd : IsD d) (hr : Row row ds) (h0 : 0 < ds.length) (h1 : ds.length < 1073741824) : Sat (QpickF [d, row]) fun p => ∃ r d', p = (r, [some d', some row]) ∧ r ∈ ds ∧ IsD d' := by
  obtain ⟨hr, hp⟩ := hr
  unfold QpickF
  rw [e_fn]
  have key : ∀ i : Int, 0 ≤ i → i < ds.length → ∃ x, ds[i.toNat]? = some x ∧ x ∈ ds := fun i a b => by
    have hl : i.toNat < ds.length := by omega
    exact ⟨ds[i.toNat], List.getElem?_eq_getElem hl, List.getElem_mem hl⟩
  rcases hr with rfl | rfl
  · simp [e_llent, e_opV]
    refine sat_call (draw_spec hd (m := ds.length) (by omega) (by omega)) (by simp [takeArgs, isD_pure hd]) ?_
    rintro r os ⟨i, d', e, hi0, hi1, hd'⟩
    cases e
    obtain ⟨x, hx, hm⟩ := key i hi0 hi1
    simp [putArgs, leftR, takeArgs, isD_pure hd, opVK_ok, atI_pos, hi0, hx, pures_mem hp hm, outsL]
    exact ⟨_, _, ⟨rfl, rfl⟩, hm, hd'⟩
  · simp [e_llent, e_opV]
    refine sat_call (draw_spec hd (m := ds.length) (by omega) (by omega)) (by simp [takeArgs, isD_pure hd]) ?_
    rintro r os ⟨i, d', e, hi0, hi1, hd'⟩
    cases e
    obtain ⟨x, hx, hm⟩ := key i hi0 hi1
    simp [putArgs, leftR, takeArgs, isD_pure hd, opVK_ok, atI_pos, hi0, hx, pures_mem hp hm, outsL, hp]
    exact ⟨_, _, ⟨rfl, rfl⟩, hm, hd'⟩
theorem rare_spec {d : D} {m : Int} (hd : IsD d) (h0 : 0 < m) (h1 : m < 1073741824) : Sat (QrareF [d, .int m]) fun p => ∃ r d', p = (.bl r, [some d', some (.int m)]) ∧ IsD d' := by
  unfold QrareF
  rw [e_fn]
  simp [e_llent]
  refine sat_call (draw_spec hd h0 h1) (by simp [takeArgs, isD_pure hd]) ?_
  rintro r os ⟨i, d', e, hi0, hi1, hd'⟩
  cases e
  simp [putArgs, leftR, takeArgs, isD_pure hd, fDiv_ok (i := m) (j := 2) (by decide) (by decide), outsL]
  by_cases hi : i = m / 2
  · exact .inr ⟨_, ⟨hi, rfl⟩, hd'⟩
  · exact .inl ⟨_, ⟨hi, rfl⟩, hd'⟩
theorem shuf_step {d' row : D} {left found : List D} {x : Option D} (hd' : IsD d') (hl : 0 < left.length) (h1 : left.length + found.length ≤ 10000000) : Sat (gDrop (gMut 3 oAppend (gCons (gMut 2 oPopAt (gCons (gCall QdrawF (lLent 0 (lOwn (gOp1 oLen (gVar 2)) lNil))) gNil)) gNil)) [some d', some row, some (.lst left), some (.lst found), x])
    fun p => ∃ d2 i, ∃ h : i < left.length, p = (.next, [some d2, some row, some (.lst (left.eraseIdx i)), some (.lst (found ++ [left[i]])), x]) ∧ IsD d2 := by
  have e3 : sizeLine = 16777216 := by rw [sizeLine_eq]
  simp [e_mut, e_llent]
  refine sat_call (draw_spec hd' (m := left.length) (by omega) (by omega)) (by simp [takeArgs, isD_pure hd']) ?_
  rintro r os ⟨i, d2, e, hi0, hi1, hd2⟩
  cases e
  have hlt : i.toNat < left.length := by omega
  have hp := pop_at hi0 hi1 (by omega)
  have hf : found.length < sizeLine := by omega
  simp [putArgs, leftR, takeArgs, isD_pure hd', mutK_ok, hp, hf]
  exact ⟨d2, ⟨rfl, i.toNat, rfl, hlt, rfl⟩, hd2⟩
theorem perm_erase {α : Type} {l : List α} {i : Nat} (h : i < l.length) : (l[i] :: l.eraseIdx i).Perm l := by
  induction l generalizing i with
  | nil => simp at h
  | cons x l ih =>
    cases i with
    | zero => simp
    | succ i =>
      simp only [List.getElem_cons_succ, List.eraseIdx_cons_succ]
      exact (List.Perm.swap _ _ _).trans ((ih (by simpa using h)).cons x)
theorem shuf_loop {d row : D} {ds : List D} (hd : IsD d) (h1 : ds.length ≤ 10000000) : Sat (forL (fun _ => true) (bName 4) (gDrop (gMut 3 oAppend (gCons (gMut 2 oPopAt (gCons (gCall QdrawF (lLent 0 (lOwn (gOp1 oLen (gVar 2)) lNil))) gNil)) gNil))) (rangeD 0 ds.length) [some d, some row, some (.lst ds), some (.lst []), none])
      fun p => ∃ d' ys o o2, p = (.next, [some d', some row, o2, some (.lst ys), o]) ∧ ys.Perm ds ∧ IsD d' := by
  have h0 : (rangeD 0 ds.length).length = ds.length := by simp [rangeD]
  refine forL_inv (fun rest ρ => ∃ d' left found o, ρ = [some d', some row, some (.lst left), some (.lst found), o] ∧ IsD d' ∧ (left ++ found).Perm ds ∧ rest.length = left.length) (fun _ _ _ => rfl) ?_ ?_ ⟨d, ds, [], none, rfl, hd, by rw [List.append_nil], h0⟩
  · rintro x rest ρ ⟨d', left, found, o, rfl, hd', hperm, hl⟩
    refine ⟨_, rfl, ?_⟩
    have e1 := hperm.length_eq
    rw [List.length_append] at e1
    rw [List.length_cons] at hl
    refine (shuf_step hd' (by omega) (by omega)).mono ?_
    rintro _ ⟨d2, i, hlt, rfl, hd2⟩
    refine ⟨d2, _, _, _, rfl, hd2, List.Perm.trans ?_ hperm, ?_⟩
    · have hx := perm_erase hlt
      have h2 : (left.eraseIdx i ++ (found ++ [left[i]])).Perm (left[i] :: left.eraseIdx i ++ found) := by
        rw [← List.append_assoc]
        exact List.perm_append_comm
      exact h2.trans (hx.append_right found)
    · rw [List.length_eraseIdx, if_pos hlt]
      omega
  · rintro ρ ⟨d', left, found, o, rfl, hd', hperm, hl⟩
    have e : left = [] := List.length_eq_zero_iff.mp hl.symm
    subst e
    exact ⟨d', found, o, _, rfl, by simpa using hperm, hd'⟩
theorem shuffled_spec {d row : D} {ds : List D} (hd : IsD d) (hr : Row row ds) (h1 : ds.length ≤ 10000000) : Sat (QshuffledF [d, row]) fun p => ∃ ys d', p = (.lst ys, [some d', some row]) ∧ ys.Perm ds ∧ IsD d' := by
  obtain ⟨hr, hp⟩ := hr
  unfold QshuffledF
  rw [e_fn]
  rcases hr with rfl | rfl
  · simp [hp, rg1_len h1]
    refine (shuf_loop hd h1).mono ?_
    rintro _ ⟨d', ys, o, o2, rfl, hy, hd'⟩
    simp [e_move, outsL, isD_pure hd]
    exact ⟨_, _, ⟨rfl, rfl⟩, hy, hd'⟩
  · simp [hp, rg1_len h1]
    refine (shuf_loop hd h1).mono ?_
    rintro _ ⟨d', ys, o, o2, rfl, hy, hd'⟩
    simp [e_move, outsL, isD_pure hd, hp]
    exact ⟨_, _, ⟨rfl, rfl⟩, hy, hd'⟩
end DV
set_option Elab.async false
set_option linter.all false
set_option maxRecDepth 100000
set_option maxHeartbeats 4000000
namespace DV
open PySem PySem.Spec PyProof.Rows L2
theorem cutL_to {α : Type} {xs : List α} {m : Int} (h : 0 ≤ m) : cutL xs none (some m) = xs.take m.toNat := by
  unfold cutL HT.sIx
  simp only [if_neg (show ¬ m < 0 by omega), List.drop_zero, Nat.sub_zero]
  by_cases hm : m.toNat ≤ xs.length
  · rw [Nat.min_eq_left hm]
  · rw [Nat.min_eq_right (by omega), List.take_of_length_le (Nat.le_refl _), List.take_of_length_le (by omega)]
theorem cutL_from {α : Type} {xs : List α} {m : Int} (h : 0 ≤ m) : cutL xs (some m) none = xs.drop m.toNat := by
  unfold cutL HT.sIx
  simp only [if_neg (show ¬ m < 0 by omega)]
  by_cases hm : m.toNat ≤ xs.length
  · rw [Nat.min_eq_left hm, List.take_of_length_le (by rw [List.length_drop]; exact Nat.le_refl _)]
  · rw [Nat.min_eq_right (by omega), Nat.sub_self, List.take_zero, List.drop_eq_nil_of_le (by omega)]
@[simp] theorem sl_l {ds : List D} {lo hi : Option Int} : oSl (.lst ds) lo hi = if D.pures ds = true then some (.lst (cutL ds lo hi)) else none := rfl
@[simp] theorem sl_t {ds : List D} {lo hi : Option Int} : oSl (.tup ds) lo hi = if D.pures ds = true then some (.tup (cutL ds lo hi)) else none := rfl
theorem pures_perm {xs ys : List D} (h : xs.Perm ys) : D.pures xs = D.pures ys := by
  have e : ∀ {a b : List D}, a.Perm b → D.pures a = true → D.pures b = true := fun p q => pures_all.mpr fun d hd => pures_all.mp q d (p.mem_iff.mpr hd)
  cases hx : D.pures xs with
  | true => exact (e h hx).symm
  | false =>
    cases hy : D.pures ys with
    | false => rfl
    | true => rw [e h.symm hy] at hx; cases hx
theorem some_spec {d row : D} {ds : List D} {m : Int} (hd : IsD d) (hr : Row row ds) (h1 : ds.length ≤ 10000000) (hm : 0 ≤ m) : Sat (QsomeF [d, row, .int m]) fun p => ∃ (ys zs : List D) (d' : D), p = (.lst ys, [some d', some row, some (.int m)]) ∧ zs.Perm ds ∧ ys = zs.take m.toNat ∧ IsD d' := by
  have hr' := hr
  obtain ⟨hr0, hp⟩ := hr'
  unfold QsomeF
  rw [e_fn]
  rcases hr0 with rfl | rfl
  · simp [e_llent]
    refine sat_call (shuffled_spec hd hr h1) (by simp [takeArgs, isD_pure hd]) ?_
    rintro r os ⟨zs, d', e, hz, hd'⟩
    cases e
    have hpz : D.pures zs = true := by rw [pures_perm hz]; exact hp
    simp [putArgs, leftR, takeArgs, isD_pure hd, hpz, cutL_to hm, outsL]
    exact ⟨_, _, _, ⟨rfl, rfl⟩, hz, rfl, hd'⟩
  · simp [e_llent]
    refine sat_call (shuffled_spec hd hr h1) (by simp [takeArgs, isD_pure hd, hp]) ?_
    rintro r os ⟨zs, d', e, hz, hd'⟩
    cases e
    have hpz : D.pures zs = true := by rw [pures_perm hz]; exact hp
    simp [putArgs, leftR, takeArgs, isD_pure hd, hpz, cutL_to hm, outsL, hp]
    exact ⟨_, _, _, ⟨rfl, rfl⟩, hz, rfl, hd'⟩
/-- a text of one sign -/
def Sign (d : D) : Prop := ∃ c, d = .str ⟨#[c]⟩
theorem sign_of {z : Str} {d : D} (h : d ∈ signs z) : Sign d := by
  unfold signs at h
  obtain ⟨c, _, rfl⟩ := List.mem_map.mp h
  exact ⟨c, rfl⟩
theorem signs_len {z : Str} : (signs z).length = z.length := by
  unfold signs
  rw [List.length_map, Array.length_toList]
  rfl
@[simp] theorem list_s {z : Str} : oList (.str z) = if z.length ≤ sizeLine then some (.lst (signs z)) else none := rfl
theorem letters_spec {d : D} {m : Int} (hd : IsD d) (h0 : 0 < m) (h1 : m ≤ 26) : Sat (QlettersF [d, .int m]) fun p => ∃ ys d', p = (.lst ys, [some d', some (.int m)]) ∧ ys.length = m.toNat ∧ (∀ y ∈ ys, Sign y) ∧ IsD d' := by
  have e3 : sizeLine = 16777216 := by rw [sizeLine_eq]
  have hz : ("abcdefghijklmnopqrstuvwxyz" : Str).length = 26 := by decide
  unfold QlettersF
  rw [e_fn]
  simp [e_llent]
  rw [hz, if_pos (by omega)]
  simp
  refine sat_call (some_spec (m := m) hd (Row.list (pures_signs _)) (by rw [signs_len, hz]; decide) (by omega)) (by simp [takeArgs, isD_pure hd]) ?_
  rintro r os ⟨ys, zs, d', e, hz2, rfl, hd'⟩
  cases e
  simp [putArgs, leftR, takeArgs, isD_pure hd, outsL]
  refine ⟨_, _, ⟨rfl, rfl⟩, ?_, fun y hy => ?_, hd'⟩
  · rw [List.length_take, hz2.length_eq, signs_len, hz]
    omega
  · exact sign_of (hz2.mem_iff.mp (List.mem_of_mem_take hy))
end DV
set_option Elab.async false
set_option linter.all false
set_option maxRecDepth 100000
set_option maxHeartbeats 4000000
namespace DV
open PySem PySem.Spec PyProof.Rows L2
theorem each_len {α β : Type} {R : α → β → Prop} {xs : List α} {ys : List β} (h : PySem.W.EachIs R xs ys) : ys.length = xs.length := h.length.symm
theorem each_all {α β : Type} {R : α → β → Prop} {S : β → Prop} (hm : ∀ a b, R a b → S b) : ∀ {xs : List α} {ys : List β}, PySem.W.EachIs R xs ys → ∀ y ∈ ys, S y
  | _, _, .nil, y, hy => nomatch hy
  | _, _, .cons h t, y, hy => by
    rcases List.mem_cons.mp hy with e | hy
    · rw [e]; exact hm _ _ h
    · exact each_all hm t y hy
/-- texts no longer than L -/
theorem strs_of {L : Nat} : ∀ {ys : List D}, (∀ y ∈ ys, ∃ x, y = .str x ∧ x.length ≤ L) → ∃ zs, D.strs ys = some zs ∧ zs.length = ys.length ∧ (zs.map (·.length)).sum ≤ ys.length * L
  | [], _ => ⟨[], rfl, rfl, by simp⟩
  | y :: ys, h => by
    obtain ⟨x, rfl, hx⟩ := h y List.mem_cons_self
    obtain ⟨zs, e, hl, hs⟩ := strs_of fun z hz => h z (List.mem_cons_of_mem _ hz)
    refine ⟨x :: zs, by rw [D.strs, e]; rfl, by simp [hl], ?_⟩
    simp only [List.map_cons, List.sum_cons, List.length_cons, Nat.succ_mul]
    omega
theorem join_ok {L : Nat} {ys : List D} (h : ∀ y ∈ ys, ∃ x, y = .str x ∧ x.length ≤ L) (hz : ys.length * L ≤ 10000000) : ∃ x, oJoin1 "" (.lst ys) = some (.str x) ∧ x.length ≤ ys.length * L := by
  obtain ⟨zs, e, hl, hs⟩ := strs_of h
  have e0 : ("" : Str).length = 0 := by decide
  refine ⟨Txt.join "" zs, ?_, ?_⟩
  · show oJoin (.str "") (.lst ys) = _
    unfold oJoin
    simp only [D.items, e, e0]
    rw [if_pos (by omega)]
  · have := size_glued ("" : Str) zs
    rw [e0] at this
    show (Builtin.Str.glued "" zs).length ≤ _
    omega
theorem sign_str {d : D} (h : Sign d) : ∃ x, d = .str x ∧ x.length ≤ 1 := by
  obtain ⟨c, rfl⟩ := h
  exact ⟨_, rfl, Nat.le_refl _⟩
theorem signs_pure {ds : List D} (h : ∀ y ∈ ds, Sign y) : D.pures ds = true := pures_all.mpr fun d hd => by
  obtain ⟨c, rfl⟩ := h d hd
  rfl
theorem rangeD_len {i : Int} {n : Nat} : (rangeD i n).length = n := by simp [rangeD]
theorem mem_rangeD {i : Int} {n : Nat} {x : D} (h : x ∈ rangeD i n) : ∃ k : Nat, k < n ∧ x = .int (i + k) := by
  unfold rangeD at h
  obtain ⟨k, hk, rfl⟩ := List.mem_map.mp h
  exact ⟨k, List.mem_range.mp hk, rfl⟩
theorem marks_spec {d : D} {ms : List D} {n : Int} (hd : IsD d) (hm : ∀ y ∈ ms, Sign y) (h0 : 0 < ms.length) (h1 : ms.length ≤ 1000) (hn : 0 ≤ n) (hn1 : n ≤ 100000) : Sat (QmarksF [d, .int n, .lst ms]) fun p => ∃ x d', p = (.str x, [some d', some (.int n), some (.lst ms)]) ∧ IsD d' := by
  have e3 : sizeLine = 16777216 := by rw [sizeLine_eq]
  have hz : (rangeD 0 n.toNat).length ≤ sizeLine := by rw [rangeD_len]; omega
  unfold QmarksF
  rw [e_fn]
  simp [rg1_ok (show -10000000000 ≤ n by omega) (by omega), hz, wipeR]
  refine (comp_map (fun ρ => ∃ d', IsD d' ∧ ρ = [some d', some (.int n), some (.lst ms), none]) (fun _ y => Sign y) ⟨d, hd, rfl⟩ (fun _ _ => rfl) fun x hx ρ hr => ?_).mono ?_
  · obtain ⟨d', hd', rfl⟩ := hr
    refine ⟨_, rfl, ?_⟩
    simp [e_llent]
    refine sat_call (pick_spec hd' (Row.list (signs_pure hm)) h0 (by omega)) (by simp [takeArgs, isD_pure hd']) ?_
    rintro r os ⟨y, d2, e, hy, hd2⟩
    cases e
    simp [putArgs, leftR, takeArgs, isD_pure hd', wipeR]
    exact ⟨hm _ hy, hd2⟩
  · rintro ⟨ys, ρ⟩ ⟨h1, d', hd', e⟩
    simp only at h1 e
    subst e
    have hl := each_len h1
    rw [rangeD_len] at hl
    obtain ⟨x, hj, _⟩ := join_ok (L := 1) (ys := ys) (fun y hy => sign_str (each_all (S := Sign) (fun _ _ h => h) h1 y hy)) (by omega)
    simp [hj, backR, unR, outsL, isD_pure hd]
    first
      | exact hd'
      | exact ⟨_, _, ⟨rfl, rfl⟩, hd'⟩
      | exact ⟨_, ⟨_, rfl⟩, hd'⟩
/-- the sorted list -/
theorem sorted_ok {ds : List D} (h : SortOk ds) : oSorted (.lst ds) = some (.lst (ds.mergeSort D.le)) := by
  unfold oSorted
  have e : (D.lst ds).its = some ds := rfl
  rw [e]
  exact if_pos h
theorem sorted_perm (ds : List D) : (ds.mergeSort D.le).Perm ds := List.mergeSort_perm _ _
theorem sortOk_ints {ns : List Int} (h : ns.length ≤ 10000000) : SortOk (dI ns) := by
  have e3 : sizeLine = 16777216 := by rw [sizeLine_eq]
  have mem : ∀ {d : PyData}, d ∈ (dI ns).map D.py → ∃ i, d = .int i := fun {d} hd => by
    obtain ⟨x, hx, rfl⟩ := List.mem_map.mp hd
    obtain ⟨i, _, rfl⟩ := List.mem_map.mp hx
    exact ⟨i, rfl⟩
  refine ⟨?_, by unfold dI; rw [List.length_map]; omega, fun d hd d' hd' => ?_, Or.inr (fun d hd => ?_), fun d hd => ?_⟩
  · refine vals_all.mpr fun d hd => ?_
    obtain ⟨i, _, rfl⟩ := List.mem_map.mp hd
    rfl
  · obtain ⟨i, rfl⟩ := mem hd
    obtain ⟨j, rfl⟩ := mem hd'
    rfl
  · obtain ⟨i, rfl⟩ := mem hd
    exact ⟨(fun z => nomatch z), (fun xs z => nomatch z)⟩
  · obtain ⟨i, _, rfl⟩ := List.mem_map.mp hd
    exact Nat.zero_le _
/-- (int, int, text) -/
def Tie (d : D) : Prop := ∃ i j x, d = .tup [.int i, .int j, .str x]
theorem sortOk_ties {ds : List D} (h : ∀ d ∈ ds, Tie d) (hl : ds.length ≤ 10000000) : SortOk ds := by
  have e3 : sizeLine = 16777216 := by rw [sizeLine_eq]
  have mem : ∀ {d : PyData}, d ∈ ds.map D.py → ∃ i j x, d = .tuple [.int i, .int j, .str x] := fun {d} hd => by
    obtain ⟨y, hy, rfl⟩ := List.mem_map.mp hd
    obtain ⟨i, j, x, rfl⟩ := h y hy
    exact ⟨i, j, x, rfl⟩
  refine ⟨?_, by omega, fun d hd d' hd' => ?_, .inl fun d hd => ?_, fun d hd => ?_⟩
  · refine vals_all.mpr fun d hd => ?_
    obtain ⟨i, j, x, rfl⟩ := h d hd
    rfl
  · obtain ⟨i, j, x, rfl⟩ := mem hd
    obtain ⟨i', j', x', rfl⟩ := mem hd'
    rfl
  · obtain ⟨i, j, x, rfl⟩ := mem hd
    exact ⟨_, _, rfl⟩
  · obtain ⟨i, j, x, rfl⟩ := h d hd
    simp [D.py, D.pyL, PyData.depth, PyData.depthAll]
/-- (text, int) -/
def Pair (d : D) : Prop := ∃ x i, d = .tup [.str x, .int i]
theorem sortOk_pairs {ds : List D} (h : ∀ d ∈ ds, Pair d) (hl : ds.length ≤ 10000000) : SortOk ds := by
  have e3 : sizeLine = 16777216 := by rw [sizeLine_eq]
  have mem : ∀ {d : PyData}, d ∈ ds.map D.py → ∃ x i, d = .tuple [.str x, .int i] := fun {d} hd => by
    obtain ⟨y, hy, rfl⟩ := List.mem_map.mp hd
    obtain ⟨x, i, rfl⟩ := h y hy
    exact ⟨x, i, rfl⟩
  refine ⟨?_, by omega, fun d hd d' hd' => ?_, .inl fun d hd => ?_, fun d hd => ?_⟩
  · refine vals_all.mpr fun d hd => ?_
    obtain ⟨x, i, rfl⟩ := h d hd
    rfl
  · obtain ⟨x, i, rfl⟩ := mem hd
    obtain ⟨x', i', rfl⟩ := mem hd'
    rfl
  · obtain ⟨x, i, rfl⟩ := mem hd
    exact ⟨_, _, rfl⟩
  · obtain ⟨x, i, rfl⟩ := h d hd
    simp [D.py, D.pyL, PyData.depth, PyData.depthAll]
end DV
set_option Elab.async false
set_option linter.all false
set_option maxRecDepth 100000
set_option maxHeartbeats 4000000
namespace DV
open PySem PySem.Spec PyProof.Rows L2
theorem ints_of : ∀ {ys : List D}, (∀ y ∈ ys, ∃ i, y = .int i) → ∃ ns : List Int, ys = dI ns
  | [], _ => ⟨[], rfl⟩
  | y :: ys, h => by
    obtain ⟨i, rfl⟩ := h y List.mem_cons_self
    obtain ⟨ns, e⟩ := ints_of fun z hz => h z (List.mem_cons_of_mem _ hz)
    exact ⟨i :: ns, by rw [e]; rfl⟩
theorem ints0_len {n : Int} : (ints0 n).length = n.toNat := by simp [ints0]
theorem ints0_int {n : Int} {d : D} (h : d ∈ ints0 n) : ∃ i, d = .int i := by
  obtain ⟨k, _, rfl⟩ := List.mem_map.mp h
  exact ⟨_, rfl⟩
theorem ints0_pure {n : Int} : D.pures (ints0 n) = true := pures_all.mpr fun d hd => by
  obtain ⟨i, rfl⟩ := ints0_int hd
  rfl
/-- some of 0 .. n - 1 -/
theorem someI_spec {d : D} {n m : Int} (hd : IsD d) (h0 : 0 ≤ n) (h1 : n ≤ 10000000) (hm : 0 ≤ m) : Sat (QsomeF [d, .lst (ints0 n), .int m]) fun p => ∃ (ns : List Int) (d' : D), p = (.lst (dI ns), [some d', some (.lst (ints0 n)), some (.int m)]) ∧ ns.length = min m.toNat n.toNat ∧ IsD d' := by
  refine (some_spec hd (Row.list ints0_pure) (by rw [ints0_len]; omega) hm).mono ?_
  rintro _ ⟨ys, zs, d', rfl, hz, rfl, hd'⟩
  obtain ⟨ns, e⟩ := ints_of (ys := zs.take m.toNat) fun y hy => ints0_int (hz.mem_iff.mp (List.mem_of_mem_take hy))
  refine ⟨ns, d', by rw [e], ?_, hd'⟩
  have := congrArg List.length e
  rw [List.length_take, hz.length_eq, ints0_len] at this
  unfold dI at this
  rw [List.length_map] at this
  exact this.symm
theorem dI_len {ns : List Int} : (dI ns).length = ns.length := by unfold dI; rw [List.length_map]
theorem sorted_dI {ns : List Int} (h : ns.length ≤ 10000000) : ∃ ms : List Int, oSorted (.lst (dI ns)) = some (.lst (dI ms)) ∧ ms.length = ns.length := by
  have hp := sorted_perm (dI ns)
  obtain ⟨ms, e⟩ := ints_of (ys := (dI ns).mergeSort D.le) fun y hy => by
    obtain ⟨i, _, rfl⟩ := List.mem_map.mp (hp.mem_iff.mp hy)
    exact ⟨i, rfl⟩
  refine ⟨ms, by rw [sorted_ok (sortOk_ints h), e], ?_⟩
  rw [e] at hp
  have := hp.length_eq
  rw [dI_len, dI_len] at this
  exact this
theorem tie_pure {d : D} (h : Tie d) : d.pure = true := by
  obtain ⟨i, j, x, rfl⟩ := h
  rfl
theorem tie_step {d : D} {found strands : List D} {spots : Int} {many k o : Option D} (hd : IsD d) (h2 : 2 ≤ spots) (h3 : spots ≤ 100000) (hs : ∀ y ∈ strands, Sign y) (h0 : 0 < strands.length) (h1 : strands.length ≤ 1000) (hf : found.length ≤ 100000) {Q : Fl × Rho → Prop}
    (hQ : ∀ d' t o', IsD d' → Tie t → Q (.next, [some d', some (.int spots), many, some (.lst strands), some (.lst (found ++ [t])), k, o'])) :
    Sat (gSeq (gSet 6 (gOp1 oSorted (gCall QsomeF (lLent 0 (lOwn (gOp1 oRange1 (gVar 1)) (lOwn (gC (.int 2)) lNil))))))
    (gDrop (gMut 4 oAppend (gCons (gTup (gCons (gCp (gOp2 oGet (gVar 6) (gC (.int 0)))) (gCons (gCp (gOp2 oGet (gVar 6) (gC (.int 1)))) (gCons (gCall QpickF (lLent 0 (lLent 3 lNil))) gNil)))) gNil))) [some d, some (.int spots), many, some (.lst strands), some (.lst found), k, o]) Q := by
  have e3 : sizeLine = 16777216 := by rw [sizeLine_eq]
  simp [e_llent, range1_ok (show 0 ≤ spots by omega) (by omega)]
  refine sat_call (someI_spec (n := spots) hd (by omega) (by omega) (show (0 : Int) ≤ 2 by decide)) (by simp [takeArgs, isD_pure hd]) ?_
  rintro r os ⟨ns, d', e, hl, hd'⟩
  cases e
  obtain ⟨ms, hms, hl2⟩ := sorted_dI (ns := ns) (by omega)
  have hl3 : ms.length = 2 := by omega
  match ms, hl3, hms with
  | [a, b], _, hms =>
    have hlt : found.length < sizeLine := by omega
    have hms2 : oSorted (.lst (dI ns)) = some (.lst [.int a, .int b]) := hms
    simp [putArgs, leftR, takeArgs, isD_pure hd, hms2, e_mut, e_llent]
    refine sat_call (pick_spec hd' (Row.list (signs_pure hs)) h0 (by omega)) (by simp [takeArgs, isD_pure hd']) ?_
    rintro r os ⟨y, d2, e, hy, hd2⟩
    cases e
    simp [putArgs, leftR, takeArgs, isD_pure hd', mutK_ok, hlt]
    obtain ⟨c, rfl⟩ := hs _ hy
    exact hQ _ _ _ hd2 ⟨_, _, _, rfl⟩
theorem ties_loop {d many : D} {strands : List D} {spots : Int} (hd : IsD d) (h2 : 2 ≤ spots) (h3 : spots ≤ 100000) (hs : ∀ y ∈ strands, Sign y) (h0 : 0 < strands.length) (h1 : strands.length ≤ 1000) {n : Nat} (hn : n ≤ 100000) :
    Sat (forL (fun _ => true) (bName 5) (gSeq (gSet 6 (gOp1 oSorted (gCall QsomeF (lLent 0 (lOwn (gOp1 oRange1 (gVar 1)) (lOwn (gC (.int 2)) lNil))))))
    (gDrop (gMut 4 oAppend (gCons (gTup (gCons (gCp (gOp2 oGet (gVar 6) (gC (.int 0)))) (gCons (gCp (gOp2 oGet (gVar 6) (gC (.int 1)))) (gCons (gCall QpickF (lLent 0 (lLent 3 lNil))) gNil)))) gNil)))) (rangeD 0 n) [some d, some (.int spots), some many, some (.lst strands), some (.lst []), none, none])
    fun p => ∃ d' ts k o, p = (.next, [some d', some (.int spots), some many, some (.lst strands), some (.lst ts), k, o]) ∧ IsD d' ∧ (∀ t ∈ ts, Tie t) ∧ ts.length ≤ 100000 := by
  have e0 : (rangeD 0 n).length = n := rangeD_len
  refine forL_inv (fun rest ρ => ∃ d' ts k o, ρ = [some d', some (.int spots), some many, some (.lst strands), some (.lst ts), k, o] ∧ IsD d' ∧ (∀ t ∈ ts, Tie t) ∧ ts.length + rest.length ≤ 100000) (fun _ _ _ => rfl) ?_ ?_ ⟨d, [], none, none, rfl, hd, (fun t ht => nomatch ht), by rw [e0]; simpa using hn⟩
  · rintro x rest ρ ⟨d', ts, k, o, rfl, hd', ht, hl⟩
    rw [List.length_cons] at hl
    refine ⟨_, rfl, tie_step hd' h2 h3 hs h0 h1 (by omega) fun d2 t o' hd2 ht2 => ?_⟩
    refine ⟨d2, _, _, _, rfl, hd2, fun u hu => ?_, by rw [List.length_append, List.length_singleton]; omega⟩
    rcases List.mem_append.mp hu with z | z
    · exact ht u z
    · rw [List.mem_singleton.mp z]; exact ht2
  · rintro ρ ⟨d', ts, k, o, rfl, hd', ht, hl⟩
    exact ⟨d', ts, k, o, rfl, hd', ht, by simpa using hl⟩
/-- a tuple of ties -/
def Ties (d : D) : Prop := ∃ ts, d = .tup ts ∧ ∀ t ∈ ts, Tie t
theorem ties_spec {d : D} {strands : List D} {spots many : Int} (hd : IsD d) (h3 : spots ≤ 100000) (hs : ∀ y ∈ strands, Sign y) (h0 : 0 < strands.length) (h1 : strands.length ≤ 1000) (hm : 0 ≤ many) (hm1 : many ≤ 100000) :
    Sat (QtiesF [d, .int spots, .int many, .lst strands]) fun p => ∃ t d', p = (t, [some d', some (.int spots), some (.int many), some (.lst strands)]) ∧ Ties t ∧ IsD d' := by
  suffices h : ∀ Q : D × List (Option D) → Prop, (∀ t d', Ties t → IsD d' → Q (t, [some d', some (.int spots), some (.int many), some (.lst strands)])) → Sat (QtiesF [d, .int spots, .int many, .lst strands]) Q from h _ fun t d' h1 h2 => ⟨t, d', rfl, h1, h2⟩
  intro Q hQ
  unfold QtiesF
  rw [e_fn]
  have fin : ∀ {ts : List D}, (∀ t ∈ ts, Tie t) → ts.length ≤ 100000 → oSorted (.lst ts) = some (.lst (ts.mergeSort D.le)) ∧ D.pures (ts.mergeSort D.le) = true ∧ ∀ t ∈ ts.mergeSort D.le, Tie t := fun {ts} ht hl =>
    ⟨sorted_ok (sortOk_ties ht (by omega)), pures_all.mpr fun t h => tie_pure (ht t ((sorted_perm ts).mem_iff.mp h)), fun t h => ht t ((sorted_perm ts).mem_iff.mp h)⟩
  by_cases h2 : 2 ≤ spots
  · simp [fGe, h2, D.bool, rg1_ok (show -10000000000 ≤ many by omega) (by omega)]
    refine (ties_loop hd h2 h3 hs h0 h1 (n := many.toNat) (by omega)).mono ?_
    rintro _ ⟨d', ts, k, o, rfl, hd', ht, hl⟩
    obtain ⟨f1, f2, f3⟩ := fin ht hl
    simp [f1, f2, outsL, isD_pure hd]
    exact hQ _ _ ⟨_, rfl, f3⟩ hd'
  · simp [fGe, h2, D.bool]
    obtain ⟨f1, f2, f3⟩ := fin (ts := []) (fun t ht => nomatch ht) (by simp)
    simp [f1, f2, outsL, isD_pure hd]
    exact hQ _ _ ⟨[], rfl, fun t ht => nomatch ht⟩ hd
end DV
set_option Elab.async false
set_option linter.all false
set_option maxRecDepth 100000
set_option maxHeartbeats 4000000
namespace DV
open PySem PySem.Spec PyProof.Rows L2
theorem get_sign {z : Str} {i : Int} (h0 : 0 ≤ i) (h1 : i < z.length) (h2 : z.length ≤ 1000) : ∃ c, oGet (.str z) (.int i) = some (.str ⟨#[c]⟩) := by
  have e3 : sizeLine = 16777216 := by rw [sizeLine_eq]
  have hl : i.toNat < z.cps.toList.length := by rw [Array.length_toList]; show i.toNat < z.length; omega
  refine ⟨z.cps.toList[i.toNat], ?_⟩
  have e : oGet (.str z) (.int i) = if z.length ≤ sizeLine then (match atI z.cps.toList i with
    | some c => some (D.str ⟨#[c]⟩)
    | none => none) else none := rfl
  rw [e, if_pos (by omega)]
  have e2 : atI z.cps.toList i = z.cps.toList[i.toNat]? := by
    unfold atI ixN
    rw [if_pos h0, if_pos (by omega)]
    rfl
  rw [e2, List.getElem?_eq_getElem hl]
def Name (d : D) : Prop := ∃ x, d = .str x ∧ x.length ≤ 60
theorem name_pure {d : D} (h : Name d) : d.pure = true := by
  obtain ⟨x, rfl, _⟩ := h
  rfl
theorem sign_name {d : D} (h : Sign d) : Name d := by
  obtain ⟨c, rfl⟩ := h
  exact ⟨_, rfl, by show 1 ≤ 60; decide⟩
abbrev zSigns : Str := "abcdefghijklmnopqrstuvwxyzABCDEFGHIJKLMNOPQRSTUVWXYZ0123456789_"
theorem str_app_len {x y : Str} : (x ++ y).length = x.length + y.length := by
  show (x.cps ++ y.cps).size = _
  rw [Array.size_append]
  rfl
theorem name_step {d many : D} {found : List D} {k : Option D} (hd : IsD d) {x : D} (hx : Sign x) (hf : found.length ≤ 1000) (hmp : many.pure = true) {Q : Fl × Rho → Prop}
    (hQ : ∀ d' t, IsD d' → Name t → Q (.next, [some d', some many, some (.str zSigns), some (.lst (found ++ [t])), some x, k])) (hk : ∀ e, k = some e → e.pure = true) :
    Sat (gDrop (gMut 3 oAppend (gCons (gOp2 oAdd (gCp (gVar 4)) (gOp1 (oJoin1 "") (gComp (gRange1 (gCall QdrawF (lLent 0 (lOwn (gC (.int 5)) lNil)))) [5] (bName 5) gYes (gCp (gOpV oGet 2 (gCall QdrawF (lLent 0 (lOwn (gC (.int 63)) lNil)))))))) gNil))
      [some d, some many, some (.str zSigns), some (.lst found), some x, k]) Q := by
  have e3 : sizeLine = 16777216 := by rw [sizeLine_eq]
  obtain ⟨c, rfl⟩ := hx
  have hzl : (zSigns : Str).length = 63 := by decide
  have hlt : found.length < sizeLine := by omega
  simp [e_mut, e_llent]
  refine sat_call (draw_spec (m := 5) hd (by decide) (by decide)) (by simp [takeArgs, isD_pure hd]) ?_
  rintro r os ⟨n, d', e, hn0, hn1, hd'⟩
  cases e
  have hz : (rangeD 0 n.toNat).length ≤ sizeLine := by rw [rangeD_len]; omega
  simp [putArgs, leftR, takeArgs, isD_pure hd, rg1_ok (show -10000000000 ≤ n by omega) (by omega), hz, wipeR]
  refine (comp_map (fun ρ => ∃ d', IsD d' ∧ ρ = [some d', some many, some (.str zSigns), some (.lst found), some (.str ⟨#[c]⟩), none]) (fun _ y => Sign y) ⟨d', hd', rfl⟩ (fun _ _ => rfl) fun y hy ρ hr => ?_).mono ?_
  · obtain ⟨d2, hd2, rfl⟩ := hr
    refine ⟨_, rfl, ?_⟩
    simp [e_llent, e_opV]
    refine sat_call (draw_spec (m := 63) hd2 (by decide) (by decide)) (by simp [takeArgs, isD_pure hd2]) ?_
    rintro r os ⟨i, d3, e, hi0, hi1, hd3⟩
    cases e
    obtain ⟨c2, hc⟩ := get_sign (z := zSigns) hi0 (by rw [hzl]; exact hi1) (by rw [hzl]; decide)
    simp [putArgs, leftR, takeArgs, isD_pure hd2, opVK_ok, hc, wipeR]
    exact ⟨⟨_, rfl⟩, hd3⟩
  · rintro ⟨ys, ρ⟩ ⟨h1, d2, hd2, e⟩
    simp only at h1 e
    subst e
    have hl := each_len h1
    rw [rangeD_len] at hl
    obtain ⟨z, hj, hzlen⟩ := join_ok (L := 1) (ys := ys) (fun y hy => sign_str (each_all (S := Sign) (fun _ _ h => h) h1 y hy)) (by omega)
    have hcl : ((⟨#[c]⟩ : Str)).length = 1 := rfl
    have hadd : oAdd (.str ⟨#[c]⟩) (.str z) = some (.str (⟨#[c]⟩ ++ z)) := by
      rw [add_s, if_pos (by rw [hcl]; omega)]
    have hnm : Name (.str (⟨#[c]⟩ ++ z)) := ⟨_, rfl, by rw [str_app_len, hcl]; omega⟩
    have hb : backR [some d', some many, some (.str zSigns), some (.lst found), some (.str ⟨#[c]⟩), k] [5] (unR [some d2, some many, some (.str zSigns), some (.lst found), some (.str ⟨#[c]⟩), none] [5]) = [some d2, some many, some (.str zSigns), some (.lst found), some (.str ⟨#[c]⟩), k] := by
      cases k with
      | none => simp [backR, unR]
      | some e => simp [backR, unR, hk e rfl]
    simp [hj, hb, hadd, mutK_ok, hlt, -add_s]
    exact hQ _ _ hd2 hnm
end DV
set_option Elab.async false
set_option linter.all false
set_option maxRecDepth 100000
set_option maxHeartbeats 4000000
namespace DV
open PySem PySem.Spec PyProof.Rows L2
theorem names_spec {d : D} {m : Int} (hd : IsD d) (h0 : 0 < m) (h1 : m ≤ 26) {Q : D × List (Option D) → Prop} (hQ : ∀ (ys : List D) (d' : D), ys.length = m.toNat → (∀ y ∈ ys, Name y) → IsD d' → Q (.lst ys, [some d', some (.int m)])) : Sat (QnamesF [d, .int m]) Q := by
  have e3 : sizeLine = 16777216 := by rw [sizeLine_eq]
  have hz : ("ABCDEFGHIJKLMNOPQRSTUVWXYZ" : Str).length = 26 := by decide
  unfold QnamesF
  rw [e_fn]
  simp [e_llent]
  rw [hz, if_pos (by omega)]
  simp
  refine sat_call (some_spec (m := m) hd (Row.list (pures_signs _)) (by rw [signs_len, hz]; decide) (by omega)) (by simp [takeArgs, isD_pure hd]) ?_
  rintro r os ⟨ys, zs, d', e, hz2, hy, hd'⟩
  cases e
  have hs : ∀ y ∈ ys, Sign y := fun y hm => by rw [hy] at hm; exact sign_of (hz2.mem_iff.mp (List.mem_of_mem_take hm))
  have hlen : ys.length = m.toNat := by
    rw [hy, List.length_take, hz2.length_eq, signs_len, hz]
    omega
  simp [putArgs, leftR, takeArgs, isD_pure hd, itemsK_ok (show (D.lst ys).items = some ys from rfl) (signs_pure hs)]
  refine (forL_inv (Q := fun p => ∃ ts d2 f, p = (.next, [some d2, some (.int m), some (.str zSigns), some (.lst ts), f, none]) ∧ ts.length = m.toNat ∧ (∀ t ∈ ts, Name t) ∧ IsD d2)
    (fun rest ρ => ∃ ts d2 f, ρ = [some d2, some (.int m), some (.str zSigns), some (.lst ts), f, none] ∧ ts.length + rest.length = m.toNat ∧ (∀ t ∈ ts, Name t) ∧ IsD d2 ∧ ∀ y ∈ rest, Sign y) (fun _ _ _ => rfl) ?_ ?_ ⟨[], d', none, rfl, by simpa using hlen, (fun t ht => nomatch ht), hd', hs⟩).mono ?_
  · rintro x rest ρ ⟨ts, d2, f, rfl, hl, ht, hd2, hs2⟩
    rw [List.length_cons] at hl
    refine ⟨_, rfl, name_step hd2 (hs2 x List.mem_cons_self) (by omega) rfl (fun d3 t hd3 ht3 => ?_) (fun e he => nomatch he)⟩
    refine ⟨_, d3, _, rfl, by rw [List.length_append, List.length_singleton]; omega, fun u hu => ?_, hd3, fun y hy => hs2 y (List.mem_cons_of_mem _ hy)⟩
    rcases List.mem_append.mp hu with z | z
    · exact ht u z
    · rw [List.mem_singleton.mp z]; exact ht3
  · rintro ρ ⟨ts, d2, f, rfl, hl, ht, hd2, _⟩
    exact ⟨ts, d2, f, rfl, by simpa using hl, ht, hd2⟩
  · rintro _ ⟨ts, d2, f, rfl, hl, ht, hd2⟩
    simp [e_move, outsL, isD_pure hd]
    exact hQ ts d2 hl ht hd2

/-! ### rules -/
/-- a pair's or a slot's name; its number -/
def PairA (d : D) : Prop := ∃ x i, d = .tup [.str x, .int i] ∧ x.length ≤ 60 ∧ 0 ≤ i ∧ i ≤ 3
/-- a rule: its name, its slots' names -/
def RuleD (d : D) (n : Str) (ss : List Str) : Prop := ∃ m t sl, d = .tup [.str n, .str m, t, .tup sl] ∧ t.pure = true ∧ PySem.W.EachIs (fun s x => ∃ y, s = .tup [.str x, y] ∧ y.pure = true) sl ss
theorem pairA_pure {d : D} (h : PairA d) : d.pure = true := by
  obtain ⟨x, i, rfl, _⟩ := h
  rfl
theorem slots_pure : ∀ {sl : List D} {ss : List Str}, PySem.W.EachIs (fun s x => ∃ y, s = .tup [.str x, y] ∧ D.pure y = true) sl ss → D.pures sl = true
  | _, _, .nil => rfl
  | _, _, .cons h t => by
    obtain ⟨y, rfl, hy⟩ := h
    simp [D.pures, D.pure, hy, slots_pure t]
theorem ruleD_pure {d : D} {n : Str} {ss : List Str} (h : RuleD d n ss) : d.pure = true := by
  obtain ⟨m, t, sl, rfl, ht, hs⟩ := h
  simp [D.pure, D.pures, ht, slots_pure hs]
theorem ties_pure {d : D} (h : Ties d) : d.pure = true := by
  obtain ⟨ts, rfl, ht⟩ := h
  exact pures_all.mpr fun t hm => tie_pure (ht t hm)
/-- the text of a pair -/
def nameOf (d : D) : Str := match d with
  | .tup (.str x :: _) => x
  | _ => ""
def numOf (d : D) : Int := match d with
  | .tup [_, .int i] => i
  | _ => 0
theorem pairA_eq {d : D} (h : PairA d) : d = .tup [.str (nameOf d), .int (numOf d)] ∧ 0 ≤ numOf d ∧ numOf d ≤ 3 := by
  obtain ⟨x, i, rfl, h1, h2, h3⟩ := h
  exact ⟨rfl, h2, h3⟩
end DV
set_option Elab.async false
set_option linter.all false
set_option maxRecDepth 100000
set_option maxHeartbeats 4000000
namespace DV
open PySem PySem.Spec PyProof.Rows L2
theorem ints_dI : ∀ (ns : List Int), D.ints (dI ns) = some ns
  | [] => rfl
  | n :: ns => by
    have e := ints_dI ns
    unfold dI at e ⊢
    simp only [List.map_cons, D.ints, e]
    rfl
theorem max_dI {ns : List Int} (h : 0 < ns.length) : oMax (.lst (dI ns)) = some (.int (maxL ns)) := by
  unfold oMax
  simp only [ints_dI, if_pos h]
theorem maxL_mem {ns : List Int} (h : ns ≠ []) : maxL ns ∈ ns := (maxL_of.maxL_is ns h).1
theorem maxL_le {ns : List Int} {z : Int} (h : z ∈ ns) : z ≤ maxL ns := (maxL_of.maxL_is ns (fun e => by rw [e] at h; cases h)).2 z h
theorem pairs_pure {ds : List D} (h : ∀ y ∈ ds, PairA y) : D.pures ds = true := pures_all.mpr fun d hd => pairA_pure (h d hd)
theorem chk_lck {ds : List D} {i : Nat} {ρ : Rho} (h : ρ[i]? = some (some (.lck ds))) : Src.chk ⟨ds, some i⟩ ρ = true := by
  unfold Src.chk
  simp [h]
theorem fin_lck {ds : List D} {i : Nat} {ρ : Rho} (h : ρ[i]? = some (some (.lck ds))) : Src.fin ⟨ds, some i⟩ ρ = ρ.set i (some (.lst ds)) := by
  unfold Src.fin unlock
  simp [h]
theorem each_map {α β : Type} {f : α → β} {R : α → β → Prop} (hm : ∀ a b, R a b → b = f a) : ∀ {xs : List α} {ys : List β}, PySem.W.EachIs R xs ys → ys = xs.map f
  | _, _, .nil => rfl
  | _, _, .cons h t => by rw [hm _ _ h, each_map hm t]; rfl
theorem each_slots : ∀ {xs ys : List D}, PySem.W.EachIs (fun x y => ∃ z, y = .tup [.str (nameOf x), z] ∧ z.pure = true) xs ys → PySem.W.EachIs (fun s x => ∃ y, s = .tup [.str x, y] ∧ D.pure y = true) ys (xs.map nameOf)
  | _, _, .nil => .nil
  | _, _, .cons h t => .cons h (each_slots t)
theorem rule_spec {d pair : D} {slots marks strands : List D} {inner ties : Int} (hd : IsD d) (hp : PairA pair) (hs : ∀ y ∈ slots, PairA y) (hl : slots.length ≤ 100) (hi0 : 0 ≤ inner) (hi1 : inner ≤ 10) (ht0 : 0 ≤ ties) (ht1 : ties ≤ 100)
    (hm : ∀ y ∈ marks, Sign y) (hm0 : 0 < marks.length) (hm1 : marks.length ≤ 1000) (hg : ∀ y ∈ strands, Sign y) (hg0 : 0 < strands.length) (hg1 : strands.length ≤ 1000) {Q : D × List (Option D) → Prop}
    (hQ : ∀ r d', IsD d' → RuleD r (nameOf pair) (slots.map nameOf) → Q (r, [some d', some pair, some (.lst slots), some (.int inner), some (.int ties), some (.lst marks), some (.lst strands)])) :
    Sat (QruleF [d, pair, .lst slots, .int inner, .int ties, .lst marks, .lst strands]) Q := by
  have e3 : sizeLine = 16777216 := by rw [sizeLine_eq]
  obtain ⟨e, hn0, hn1⟩ := pairA_eq hp
  have hpp := pairA_pure hp
  generalize nameOf pair = pn at e hQ
  generalize numOf pair = pi at e hn0 hn1
  subst e
  have hsp := pairs_pure hs
  have hsz : slots.length ≤ sizeLine := by omega
  unfold QruleF
  rw [e_fn]
  simp [hsp, hsz, wipeR]
  refine (comp_map (fun ρ => ρ = [some d, some (.tup [.str pn, .int pi]), some (.lck slots), some (.int inner), some (.int ties), some (.lst marks), some (.lst strands), none, none, none, none]) (fun x y => y = .int (numOf x - pi)) rfl (fun ρ hρ => by subst hρ; exact chk_lck rfl) fun x hx ρ hr => ?_).mono ?_
  · subst hr
    obtain ⟨ex, hx0, hx1⟩ := pairA_eq (hs x hx)
    refine ⟨_, rfl, ?_⟩
    rw [ex]
    simp [wipeR, fSub, numOf, nameOf]
  · rintro ⟨ys, ρ⟩ ⟨h1, h2⟩
    simp only at h1 h2
    subst h2
    have ey : ys = dI (slots.map fun x => numOf x - pi) := by
      rw [each_map (f := fun x => D.int (numOf x - pi)) (fun _ _ h => h) h1]
      unfold dI
      rw [List.map_map]
      rfl
    subst ey
    have hmx := max_dI (ns := inner :: slots.map fun x => numOf x - pi) (by simp)
    have hmx2 : oMax (.lst (.int inner :: dI (slots.map fun x => numOf x - pi))) = some (.int (maxL (inner :: slots.map fun x => numOf x - pi))) := hmx
    have hown : ∃ own, own = maxL (inner :: slots.map fun x => numOf x - pi) ∧ 0 ≤ own ∧ own ≤ 10 := by
      refine ⟨_, rfl, ?_, ?_⟩
      · have := maxL_le (z := inner) (ns := inner :: slots.map fun x => numOf x - pi) List.mem_cons_self
        omega
      · have := maxL_mem (ns := inner :: slots.map fun x => numOf x - pi) (by simp)
        rcases List.mem_cons.mp this with e | e
        · omega
        · obtain ⟨x, hx, ex⟩ := List.mem_map.mp e
          have := (pairA_eq (hs x hx)).2
          omega
    obtain ⟨own, eo, ho0, ho1⟩ := hown
    rw [← eo] at hmx2
    have hlz : 1 + slots.length ≤ sizeLine := by omega
    simp [fin_lck, backR, unR, dI_pure, dI_len, hlz, hmx2, hsp, hsz, wipeR, e_llent]
    refine (comp_map (fun ρ => ∃ d', IsD d' ∧ ρ = [some d', some (.tup [.str pn, .int pi]), some (.lck slots), some (.int inner), some (.int ties), some (.lst marks), some (.lst strands), some (.int own), some (.int (pi + own)), none, none]) (fun x y => ∃ z, y = .tup [.str (nameOf x), z] ∧ z.pure = true) ⟨d, hd, rfl⟩ (fun ρ hρ => by obtain ⟨d', _, rfl⟩ := hρ; exact chk_lck rfl) fun x hx ρ hr => ?_).mono ?_
    · obtain ⟨d', hd', rfl⟩ := hr
      obtain ⟨ex, hx0, hx1⟩ := pairA_eq (hs x hx)
      refine ⟨_, rfl, ?_⟩
      generalize nameOf x = xn at ex ⊢
      generalize numOf x = xi at ex hx0 hx1
      rw [ex]
      simp [e_llent, range1_ok (show 0 ≤ pi + own by omega) (by omega)]
      refine sat_call (someI_spec (n := pi + own) hd' (by omega) (by omega) hx0) (by simp [takeArgs, isD_pure hd']) ?_
      rintro r os ⟨ns, d2, e, hl2, hd2⟩
      cases e
      simp [putArgs, leftR, takeArgs, isD_pure hd', dI_pure, wipeR]
      first
        | exact hd2
        | exact ⟨dI_pure _, hd2⟩
    · rintro ⟨zs, ρ⟩ ⟨h1, d', hd', e⟩
      simp only at h1 e
      subst e
      have hz := slots_pure (each_slots h1)
      simp [fin_lck, backR, unR, hz, e_llent]
      refine sat_call (marks_spec (n := own) hd' hm hm0 hm1 ho0 (by omega)) (by simp [takeArgs, isD_pure hd']) ?_
      rintro r os ⟨x, d2, e, hd2⟩
      cases e
      simp [putArgs, leftR, takeArgs, isD_pure hd', e_llent]
      refine sat_call (ties_spec (spots := pi + own) (many := ties) hd2 (by omega) hg hg0 hg1 ht0 (by omega)) (by simp [takeArgs, isD_pure hd2]) ?_
      rintro r os ⟨t, d3, e, ht, hd3⟩
      cases e
      simp [putArgs, leftR, takeArgs, isD_pure hd2, e_move, ties_pure ht, hz, outsL, isD_pure hd]
      exact hQ _ _ hd3 ⟨_, _, _, rfl, ties_pure ht, each_slots h1⟩
end DV
set_option Elab.async false
set_option linter.all false
set_option maxRecDepth 100000
set_option maxHeartbeats 4000000
namespace DV
open PySem PySem.Spec PyProof.Rows L2
def ruleOf (d : D) : Str × List Str := match d with
  | .tup [.str n, _, _, .tup sl] => (n, sl.map nameOf)
  | _ => ("", [])
def SlotA (s : D) : Prop := ∃ x y, s = .tup [.str x, y] ∧ y.pure = true
def RuleA (d : D) : Prop := ∃ n m t sl, d = .tup [.str n, .str m, t, .tup sl] ∧ t.pure = true ∧ ∀ s ∈ sl, SlotA s
theorem slotA_pure {s : D} (h : SlotA s) : s.pure = true := by
  obtain ⟨x, y, rfl, hy⟩ := h
  simp [D.pure, D.pures, hy]
theorem ruleA_pure {d : D} (h : RuleA d) : d.pure = true := by
  obtain ⟨n, m, t, sl, rfl, ht, hs⟩ := h
  simp [ht, pures_all.mpr fun s hm => slotA_pure (hs s hm)]
theorem each_names : ∀ {sl : List D} {ss : List Str}, PySem.W.EachIs (fun s x => ∃ y, s = .tup [.str x, y] ∧ D.pure y = true) sl ss → sl.map nameOf = ss ∧ ∀ s ∈ sl, SlotA s
  | _, _, .nil => ⟨rfl, fun s h => nomatch h⟩
  | _, _, .cons h t => by
    obtain ⟨y, rfl, hy⟩ := h
    obtain ⟨e, k⟩ := each_names t
    refine ⟨by rw [List.map_cons, e]; rfl, fun s hs => ?_⟩
    rcases List.mem_cons.mp hs with z | z
    · rw [z]; exact ⟨_, _, rfl, hy⟩
    · exact k s z
theorem ruleD_A {d : D} {n : Str} {ss : List Str} (h : RuleD d n ss) : RuleA d ∧ ruleOf d = (n, ss) := by
  obtain ⟨m, t, sl, rfl, ht, hs⟩ := h
  obtain ⟨e, k⟩ := each_names hs
  exact ⟨⟨_, _, _, _, rfl, ht, k⟩, by show (n, sl.map nameOf) = _; rw [e]⟩
/-- a book's pairs and rules -/
structure BookP (ps rs : List D) (bad : List Str) : Prop where
  pa : ∀ p ∈ ps, PairA p
  p0 : 0 < ps.length
  p1 : ps.length ≤ 16
  ra : ∀ r ∈ rs, RuleA r
  rn : ∀ r ∈ rs, (ruleOf r).1 ∈ ps.map nameOf
  rl : ∀ r ∈ rs, (ruleOf r).2.length ≤ 3
  sn : ∀ r ∈ rs, ∀ s ∈ (ruleOf r).2, s.length ≤ 60
  r1 : rs.length ≤ 450
  bd : bad.length ≤ 3
  gd : ∀ n ∈ ps.map nameOf, n ∉ bad → ∃ r ∈ rs, ruleOf r = (n, [])
theorem BookP.pp {ps rs : List D} {bad : List Str} (h : BookP ps rs bad) : D.pures ps = true := pairs_pure h.pa
theorem BookP.rp {ps rs : List D} {bad : List Str} (h : BookP ps rs bad) : D.pures rs = true := pures_all.mpr fun d hd => ruleA_pure (h.ra d hd)
/-- the rules of a book in the making -/
def RulesP (ps rs : List D) : Prop := ∀ r ∈ rs, RuleA r ∧ (ruleOf r).1 ∈ ps.map nameOf ∧ (ruleOf r).2.length ≤ 3 ∧ ∀ s ∈ (ruleOf r).2, s.length ≤ 60
theorem RulesP.add {ps rs : List D} {p r : D} {ss : List Str} (h : RulesP ps rs) (hp : p ∈ ps) (hr : RuleD r (nameOf p) ss) (hl : ss.length ≤ 3) (hs : ∀ s ∈ ss, s.length ≤ 60) : RulesP ps (rs ++ [r]) := fun x hx => by
  rcases List.mem_append.mp hx with z | z
  · exact h x z
  · rw [List.mem_singleton.mp z]
    obtain ⟨h1, h2⟩ := ruleD_A hr
    rw [h2]
    exact ⟨h1, List.mem_map_of_mem hp, hl, hs⟩
theorem nameOf_len {p : D} (h : PairA p) : (nameOf p).length ≤ 60 := by
  obtain ⟨x, i, rfl, h, _⟩ := h
  exact h
theorem names_pure {ys : List D} (h : ∀ y ∈ ys, Name y) : D.pures ys = true := pures_all.mpr fun d hd => name_pure (h d hd)
theorem book_spec {d : D} {marks strands : List D} {many more slots : Int} (hd : IsD d) (h0 : 0 < many) (h1 : many ≤ 16) (hm0 : 0 ≤ more) (hm1 : more ≤ 400) (hs0 : 0 < slots) (hs1 : slots ≤ 3)
    (hm : ∀ y ∈ marks, Sign y) (hm0' : 0 < marks.length) (hm1' : marks.length ≤ 1000) (hg : ∀ y ∈ strands, Sign y) (hg0 : 0 < strands.length) (hg1 : strands.length ≤ 1000) {Q : D × List (Option D) → Prop}
    (hQ : ∀ top ps rs d', IsD d' → top.length ≤ 60 → BookP ps rs [] → Q (.tup [.str top, .tup ps, .tup rs], [some d', some (.int many), some (.int 3), some (.int more), some (.int slots), some (.lst marks), some (.lst strands)])) :
    Sat (QbookF [d, .int many, .int 3, .int more, .int slots, .lst marks, .lst strands]) Q := by
  have e3 : sizeLine = 16777216 := by rw [sizeLine_eq]
  unfold QbookF
  rw [e_fn]
  simp [e_llent]
  refine sat_call (names_spec (m := many) hd (by omega) (by omega) (Q := fun p => ∃ ys d', p = (.lst ys, [some d', some (.int many)]) ∧ ys.length = many.toNat ∧ (∀ y ∈ ys, Name y) ∧ IsD d') fun ys d' h1 h2 h3 => ⟨ys, d', rfl, h1, h2, h3⟩) (by simp [takeArgs, isD_pure hd]) ?_
  rintro r os ⟨ys, d1, e, hyl, hyn, hd1⟩
  cases e
  have hyp := names_pure hyn
  have hyz : ys.length ≤ sizeLine := by omega
  obtain ⟨y0, yr, ey⟩ : ∃ y0 yr, ys = y0 :: yr := by
    cases ys with
    | nil => simp at hyl; omega
    | cons a b => exact ⟨a, b, rfl⟩
  obtain ⟨x0, ex0, hx0⟩ := hyn y0 (by rw [ey]; exact List.mem_cons_self)
  have hget : ys[0]? = some (.str x0) := by rw [ey, ex0]; rfl
  simp [putArgs, leftR, takeArgs, isD_pure hd, hyp, hyz, wipeR]
  refine (comp_map (fun ρ => ∃ d', IsD d' ∧ ρ = [some d', some (.int many), some (.int 3), some (.int more), some (.int slots), some (.lst marks), some (.lst strands), some (.lck ys), none, none, none, none, none, none, none]) (fun x y => PairA y) ⟨d1, hd1, rfl⟩ (fun ρ hρ => by obtain ⟨d', _, rfl⟩ := hρ; exact chk_lck rfl) fun x hx ρ hr => ?_).mono ?_
  · obtain ⟨d', hd', rfl⟩ := hr
    obtain ⟨xn, rfl, hxn⟩ := hyn x hx
    refine ⟨_, rfl, ?_⟩
    simp [hget]
    by_cases hq : xn = x0
    · simp [hq, wipeR]
      exact ⟨⟨_, _, rfl, hx0, by omega, by omega⟩, hd'⟩
    · simp [hq, e_llent]
      refine sat_call (draw_spec (m := 4) hd' (by decide) (by decide)) (by simp [takeArgs, isD_pure hd']) ?_
      rintro r os ⟨n, d2, e, hn0, hn1, hd2⟩
      cases e
      simp [putArgs, leftR, takeArgs, isD_pure hd', wipeR]
      exact ⟨⟨_, _, rfl, hxn, hn0, by omega⟩, hd2⟩
  · rintro ⟨ps, ρ⟩ ⟨hps, d2, hd2, e⟩
    simp only at hps e
    subst e
    have hpl := each_len hps
    have hpa := each_all (S := PairA) (fun _ _ h => h) hps
    have hpp := pairs_pure hpa
    have hpz : ps.length ≤ sizeLine := by omega
    simp [fin_lck, backR, unR, hpp]
    obtain ⟨I, hI⟩ : ∃ I : List D → Rho → Prop, ∀ rest ρ, I rest ρ ↔ ∃ d' rs o, ρ = [some d', some (.int many), some (.int 3), some (.int more), some (.int slots), some (.lst marks), some (.lst strands), some (.lst ys), some (.lck ps), some (.lst rs), o, none, none, none, none] ∧ IsD d' ∧ RulesP ps rs ∧ rs.length + rest.length ≤ 16 ∧ (∀ p ∈ ps, p ∈ rest ∨ ∃ r ∈ rs, ruleOf r = (nameOf p, [])) ∧ ∀ p ∈ rest, p ∈ ps := ⟨_, fun _ _ => Iff.rfl⟩
    refine (forL_inv (Q := fun p => ∃ d' rs o, p = (.next, [some d', some (.int many), some (.int 3), some (.int more), some (.int slots), some (.lst marks), some (.lst strands), some (.lst ys), some (.lck ps), some (.lst rs), o, none, none, none, none]) ∧ IsD d' ∧ RulesP ps rs ∧ rs.length ≤ 16 ∧ ∀ p ∈ ps, ∃ r ∈ rs, ruleOf r = (nameOf p, []))
      I (fun _ _ h => by obtain ⟨_, _, _, e, _⟩ := (hI _ _).mp h; rw [e]; exact chk_lck rfl) ?_ ?_ ((hI _ _).mpr ⟨d2, [], none, rfl, hd2, (fun r h => nomatch h), by simp; omega, fun p hp => .inl hp, fun p hp => hp⟩)).mono ?_
    · intro x rest ρ hρ
      obtain ⟨d', rs, o, rfl, hd', hrp, hl, hc, hsub⟩ := (hI _ _).mp hρ
      rw [List.length_cons] at hl
      have hx := hsub x List.mem_cons_self
      obtain ⟨ex, hx0, hx1⟩ := pairA_eq (hpa x hx)
      have hxa := hpa x hx
      refine ⟨_, rfl, ?_⟩
      simp [e_mut, e_llent]
      refine sat_call (draw_spec (m := 2) hd' (by decide) (by decide)) (by simp [takeArgs, isD_pure hd']) ?_
      rintro r os ⟨n, d3, e, hn0, hn1, hd3⟩
      cases e
      obtain ⟨b, hb⟩ : ∃ b : Bool, oGet x (.int 1) = some (.int (numOf x)) ∧ oEq false (.int (numOf x)) (.int 0) = some (.bl b) := by
        rw [ex]
        exact ⟨_, by simp [numOf], eq_i⟩
      have hb3 : PyProof.Rows.b2i b = 0 ∨ PyProof.Rows.b2i b = 1 := by cases b <;> simp [PyProof.Rows.b2i]
      have hadd : oAdd (.int n) (.bl b) = some (.int (n + PyProof.Rows.b2i b)) := rfl
      simp [putArgs, leftR, takeArgs, isD_pure hd', hb.1, hb.2, hadd, e_llent]
      refine sat_call (draw_spec (m := 2) hd3 (by decide) (by decide)) (by simp [takeArgs, isD_pure hd3]) ?_
      rintro r os ⟨n2, d4, e, hm0, hm1, hd4⟩
      cases e
      simp [putArgs, leftR, takeArgs, isD_pure hd3, e_llent]
      refine sat_call (rule_spec (slots := []) (inner := n + PyProof.Rows.b2i b) (ties := 1 + n2) hd4 hxa (fun y h => nomatch h) (by simp) (by omega) (by omega) (by omega) (by omega) hm hm0' hm1' hg hg0 hg1 (Q := fun p => ∃ r d', p = (r, [some d', some x, some (.lst []), some (.int (n + PyProof.Rows.b2i b)), some (.int (1 + n2)), some (.lst marks), some (.lst strands)]) ∧ IsD d' ∧ RuleD r (nameOf x) []) fun r d' h1 h2 => ⟨r, d', rfl, h1, h2⟩) (by simp [takeArgs, isD_pure hd4, pairA_pure hxa]) ?_
      rintro r os ⟨r, d5, e, hd5, hr⟩
      cases e
      have hrl : rs.length < sizeLine := by omega
      simp [putArgs, leftR, takeArgs, isD_pure hd4, pairA_pure hxa, mutK_ok, hrl]
      refine (hI _ _).mpr ⟨d5, _, _, rfl, hd5, hrp.add hx hr (by simp) (by simp), by simp; omega, fun p hp => ?_, fun p hp => hsub p (List.mem_cons_of_mem _ hp)⟩
      rcases hc p hp with z | ⟨r', h1, h2⟩
      · rcases List.mem_cons.mp z with z | z
        · exact .inr ⟨r, List.mem_append_right _ (by simp), by rw [z, (ruleD_A hr).2]⟩
        · exact .inl z
      · exact .inr ⟨r', List.mem_append_left _ h1, h2⟩
    · intro ρ hρ
      obtain ⟨d', rs, o, rfl, hd', hrp, hl, hc, hsub⟩ := (hI _ _).mp hρ
      exact ⟨d', rs, o, rfl, hd', hrp, by simpa using hl, fun p hp => (hc p hp).resolve_left (fun z => nomatch z)⟩
    rintro _ ⟨d3, rs0, o, rfl, hd3, hrp0, hl0, hc0⟩
    simp [fin_lck, rg1_ok (show -10000000000 ≤ more by omega) (by omega)]
    have step2 : ∀ {x : D} {dA : D} {rs : List D} {o k u j : Option D} {Q : Fl × Rho → Prop}, IsD dA → RulesP ps rs → rs.length ≤ 10000 → (∃ i : Int, x = .int i) →
        (∀ d' r o u p ss, IsD d' → p ∈ ps → RuleD r (nameOf p) ss → ss.length ≤ 3 → (∀ s ∈ ss, s.length ≤ 60) → Q (.next, [some d', some (.int many), some (.int 3), some (.int more), some (.int slots), some (.lst marks), some (.lst strands), some (.lst ys), some (.lst ps), some (.lst (rs ++ [r])), o, some x, u, none, none])) →
        Sat (gSeq
        (gSet 10
          (gIf (gTest (gOp2 (oEq false) (gCp (gVar 11)) (gC (D.int 0)))) (gCp (gOp2 oGet (gVar 8) (gC (D.int 0))))
            (gCall QpickF (lLent 0 (lLent 8 lNil)))))
        (gSeq
          (gSet 12
            (gComp (gRange1 (gOp2 oAdd (gC (D.int 1)) (gCall QdrawF (lLent 0 (lLent 4 lNil))))) [14] (bName 14) gYes
              (gCall QpickF (lLent 0 (lLent 8 lNil)))))
          (gDrop
            (gMut 9 oAppend
              (gCons
                (gCall QruleF
                  (lLent 0
                    (lLent 10
                      (lLent 12
                        (lOwn (gCall QdrawF (lLent 0 (lOwn (gC (D.int 2)) lNil)))
                          (lOwn (gCall QdrawF (lLent 0 (lOwn (gC (D.int 3)) lNil))) (lLent 5 (lLent 6 lNil))))))))
                gNil))))
          [some dA, some (.int many), some (.int 3), some (.int more), some (.int slots), some (.lst marks), some (.lst strands), some (.lst ys), some (.lst ps), some (.lst rs), o, some x, u, none, none]) Q := by
      rintro x dA rs o k u j Q hdA hrs hrl ⟨i, rfl⟩ hQ
      have tail : ∀ {p dB : D}, p ∈ ps → IsD dB → Sat ((gSeq
          (gSet 12
            (gComp (gRange1 (gOp2 oAdd (gC (D.int 1)) (gCall QdrawF (lLent 0 (lLent 4 lNil))))) [14] (bName 14) gYes
              (gCall QpickF (lLent 0 (lLent 8 lNil)))))
          (gDrop
            (gMut 9 oAppend
              (gCons
                (gCall QruleF
                  (lLent 0
                    (lLent 10
                      (lLent 12
                        (lOwn (gCall QdrawF (lLent 0 (lOwn (gC (D.int 2)) lNil)))
                          (lOwn (gCall QdrawF (lLent 0 (lOwn (gC (D.int 3)) lNil))) (lLent 5 (lLent 6 lNil))))))))
                gNil)))) [some dB, some (.int many), some (.int 3), some (.int more), some (.int slots), some (.lst marks), some (.lst strands), some (.lst ys), some (.lst ps), some (.lst rs), some p, some (.int i), u, none, none]) Q := by
        intro p dB hp hdB
        have hpA := hpa p hp
        have hpP := pairA_pure hpA
        simp [e_llent]
        refine sat_call (draw_spec (m := slots) hdB (by omega) (by omega)) (by simp [takeArgs, isD_pure hdB]) ?_
        rintro r os ⟨n, dC, e, hn0, hn1, hdC⟩
        cases e
        have hz : (rangeD 0 (1 + n).toNat).length ≤ sizeLine := by rw [rangeD_len]; omega
        simp [putArgs, leftR, takeArgs, isD_pure hdB, rg1_ok (show -10000000000 ≤ 1 + n by omega) (by omega), hz, wipeR]
        refine (comp_map (fun ρ => ∃ d', IsD d' ∧ ρ = [some d', some (.int many), some (.int 3), some (.int more), some (.int slots), some (.lst marks), some (.lst strands), some (.lst ys), some (.lst ps), some (.lst rs), some p, some (.int i), u, none, none]) (fun _ y => y ∈ ps) ⟨dC, hdC, rfl⟩ (fun _ _ => rfl) fun x hx ρ hr => ?_).mono ?_
        · obtain ⟨d', hd', rfl⟩ := hr
          refine ⟨_, rfl, ?_⟩
          simp [e_llent]
          refine sat_call (pick_spec hd' (Row.list hpp) (by omega) (by omega)) (by simp [takeArgs, isD_pure hd']) ?_
          rintro r os ⟨y, dD, e, hy, hdD⟩
          cases e
          simp [putArgs, leftR, takeArgs, isD_pure hd', wipeR]
          exact ⟨hy, hdD⟩
        · rintro ⟨us, ρ⟩ ⟨hus, dD, hdD, e⟩
          simp only at hus e
          subst e
          have hul := each_len hus
          rw [rangeD_len] at hul
          have hum := each_all (S := fun y => y ∈ ps) (fun _ _ h => h) hus
          simp [backR, unR, e_mut, e_llent]
          refine sat_call (draw_spec (m := 2) hdD (by decide) (by decide)) (by simp [takeArgs, isD_pure hdD]) ?_
          rintro r os ⟨n1, dE, e, hn10, hn11, hdE⟩
          cases e
          simp [putArgs, leftR, takeArgs, isD_pure hdD, e_llent]
          refine sat_call (draw_spec (m := 3) hdE (by decide) (by decide)) (by simp [takeArgs, isD_pure hdE]) ?_
          rintro r os ⟨n2, dF, e, hn20, hn21, hdF⟩
          cases e
          simp [putArgs, leftR, takeArgs, isD_pure hdE, e_llent]
          refine sat_call (rule_spec (slots := us) (inner := n1) (ties := n2) hdF hpA (fun y h => hpa y (hum y h)) (by omega) (by omega) (by omega) (by omega) (by omega) hm hm0' hm1' hg hg0 hg1 (Q := fun p' => ∃ r d', p' = (r, [some d', some p, some (.lst us), some (.int n1), some (.int n2), some (.lst marks), some (.lst strands)]) ∧ IsD d' ∧ RuleD r (nameOf p) (us.map nameOf)) fun r d' h1 h2 => ⟨r, d', rfl, h1, h2⟩) (by simp [takeArgs, isD_pure hdF, hpP]) ?_
          rintro r os ⟨r, dG, e, hdG, hr⟩
          cases e
          have hrl : rs.length < sizeLine := by omega
          simp [putArgs, leftR, takeArgs, isD_pure hdF, hpP, mutK_ok, hrl]
          exact hQ _ _ _ _ _ _ hdG hp hr (by rw [List.length_map]; omega) fun s hs => by obtain ⟨u, hu, rfl⟩ := List.mem_map.mp hs; exact nameOf_len (hpa u (hum u hu))
      obtain ⟨p0, pr, ep⟩ : ∃ p0 pr, ps = p0 :: pr := by
        cases ps with
        | nil => simp at hpl; omega
        | cons a b => exact ⟨a, b, rfl⟩
      have hp0 : p0 ∈ ps := by rw [ep]; exact List.mem_cons_self
      have hg0 : ps[0]? = some p0 := by rw [ep]; rfl
      generalize (gSeq
          (gSet 12
            (gComp (gRange1 (gOp2 oAdd (gC (D.int 1)) (gCall QdrawF (lLent 0 (lLent 4 lNil))))) [14] (bName 14) gYes
              (gCall QpickF (lLent 0 (lLent 8 lNil)))))
          (gDrop
            (gMut 9 oAppend
              (gCons
                (gCall QruleF
                  (lLent 0
                    (lLent 10
                      (lLent 12
                        (lOwn (gCall QdrawF (lLent 0 (lOwn (gC (D.int 2)) lNil)))
                          (lOwn (gCall QdrawF (lLent 0 (lOwn (gC (D.int 3)) lNil))) (lLent 5 (lLent 6 lNil))))))))
                gNil)))) = B at tail ⊢
      by_cases hi : i = 0
      · subst hi
        simp [hg0, pairA_pure (hpa _ hp0)]
        exact tail hp0 hdA
      · simp [hi, e_llent]
        refine sat_call (pick_spec hdA (Row.list hpp) (by omega) (by omega)) (by simp [takeArgs, isD_pure hdA]) ?_
        rintro r os ⟨y, dB, e, hy, hdB⟩
        cases e
        simp [putArgs, leftR, takeArgs, isD_pure hdA]
        exact tail hy hdB
    obtain ⟨I, hI⟩ : ∃ I : List D → Rho → Prop, ∀ rest ρ, I rest ρ ↔ ∃ d' rs o k u, ρ = [some d', some (.int many), some (.int 3), some (.int more), some (.int slots), some (.lst marks), some (.lst strands), some (.lst ys), some (.lst ps), some (.lst rs), o, k, u, none, none] ∧ IsD d' ∧ RulesP ps rs ∧ rs.length + rest.length ≤ 450 ∧ (∀ p ∈ ps, ∃ r ∈ rs, ruleOf r = (nameOf p, [])) ∧ ∀ p ∈ rest, ∃ i : Int, p = .int i := ⟨_, fun _ _ => Iff.rfl⟩
    refine (forL_inv (Q := fun p => ∃ d' rs o k u, p = (.next, [some d', some (.int many), some (.int 3), some (.int more), some (.int slots), some (.lst marks), some (.lst strands), some (.lst ys), some (.lst ps), some (.lst rs), o, k, u, none, none]) ∧ IsD d' ∧ RulesP ps rs ∧ rs.length ≤ 450 ∧ ∀ p ∈ ps, ∃ r ∈ rs, ruleOf r = (nameOf p, []))
      I (fun _ _ _ => rfl) ?_ ?_ ((hI _ _).mpr ⟨d3, rs0, o, none, none, rfl, hd3, hrp0, by rw [rangeD_len]; omega, hc0, fun p hp => by obtain ⟨k, _, rfl⟩ := mem_rangeD hp; exact ⟨_, rfl⟩⟩)).mono ?_
    · intro x rest ρ hρ
      obtain ⟨d', rs, o, k, u, rfl, hd', hrp, hl, hc, hi⟩ := (hI _ _).mp hρ
      rw [List.length_cons] at hl
      refine ⟨_, rfl, step2 (k := k) (j := none) hd' hrp (by omega) (hi x List.mem_cons_self) fun d4 r o u p ss hd4 hp hr hss hsn => ?_⟩
      exact (hI _ _).mpr ⟨d4, _, o, _, u, rfl, hd4, hrp.add hp hr hss hsn, by simp; omega, fun p hp => by
        obtain ⟨r', h1, h2⟩ := hc p hp
        exact ⟨r', List.mem_append_left _ h1, h2⟩, fun p hp => hi p (List.mem_cons_of_mem _ hp)⟩
    · intro ρ hρ
      obtain ⟨d', rs, o, k, u, rfl, hd', hrp, hl, hc, hi⟩ := (hI _ _).mp hρ
      exact ⟨d', rs, o, k, u, rfl, hd', hrp, by simpa using hl, hc⟩
    rintro _ ⟨d4, rs, o, k, u, rfl, hd4, hrp, hl, hc⟩
    have hsort := sorted_ok (sortOk_pairs (ds := ps) (fun p hp => by obtain ⟨x, i, e, _⟩ := hpa p hp; exact ⟨x, i, e⟩) (by omega))
    have hperm := sorted_perm ps
    have hrsp : D.pures rs = true := pures_all.mpr fun r hr => ruleA_pure (hrp r hr).1
    have hsp : D.pures (ps.mergeSort D.le) = true := by rw [pures_perm hperm]; exact hpp
    simp [hget, hsort, hsp, e_llent]
    refine sat_call (shuffled_spec hd4 (Row.list hrsp) (by omega)) (by simp [takeArgs, isD_pure hd4]) ?_
    rintro r os ⟨zs, d5, e, hz, hd5⟩
    cases e
    have hzp : D.pures zs = true := by rw [pures_perm hz]; exact hrsp
    simp [putArgs, leftR, takeArgs, isD_pure hd4, hzp, outsL, isD_pure hd]
    have hnm : ∀ {n : Str}, n ∈ ps.map nameOf ↔ n ∈ (ps.mergeSort D.le).map nameOf := fun {n} => (hperm.map nameOf).mem_iff.symm
    refine hQ _ _ _ _ hd5 hx0 ⟨fun p hp => hpa p (hperm.mem_iff.mp hp), by rw [hperm.length_eq]; omega, by rw [hperm.length_eq]; omega, fun r hr => (hrp r (hz.mem_iff.mp hr)).1, fun r hr => hnm.mp (hrp r (hz.mem_iff.mp hr)).2.1, fun r hr => (hrp r (hz.mem_iff.mp hr)).2.2.1, fun r hr => (hrp r (hz.mem_iff.mp hr)).2.2.2, by rw [hz.length_eq]; exact hl, by simp, fun n hn _ => ?_⟩
    obtain ⟨p, hp, rfl⟩ := List.mem_map.mp (hnm.mpr hn)
    obtain ⟨r, hr, e⟩ := hc p hp
    exact ⟨r, hz.mem_iff.mpr hr, e⟩
end DV
set_option Elab.async false
set_option linter.all false
set_option maxRecDepth 100000
set_option maxHeartbeats 4000000
namespace DV
open PySem PySem.Spec PyProof.Rows L2
theorem repl_len (z : Str) (n : Nat) : ∀ a : Array Nat, ((List.replicate n z.cps).foldl (· ++ ·) a).size = a.size + n * z.cps.size := by
  induction n with
  | zero => intro a; simp
  | succ n ih =>
    intro a
    rw [List.replicate_succ, List.foldl_cons, ih, Array.size_append, Nat.succ_mul]
    omega
theorem repS_len {z : Str} {n : Int} (hz : z.length = 1) (h : 0 ≤ n) : (repS z n).length = n.toNat := by
  unfold repS
  by_cases h1 : n < 1
  · rw [if_pos h1]
    show 0 = _
    omega
  · rw [if_neg h1]
    split
    · rename_i h2
      have : n = 1 := by
        simp [hz] at h2
        exact h2
      rw [hz, this]
      rfl
    · show ((List.replicate n.toNat z.cps).foldl (· ++ ·) #[]).size = _
      rw [repl_len]
      have : z.cps.size = 1 := hz
      simp [this]
def longN (x : Str) : Str := x ++ repS "_" (60 - x.length)
theorem longN_len {x : Str} (h : x.length ≤ 60) : (longN x).length = 60 := by
  unfold longN
  rw [str_app_len, repS_len (by decide) (by omega)]
  omega
theorem long_name_spec {x : Str} (h : x.length ≤ 60) : Sat (Qlong_nameF [.str x]) fun p => p = (.str (longN x), [some (.str x)]) := by
  have e3 : sizeLine = 16777216 := by rw [sizeLine_eq]
  have hl := longN_len h
  unfold longN at hl
  rw [str_app_len] at hl
  have len_s : ∀ {x : Str}, x.length ≤ 60 → oLen (.str x) = some (.int x.length) := fun {x} h => by
    first
      | rfl
      | exact if_pos (by omega)
  unfold Qlong_nameF
  rw [e_fn]
  simp [fSub, len_s h]
  rw [mulS_ok (by omega) (by omega) (by decide)]
  simp
  rw [if_pos (by omega)]
  simp [outsL]
  rfl
theorem BookP.drop {ps rs : List D} {bad : List Str} (h : BookP ps rs bad) (hb : bad.length < 3) (k : Nat) : ∃ bad', BookP ps (rs.take k ++ rs.drop (k + 1)) bad' ∧ bad'.length ≤ bad.length + 1 := by
  have sub : ∀ {r}, r ∈ rs.take k ++ rs.drop (k + 1) → r ∈ rs := fun {r} hr => by
    rcases List.mem_append.mp hr with z | z
    · exact List.mem_of_mem_take z
    · exact List.mem_of_mem_drop z
  have len : (rs.take k ++ rs.drop (k + 1)).length ≤ rs.length := by
    rw [List.length_append, List.length_take, List.length_drop]
    omega
  have got : ∀ r ∈ rs, r ∈ rs.take k ++ rs.drop (k + 1) ∨ rs[k]? = some r := fun r hr => by
    obtain ⟨i, hi, e⟩ := List.mem_iff_getElem.mp hr
    by_cases h1 : i < k
    · refine .inl (List.mem_append_left _ ?_)
      rw [List.mem_take_iff_getElem]
      exact ⟨i, by omega, e⟩
    · by_cases h2 : i = k
      · subst h2
        exact .inr (by rw [List.getElem?_eq_getElem hi, e])
      · refine .inl (List.mem_append_right _ ?_)
        rw [List.mem_drop_iff_getElem]
        refine ⟨i - (k + 1), by omega, ?_⟩
        rw [← e]
        congr 1
        omega
  refine ⟨(match rs[k]? with | some r => (ruleOf r).1 | none => "") :: bad, ⟨h.pa, h.p0, h.p1, fun r hr => h.ra r (sub hr), fun r hr => h.rn r (sub hr), fun r hr => h.rl r (sub hr), fun r hr => h.sn r (sub hr), Nat.le_trans len h.r1, by simp; omega, fun n hn hb2 => ?_⟩, by simp⟩
  obtain ⟨r, hr, e⟩ := h.gd n hn fun z => hb2 (List.mem_cons_of_mem _ z)
  rcases got r hr with z | z
  · exact ⟨r, z, e⟩
  · refine absurd ?_ hb2
    rw [z]
    simp only [e]
    exact List.mem_cons_self
end DV
set_option Elab.async false
set_option linter.all false
set_option maxRecDepth 100000
set_option maxHeartbeats 4000000
namespace DV
open PySem PySem.Spec PyProof.Rows L2
def longR (r : Str × List Str) : Str × List Str := (longN r.1, r.2.map longN)
theorem each_app {α β : Type} {R : α → β → Prop} {b : β} {a : α} (hr : R a b) : ∀ {xs : List α} {ys : List β}, PySem.W.EachIs R xs ys → PySem.W.EachIs R (xs ++ [a]) (ys ++ [b])
  | _, _, .nil => .cons hr .nil
  | _, _, .cons h t => .cons h (each_app hr t)
theorem each_mem {α β : Type} {R : α → β → Prop} : ∀ {xs : List α} {ys : List β}, PySem.W.EachIs R xs ys → ∀ y ∈ ys, ∃ x ∈ xs, R x y
  | _, _, .nil, y, hy => nomatch hy
  | _, _, .cons h t, y, hy => by
    rcases List.mem_cons.mp hy with e | hy
    · rw [e]; exact ⟨_, List.mem_cons_self, h⟩
    · obtain ⟨x, hx, hr⟩ := each_mem t y hy
      exact ⟨x, List.mem_cons_of_mem _ hx, hr⟩
theorem each_mem' {α β : Type} {R : α → β → Prop} : ∀ {xs : List α} {ys : List β}, PySem.W.EachIs R xs ys → ∀ x ∈ xs, ∃ y ∈ ys, R x y
  | _, _, .nil, y, hy => nomatch hy
  | _, _, .cons h t, y, hy => by
    rcases List.mem_cons.mp hy with e | hy
    · rw [e]; exact ⟨_, List.mem_cons_self, h⟩
    · obtain ⟨x, hx, hr⟩ := each_mem' t y hy
      exact ⟨x, List.mem_cons_of_mem _ hx, hr⟩
theorem BookP.long {ps rs qs us : List D} {bad : List Str} (h : BookP ps rs bad) (hp : qs = ps.map fun p => .tup [.str (longN (nameOf p)), .int (numOf p)]) (hu : PySem.W.EachIs (fun r q => RuleA q ∧ ruleOf q = longR (ruleOf r)) rs us) : BookP qs us (bad.map longN) := by
  subst hp
  have nm : (ps.map fun p => D.tup [.str (longN (nameOf p)), .int (numOf p)]).map nameOf = (ps.map nameOf).map longN := by
    rw [List.map_map, List.map_map]
    rfl
  refine ⟨fun p hp => ?_, by rw [List.length_map]; exact h.p0, by rw [List.length_map]; exact h.p1, fun r hr => ?_, fun r hr => ?_, fun r hr => ?_, fun r hr => ?_, ?_, by rw [List.length_map]; exact h.bd, fun n hn hb => ?_⟩
  · obtain ⟨q, hq, rfl⟩ := List.mem_map.mp hp
    have h1 := pairA_eq (h.pa q hq)
    exact ⟨_, _, rfl, by rw [longN_len (nameOf_len (h.pa q hq))]; exact Nat.le_refl _, h1.2.1, h1.2.2⟩
  · obtain ⟨q, hq, h1, h2⟩ := each_mem hu r hr
    exact h1
  · obtain ⟨q, hq, h1, h2⟩ := each_mem hu r hr
    rw [nm, h2]
    exact List.mem_map_of_mem (h.rn q hq)
  · obtain ⟨q, hq, h1, h2⟩ := each_mem hu r hr
    rw [h2]
    show (List.map _ _).length ≤ 3
    rw [List.length_map]
    exact h.rl q hq
  · obtain ⟨q, hq, h1, h2⟩ := each_mem hu r hr
    rw [h2]
    intro s hs
    obtain ⟨x, hx, rfl⟩ := List.mem_map.mp hs
    rw [longN_len (h.sn q hq x hx)]
    exact Nat.le_refl _
  · rw [each_len hu]
    exact h.r1
  · rw [nm] at hn
    obtain ⟨x, hx, rfl⟩ := List.mem_map.mp hn
    obtain ⟨r, hr, e⟩ := h.gd x hx fun z => hb (List.mem_map_of_mem z)
    obtain ⟨q, hq, h1, h2⟩ := each_mem' hu r hr
    exact ⟨q, hq, by rw [h2, e]; rfl⟩
theorem each_longs : ∀ {xs ys : List D}, PySem.W.EachIs (fun x y => ∃ z, y = .tup [.str (longN (nameOf x)), z] ∧ z.pure = true) xs ys → PySem.W.EachIs (fun s x => ∃ y, s = .tup [.str x, y] ∧ D.pure y = true) ys ((xs.map nameOf).map longN)
  | _, _, .nil => .nil
  | _, _, .cons h t => .cons h (each_longs t)
theorem long_book_spec {top : Str} {ps rs : List D} {bad : List Str} (h : BookP ps rs bad) (ht : top.length ≤ 60) {Q : D × List (Option D) → Prop}
    (hQ : ∀ qs us bad', BookP qs us bad' → Q (.tup [.str (longN top), .tup qs, .tup us], [some (.tup [.str top, .tup ps, .tup rs])])) : Sat (Qlong_bookF [.tup [.str top, .tup ps, .tup rs]]) Q := by
  have e3 : sizeLine = 16777216 := by rw [sizeLine_eq]
  have hpl := h.p1
  have hrl := h.r1
  have hpp := h.pp
  have hrp := h.rp
  have hpz : ps.length ≤ sizeLine := by omega
  unfold Qlong_bookF
  rw [e_fn]
  simp [hpp, hrp, itemsK_ok (show (D.tup ps).items = some ps from rfl) hpp, hpz, wipeR]
  refine (comp_map (fun ρ => ρ = [some (.tup [.str top, .tup ps, .tup rs]), none, none, none, none, none, none, none, none, none]) (fun x y => y = .tup [.str (longN (nameOf x)), .int (numOf x)]) rfl (fun _ _ => rfl) fun x hx ρ hr => ?_).mono ?_
  · subst hr
    obtain ⟨ex, hx0, hx1⟩ := pairA_eq (h.pa x hx)
    have hxl := nameOf_len (h.pa x hx)
    generalize nameOf x = xn at ex hxl ⊢
    generalize numOf x = xi at ex ⊢
    subst ex
    refine ⟨_, rfl, ?_⟩
    simp [e_llent]
    refine sat_call (long_name_spec hxl) (by simp [takeArgs]) ?_
    rintro r os e
    cases e
    simp [putArgs, leftR, takeArgs, wipeR]
  · rintro ⟨qs, ρ⟩ ⟨hqs, e⟩
    simp only at hqs e
    subst e
    have eq := each_eq (f := fun x => .tup [.str (longN (nameOf x)), .int (numOf x)]) hqs
    have hqp : D.pures qs = true := by
      refine pures_all.mpr fun q hq => ?_
      rw [eq] at hq
      obtain ⟨p, _, rfl⟩ := List.mem_map.mp hq
      rfl
    simp [backR, unR, hqp, hpp, hrp, itemsK_ok (show (D.tup rs).items = some rs from rfl) hrp]
    obtain ⟨I, hI⟩ : ∃ I : List D → Rho → Prop, ∀ rest ρ, I rest ρ ↔ ∃ done us o3 o4 o5 o6 o7, ρ = [some (.tup [.str top, .tup ps, .tup rs]), some (.tup qs), some (.lst us), o3, o4, o5, o6, o7, none, none] ∧ PySem.W.EachIs (fun r q => RuleA q ∧ ruleOf q = longR (ruleOf r)) done us ∧ done ++ rest = rs := ⟨_, fun _ _ => Iff.rfl⟩
    refine (forL_inv (Q := fun p => ∃ us o3 o4 o5 o6 o7, p = (.next, [some (.tup [.str top, .tup ps, .tup rs]), some (.tup qs), some (.lst us), o3, o4, o5, o6, o7, none, none]) ∧ PySem.W.EachIs (fun r q => RuleA q ∧ ruleOf q = longR (ruleOf r)) rs us)
      I (fun _ _ _ => rfl) ?_ ?_ ((hI _ _).mpr ⟨[], [], none, none, none, none, none, rfl, .nil, rfl⟩)).mono ?_
    · intro r rest ρ hρ
      obtain ⟨done, us, o3, o4, o5, o6, o7, rfl, hu, hd⟩ := (hI _ _).mp hρ
      have hr : r ∈ rs := by rw [← hd]; simp
      have hul : us.length < sizeLine := by
        have h1 := each_len hu
        have h2 := congrArg List.length hd
        rw [List.length_append, List.length_cons] at h2
        omega
      have hsn := h.sn r hr
      have hrn := h.rn r hr
      have hra := h.ra r hr
      obtain ⟨n, m, t, sl, rfl, htp, hs⟩ := hra
      have hnl : n.length ≤ 60 := by
        obtain ⟨p, hp, e⟩ := List.mem_map.mp hrn
        have e' : nameOf p = n := e
        rw [← e']
        exact nameOf_len (h.pa p hp)
      have hsp : D.pures sl = true := pures_all.mpr fun s hm => slotA_pure (hs s hm)
      have hsl : sl.length ≤ 3 := by have := h.rl _ hr; simpa [ruleOf] using this
      have hslz : sl.length ≤ sizeLine := by omega
      refine ⟨_, rfl, ?_⟩
      simp [hsp, htp, hslz, wipeR]
      refine (comp_map (fun ρ => ρ = [some (.tup [.str top, .tup ps, .tup rs]), some (.tup qs), some (.lst us), some (.str n), some (.str m), some t, some (.tup sl), o7, none, none]) (fun x y => ∃ z, y = .tup [.str (longN (nameOf x)), z] ∧ z.pure = true) rfl (fun _ _ => rfl) fun x hx ρ hr => ?_).mono ?_
      · subst hr
        have hxl : (nameOf x).length ≤ 60 := hsn _ (List.mem_map_of_mem hx)
        obtain ⟨xn, y, rfl, hy⟩ := hs x hx
        have hxl2 : xn.length ≤ 60 := hxl
        refine ⟨_, rfl, ?_⟩
        simp
        refine sat_call (long_name_spec hxl2) (by simp [takeArgs]) ?_
        rintro r os e
        cases e
        simp [putArgs, leftR, takeArgs, hy, wipeR]
        exact ⟨_, ⟨rfl, rfl⟩, hy⟩
      · rintro ⟨zs, ρ⟩ ⟨hzs, e⟩
        simp only at hzs e
        subst e
        have hz1 := each_names (each_longs hzs)
        have hzp : D.pures zs = true := pures_all.mpr fun z hz => slotA_pure (hz1.2 z hz)
        simp [backR, unR, hzp, e_mut, e_llent]
        refine sat_call (long_name_spec hnl) (by simp [takeArgs]) ?_
        rintro r os e
        cases e
        simp [putArgs, leftR, takeArgs, e_move, htp, hzp, mutK_ok, hul]
        refine (hI _ _).mpr ⟨done ++ [.tup [.str n, .str m, t, .tup sl]], us ++ [.tup [.str (longN n), .str m, t, .tup zs]], _, _, _, _, _, rfl, each_app ⟨⟨_, _, _, _, rfl, htp, hz1.2⟩, ?_⟩ hu, by rw [← hd]; simp⟩
        show (longN n, zs.map nameOf) = _
        rw [hz1.1]
        rfl
    · intro ρ hρ
      obtain ⟨done, us, o3, o4, o5, o6, o7, rfl, hu, hd⟩ := (hI _ _).mp hρ
      rw [List.append_nil] at hd
      subst hd
      exact ⟨us, _, _, _, _, _, rfl, hu⟩
    · rintro _ ⟨us, o3, o4, o5, o6, o7, rfl, hu⟩
      have hup : D.pures us = true := pures_all.mpr fun q hq => by
        obtain ⟨x, _, hx, _⟩ := each_mem hu q hq
        exact ruleA_pure hx
      simp [hpp, hrp]
      refine sat_call (long_name_spec ht) (by simp [takeArgs]) ?_
      rintro r os e
      cases e
      simp [putArgs, leftR, takeArgs, e_move, hqp, hup, outsL, hpp, hrp]
      exact hQ _ _ _ (h.long eq hu)
end DV
set_option Elab.async false
set_option linter.all false
set_option maxRecDepth 100000
set_option maxHeartbeats 4000000
namespace DV
open PySem PySem.Spec PyProof.Rows L2
/-- a book as a value -/
def BookD (b : D) : Prop := ∃ top ps rs bad, b = .tup [.str top, .tup ps, .tup rs] ∧ BookP ps rs bad
noncomputable def CB4 : Rho → Res (Fl × Rho) := (gRet (gIf (gTest (gOp2 (oEq false) (gCall QdrawF (lLent 0 (lOwn (gC (.int 12)) lNil))) (gC (.int 1)))) (gCall Qlong_bookF (lLent 3 lNil)) (gMove 3)))
noncomputable def CBb : Rho → Res (Fl × Rho) := (gSeq (gSet 7 (gCall QdrawF (lLent 0 (lOwn (gOp2 oAdd (gOp1 oLen (gOp2 oGet (gVar 3) (gC (.int 2)))) (gC (.int 1))) lNil))))
    (gSet 3 (gTup (gCons (gCp (gOp2 oGet (gVar 3) (gC (.int 0)))) (gCons (gCp (gOp2 oGet (gVar 3) (gC (.int 1)))) (gCons (gOp2 oAddT (gSl (gOp2 oGet (gVar 3) (gC (.int 2))) gPN (gPS (gCp (gVar 7)))) (gSl (gOp2 oGet (gVar 3) (gC (.int 2))) (gPS (gOp2 oAdd (gCp (gVar 7)) (gC (.int 1)))) gPN)) gNil))))))
noncomputable def CB3 : Rho → Res (Fl × Rho) := (gSeq (gIfS (gTest (gOp2 (oEq false) (gCall QdrawF (lLent 0 (lOwn (gC (.int 3)) lNil))) (gC (.int 1)))) (gFor (gRange1 (gOp2 oAdd (gC (.int 1)) (gCall QdrawF (lLent 0 (lOwn (gC (.int 3)) lNil))))) (bName 6) CBb) gNext)
    CB4)
noncomputable def CB2 : Rho → Res (Fl × Rho) := (gSeq (gSet 3 (gCall QbookF (lLent 0 (lLent 4 (lOwn (gC (.int 3)) (lLent 5 (lOwn (gOp2 oAdd (gC (.int 1)) (gCall QdrawF (lLent 0 (lOwn (gC (.int 3)) lNil)))) (lLent 1 (lLent 2 lNil)))))))))
    CB3)
noncomputable def CB1 : Rho → Res (Fl × Rho) := (gSeq (gIfS (gTest (gCall QrareF (lLent 0 (lOwn (gC (.int 16)) lNil)))) (gPar 4 5 (gCons (gOp2 oAdd (gC (.int 5)) (gCall QdrawF (lLent 0 (lOwn (gC (.int 12)) lNil)))) (gCons (gOp2 oAdd (gC (.int 5)) (gCall QdrawF (lLent 0 (lOwn (gC (.int 20)) lNil)))) gNil))) (gIfS (gTest (gCall QrareF (lLent 0 (lOwn (gC (.int 48)) lNil)))) (gPar 4 5 (gCons (gC (.int 2)) (gCons (gOp2 (oInt2 fSub) (gC (.int 398)) (gCall QdrawF (lLent 0 (lOwn (gC (.int 300)) lNil)))) gNil))) gNext))
    CB2)
theorem Qchance_bookF_eq : Qchance_bookF = gFn 1 8 [0] (gSeq (gSet 1 (gCall QlettersF (lLent 0 (lOwn (gC (.int 2)) lNil))))
    (gSeq (gSet 2 (gCall QlettersF (lLent 0 (lOwn (gC (.int 1)) lNil))))
    (gSeq (gPar 4 5 (gCons (gOp2 oAdd (gC (.int 1)) (gCall QdrawF (lLent 0 (lOwn (gC (.int 4)) lNil)))) (gCons (gCall QdrawF (lLent 0 (lOwn (gC (.int 8)) lNil))) gNil)))
    CB1))) := rfl
abbrev BI (d b : D) (ms ss : List D) (o4 o5 o6 o7 : Option D) : Rho := [some d, some (.lst ms), some (.lst ss), some b, o4, o5, o6, o7]
/-- a book as a value, not yet lengthened, having lost n rules -/
def BookN (n : Nat) (b : D) : Prop := ∃ top ps rs bad, b = .tup [.str top, .tup ps, .tup rs] ∧ BookP ps rs bad ∧ top.length ≤ 60 ∧ bad.length ≤ n
theorem cb4_spec {d b d0 : D} {ms ss : List D} {o4 o5 o6 o7 : Option D} {Q : D × List (Option D) → Prop} {n : Nat} (hd : IsD d) (hd0 : IsD d0) (hb : BookN n b) (hQ : ∀ b d', IsD d' → BookD b → Q (b, [some d'])) : Sat (CB4 (BI d b ms ss o4 o5 o6 o7)) fun a => Sat (fnK [0] [d0] a) Q := by
  obtain ⟨top, ps, rs, bad, rfl, hb, ht, _⟩ := hb
  unfold CB4 BI
  simp [e_llent]
  refine sat_call (draw_spec (m := 12) hd (by decide) (by decide)) (by simp [takeArgs, isD_pure hd]) ?_
  rintro r os ⟨n1, d3, e, hn10, hn11, hd3⟩
  cases e
  simp [putArgs, leftR, takeArgs, isD_pure hd]
  by_cases h1 : n1 = 1
  · simp [h1, e_llent]
    refine sat_call (long_book_spec hb ht (Q := fun p => ∃ b, p = (b, [some (.tup [.str top, .tup ps, .tup rs])]) ∧ BookD b) fun qs us bad' h => ⟨_, rfl, _, _, _, _, rfl, h⟩) (by simp [takeArgs, hb.pp, hb.rp]) ?_
    rintro r os ⟨b, e, h⟩
    cases e
    simp [putArgs, leftR, takeArgs, hb.pp, hb.rp, outsL, isD_pure hd0]
    exact hQ _ _ hd3 h
  · simp [h1, e_move, hb.pp, hb.rp, outsL, isD_pure hd0]
    exact hQ _ _ hd3 ⟨_, _, _, _, rfl, hb⟩
theorem cbb_spec {d b : D} {ms ss : List D} {o4 o5 o6 o7 : Option D} {n : Nat} (hd : IsD d) (hb : BookN n b) (hn : n < 3) {Q : Fl × Rho → Prop} (hQ : ∀ b d' o7, IsD d' → BookN (n + 1) b → Q (.next, BI d' b ms ss o4 o5 o6 o7)) : Sat (CBb (BI d b ms ss o4 o5 o6 o7)) Q := by
  have e3 : sizeLine = 16777216 := by rw [sizeLine_eq]
  obtain ⟨top, ps, rs, bad, rfl, hb, ht, hbl⟩ := hb
  have hrl := hb.r1
  unfold CBb BI
  simp [e_llent, hb.pp, hb.rp]
  refine sat_call (draw_spec (m := rs.length + 1) hd (by omega) (by omega)) (by simp [takeArgs, isD_pure hd]) ?_
  rintro r os ⟨n1, d3, e, hn10, hn11, hd3⟩
  cases e
  obtain ⟨bad', hb', hbl'⟩ := hb.drop (by omega) n1.toNat
  have h4 := hb'.rp
  have h1 : D.pures (rs.take n1.toNat) = true := pures_all.mpr fun x hx => pures_mem hb.rp (List.mem_of_mem_take hx)
  have h2 : D.pures (rs.drop (n1.toNat + 1)) = true := pures_all.mpr fun x hx => pures_mem hb.rp (List.mem_of_mem_drop hx)
  have h3 : (n1 + 1).toNat = n1.toNat + 1 := by omega
  simp [putArgs, leftR, takeArgs, isD_pure hd, hb.pp, hb.rp, cutL_to hn10, cutL_from (show 0 ≤ n1 + 1 by omega), h1, h2, h3]
  rw [if_pos (by omega)]
  simp
  exact hQ _ _ _ hd3 ⟨_, _, _, _, rfl, hb', ht, by omega⟩
theorem cb3_spec {d b d0 : D} {ms ss : List D} {o4 o5 o6 o7 : Option D} {Q : D × List (Option D) → Prop} (hd : IsD d) (hd0 : IsD d0) (hb : BookN 0 b) (hQ : ∀ b d', IsD d' → BookD b → Q (b, [some d'])) : Sat (CB3 (BI d b ms ss o4 o5 o6 o7)) fun a => Sat (fnK [0] [d0] a) Q := by
  have e3 : sizeLine = 16777216 := by rw [sizeLine_eq]
  unfold CB3 BI
  simp [e_llent]
  refine sat_call (draw_spec (m := 3) hd (by decide) (by decide)) (by simp [takeArgs, isD_pure hd]) ?_
  rintro r os ⟨n1, d3, e, hn10, hn11, hd3⟩
  cases e
  simp [putArgs, leftR, takeArgs, isD_pure hd]
  by_cases h1 : n1 = 1
  · simp [h1, e_llent]
    refine sat_call (draw_spec (m := 3) hd3 (by decide) (by decide)) (by simp [takeArgs, isD_pure hd3]) ?_
    rintro r os ⟨n2, d4, e, hn20, hn21, hd4⟩
    cases e
    simp [putArgs, leftR, takeArgs, isD_pure hd3, rg1_ok (show -10000000000 ≤ 1 + n2 by omega) (by omega)]
    obtain ⟨I, hI⟩ : ∃ I : List D → Rho → Prop, ∀ rest ρ, I rest ρ ↔ ∃ d' b n o6 o7, ρ = BI d' b ms ss o4 o5 o6 o7 ∧ IsD d' ∧ BookN n b ∧ n + rest.length ≤ 3 := ⟨_, fun _ _ => Iff.rfl⟩
    refine (forL_inv (Q := fun p => ∃ d' b n o6 o7, p = (.next, BI d' b ms ss o4 o5 o6 o7) ∧ IsD d' ∧ BookN n b) I (fun _ _ _ => rfl) ?_ ?_ ((hI _ _).mpr ⟨d4, b, 0, o6, o7, rfl, hd4, hb, by rw [rangeD_len]; omega⟩)).mono ?_
    · intro x rest ρ hρ
      obtain ⟨d', b, n, o6, o7, rfl, hd', hb, hl⟩ := (hI _ _).mp hρ
      rw [List.length_cons] at hl
      exact ⟨_, rfl, cbb_spec (o6 := some x) hd' hb (by omega) fun b2 d2 o7 h1 h2 => (hI _ _).mpr ⟨d2, b2, _, _, _, rfl, h1, h2, by omega⟩⟩
    · intro ρ hρ
      obtain ⟨d', b, n, o6, o7, rfl, hd', hb, hl⟩ := (hI _ _).mp hρ
      exact ⟨d', b, n, o6, o7, rfl, hd', hb⟩
    · rintro _ ⟨d', b, n, o6, o7, rfl, hd', hb⟩
      simp
      exact cb4_spec hd' hd0 hb hQ
  · simp [h1]
    exact cb4_spec hd3 hd0 hb hQ
theorem cb2_spec {d d0 : D} {ms ss : List D} {many more : Int} {Q : D × List (Option D) → Prop} (hd : IsD d) (hd0 : IsD d0) (hms : ∀ y ∈ ms, Sign y) (hml : ms.length = 2) (hss : ∀ y ∈ ss, Sign y) (hsl : ss.length = 1) (h0 : 0 < many) (h1 : many ≤ 16) (hm0 : 0 ≤ more) (hm1 : more ≤ 400) (hQ : ∀ b d', IsD d' → BookD b → Q (b, [some d'])) : Sat (CB2 [some d, some (.lst ms), some (.lst ss), none, some (.int many), some (.int more), none, none]) fun a => Sat (fnK [0] [d0] a) Q := by
  unfold CB2
  simp [e_llent]
  refine sat_call (draw_spec (m := 3) hd (by decide) (by decide)) (by simp [takeArgs, isD_pure hd]) ?_
  rintro r os ⟨n1, d3, e, hn10, hn11, hd3⟩
  cases e
  simp [putArgs, leftR, takeArgs, isD_pure hd, e_llent]
  refine sat_call (book_spec (many := many) (more := more) (slots := 1 + n1) hd3 h0 h1 hm0 hm1 (by omega) (by omega) hms (by omega) (by omega) hss (by omega) (by omega) (Q := fun p => ∃ b d', p = (b, [some d', some (.int many), some (.int 3), some (.int more), some (.int (1 + n1)), some (.lst ms), some (.lst ss)]) ∧ IsD d' ∧ BookN 0 b) fun top ps rs d' h1 h2 h3 => ⟨_, d', rfl, h1, _, _, _, _, rfl, h3, h2, by simp⟩) (by simp [takeArgs, isD_pure hd3]) ?_
  rintro r os ⟨b, d4, e, hd4, hb⟩
  cases e
  simp [putArgs, leftR, takeArgs, isD_pure hd3]
  exact cb3_spec hd4 hd0 hb hQ
theorem chance_book_spec {d : D} (hd : IsD d) {Q : D × List (Option D) → Prop} (hQ : ∀ b d', IsD d' → BookD b → Q (b, [some d'])) : Sat (Qchance_bookF [d]) Q := by
  have e3 : sizeLine = 16777216 := by rw [sizeLine_eq]
  rw [Qchance_bookF_eq]
  rw [e_fn]
  simp [e_llent]
  refine sat_call (letters_spec (m := 2) hd (by decide) (by decide)) (by simp [takeArgs, isD_pure hd]) ?_
  rintro r os ⟨ms, d1, e, hml, hms, hd1⟩
  cases e
  simp [putArgs, leftR, takeArgs, isD_pure hd, e_llent]
  refine sat_call (letters_spec (m := 1) hd1 (by decide) (by decide)) (by simp [takeArgs, isD_pure hd1]) ?_
  rintro r os ⟨ss, d2, e, hsl, hss, hd2⟩
  cases e
  simp [putArgs, leftR, takeArgs, isD_pure hd1, e_llent]
  refine sat_call (draw_spec (m := 4) hd2 (by decide) (by decide)) (by simp [takeArgs, isD_pure hd2]) ?_
  rintro r os ⟨n1, d3, e, hn10, hn11, hd3⟩
  cases e
  simp [putArgs, leftR, takeArgs, isD_pure hd2, e_llent]
  refine sat_call (draw_spec (m := 8) hd3 (by decide) (by decide)) (by simp [takeArgs, isD_pure hd3]) ?_
  rintro r os ⟨n2, d4, e, hn20, hn21, hd4⟩
  cases e
  simp [putArgs, leftR, takeArgs, isD_pure hd3, e_llent]
  unfold CB1
  simp [e_llent]
  refine sat_call (rare_spec (m := 16) hd4 (by decide) (by decide)) (by simp [takeArgs, isD_pure hd4]) ?_
  rintro r os ⟨b1, d5, e, hd5⟩
  cases e
  simp [putArgs, leftR, takeArgs, isD_pure hd4, e_llent]
  cases b1
  · simp [e_llent]
    refine sat_call (rare_spec (m := 48) hd5 (by decide) (by decide)) (by simp [takeArgs, isD_pure hd5]) ?_
    rintro r os ⟨b2, d6, e, hd6⟩
    cases e
    simp [putArgs, leftR, takeArgs, isD_pure hd5, e_llent]
    cases b2
    · simp
      exact cb2_spec hd6 hd hms hml hss hsl (by omega) (by omega) (by omega) (by omega) hQ
    · simp [e_llent]
      refine sat_call (draw_spec (m := 300) hd6 (by decide) (by decide)) (by simp [takeArgs, isD_pure hd6]) ?_
      rintro r os ⟨n3, d7, e, hn30, hn31, hd7⟩
      cases e
      simp [putArgs, leftR, takeArgs, isD_pure hd6, fSub]
      exact cb2_spec hd7 hd hms hml hss hsl (by omega) (by omega) (by omega) (by omega) hQ
  · simp [e_llent]
    refine sat_call (draw_spec (m := 12) hd5 (by decide) (by decide)) (by simp [takeArgs, isD_pure hd5]) ?_
    rintro r os ⟨n3, d7, e, hn30, hn31, hd7⟩
    cases e
    simp [putArgs, leftR, takeArgs, isD_pure hd5, e_llent]
    refine sat_call (draw_spec (m := 20) hd7 (by decide) (by decide)) (by simp [takeArgs, isD_pure hd7]) ?_
    rintro r os ⟨n4, d8, e, hn40, hn41, hd8⟩
    cases e
    simp [putArgs, leftR, takeArgs, isD_pure hd7]
    exact cb2_spec hd8 hd hms hml hss hsl (by omega) (by omega) (by omega) (by omega) hQ
end DV
set_option Elab.async false
set_option linter.all false
set_option maxRecDepth 100000
set_option maxHeartbeats 4000000
namespace DV
open PySem PySem.Spec PyProof.Rows L2
/-- the k-th rule's name, its slots -/
def rName (rs : List D) (k : Nat) : Str := (ruleOf (rs.getD k .non)).1
def rSlots (rs : List D) (k : Nat) : List Str := (ruleOf (rs.getD k .non)).2
def dNs (ks : List Nat) : List D := ks.map fun k => .int (k : Nat)
/-- the places of a name's rules -/
def ixs (rs : List D) (n : Str) : List Nat := (List.range rs.length).filter fun k => decide (rName rs k = n)
theorem dNs_pure {ks : List Nat} : D.pures (dNs ks) = true := pures_all.mpr fun d hd => by
  obtain ⟨c, _, rfl⟩ := List.mem_map.mp hd
  rfl
theorem mem_ixs {rs : List D} {n : Str} {k : Nat} : k ∈ ixs rs n ↔ k < rs.length ∧ rName rs k = n := by
  unfold ixs
  rw [List.mem_filter, List.mem_range, decide_eq_true_iff]
def isR (rs : List D) (n : Str) (d : D) : Bool := match d with
  | .int i => decide (rName rs i.toNat = n)
  | _ => false
theorem ixs_eq {rs : List D} {n : Str} : (rangeD 0 rs.length).filter (isR rs n) = dNs (ixs rs n) := by
  unfold rangeD ixs dNs
  rw [List.filter_map]
  have h1 : (isR rs n ∘ fun (i : Nat) => D.int (0 + (i : Int))) = fun k => decide (rName rs k = n) := by
    funext k
    show decide (rName rs (0 + (k : Int)).toNat = n) = _
    rw [Int.zero_add, Int.toNat_natCast]
  rw [h1]
  congr 1
  funext k
  rw [Int.zero_add]
/-- a rule's value -/
theorem rule_at {rs : List D} {k : Nat} (h : k < rs.length) (ha : ∀ r ∈ rs, RuleA r) : ∃ m t sl, rs[k]? = some (.tup [.str (rName rs k), .str m, t, .tup sl]) ∧ t.pure = true ∧ (∀ s ∈ sl, SlotA s) ∧ sl.map nameOf = rSlots rs k := by
  obtain ⟨n, m, t, sl, e, ht, hs⟩ := ha rs[k] (List.getElem_mem h)
  have e1 : rs[k]? = some rs[k] := List.getElem?_eq_getElem h
  have e2 : rs.getD k .non = rs[k] := by rw [List.getD_eq_getElem?_getD, e1]; rfl
  have e3 : rName rs k = n := by unfold rName; rw [e2, e]; rfl
  have e4 : rSlots rs k = sl.map nameOf := by unfold rSlots; rw [e2, e]; rfl
  exact ⟨m, t, sl, by rw [e1, e, e3], ht, hs, e4.symm⟩
abbrev bookOf (top : Str) (ps rs : List D) : D := .tup [.str top, .tup ps, .tup rs]
theorem rules_spec {top : Str} {ps rs : List D} {bad : List Str} {n : Str} (h : BookP ps rs bad) : Sat (QrulesF [bookOf top ps rs, .str n]) fun p => p = (.lst (dNs (ixs rs n)), [some (bookOf top ps rs), some (.str n)]) := by
  have e3 : sizeLine = 16777216 := by rw [sizeLine_eq]
  have hpp := h.pp
  have hrp := h.rp
  have hrl := h.r1
  have hz : (rangeD 0 rs.length).length ≤ sizeLine := by rw [rangeD_len]; omega
  unfold QrulesF bookOf
  rw [e_fn]
  simp [hpp, hrp, rg1_len (show rs.length ≤ 10000000 by omega), hz, wipeR]
  refine (comp_pick (fun ρ => ρ = [some (.tup [.str top, .tup ps, .tup rs]), some (.str n), none]) (isR rs n) (fun x y => y = x) (fun _ _ => rfl) rfl fun x hx ρ hr => ?_).mono ?_
  · subst hr
    obtain ⟨k, hk, rfl⟩ := mem_rangeD hx
    obtain ⟨m, t, sl, e, ht, hs, hn⟩ := rule_at hk h.ra
    have hsp : D.pures sl = true := pures_all.mpr fun s hm => slotA_pure (hs s hm)
    have hi : isR rs n (.int (0 + (k : Int))) = decide (rName rs k = n) := by
      show decide (rName rs (0 + (k : Int)).toNat = n) = _
      rw [Int.zero_add, Int.toNat_natCast]
    refine ⟨_, rfl, ?_⟩
    rw [hi]
    simp [hpp, hrp, e, ht, hsp, wipeR]
  · rintro ⟨ys, ρ⟩ ⟨h1, e⟩
    simp only at h1 e
    subst e
    have e := each_eq (f := fun x => x) h1
    rw [List.map_id', ixs_eq] at e
    subst e
    simp [backR, unR, outsL, hpp, hrp]
end DV
set_option Elab.async false
set_option linter.all false
set_option maxRecDepth 100000
set_option maxHeartbeats 4000000
namespace DV
open PySem PySem.Spec PyProof.Rows L2
noncomputable def CWs : Rho → Res (Fl × Rho) := (gStore 3 (gCp (gVar 4)) (gOp2 oMin2 (gC (.int 99)) (gOp2 oMax2 (gC (.int 1)) (gOp2 oAdd (gCp (gVar 7)) (gOp2 (oInt2 fMul) (gOp2 (oInt2 fSub) (gCp (gVar 2)) (gC (.int 2))) (gOp2 (oInt2 fSub) (gCall QdrawF (lLent 0 (lOwn (gC (.int 3)) lNil))) (gC (.int 1))))))))
noncomputable def CW6 : Rho → Res (D × Rho) := (gComp (gItems (gCall QrulesF (lLent 1 (lOwn (gCp (gOp2 oGet (gOp2 oGet (gOp2 oGet (gVar 1) (gC (.int 2))) (gCp (gVar 4))) (gC (.int 0)))) lNil)))) [8] (bName 8) (gOneT (gTest (gOp2 (oCmp fGt) (gOp1 oLen (gOp2 oGet (gOp2 oGet (gOp2 oGet (gVar 1) (gC (.int 2))) (gCp (gVar 8))) (gC (.int 3)))) (gC (.int 0))))) (gCp (gVar 8)))
noncomputable def CW7 : Rho → Res (D × Rho) := (gComp (gItemsV 6) [8] (bName 8) gYes (gOp2 (oInt2 fMul) (gCp (gOp2 oGet (gVar 3) (gCp (gVar 8)))) (gOp2 (oInt2 fSub) (gOp1 oLen (gOp2 oGet (gOp2 oGet (gOp2 oGet (gVar 1) (gC (.int 2))) (gCp (gVar 8))) (gC (.int 3)))) (gC (.int 1)))))
noncomputable def CWb : Rho → Res (Fl × Rho) := (gIfS (gTest (gOp2 (oEq false) (gOp1 oLen (gOp2 oGet (gOp2 oGet (gOp2 oGet (gVar 1) (gC (.int 2))) (gCp (gVar 4))) (gC (.int 3)))) (gC (.int 0)))) (gSeq (gSet 6 CW6)
    (gSeq (gSet 7 (gOp1 oSum CW7))
    CWs)) gNext)
noncomputable def CW2 : Rho → Res (Fl × Rho) := (gSeq (gIfS (gTest (gOp2 (oCmp fGe) (gCp (gVar 2)) (gC (.int 2)))) (gFor (gRange1 (gOp1 oLen (gOp2 oGet (gVar 1) (gC (.int 2))))) (bName 4) CWb) gNext)
    (gRet (gOp1 oTuple (gVar 3))))
theorem Qchance_weightsF_eq : Qchance_weightsF = gFn 2 9 [0, 1] (gSeq (gSet 2 (gCall QdrawF (lLent 0 (lOwn (gC (.int 4)) lNil))))
    (gSeq (gSet 3 (gComp (gItems (gCp (gOp2 oGet (gVar 1) (gC (.int 2))))) [5] (bName 5) gYes (gOp2 oAdd (gC (.int 1)) (gCall QdrawF (lLent 0 (lOwn (gIf (gTest (gOp2 (oEq false) (gCp (gVar 2)) (gC (.int 1)))) (gC (.int 99)) (gC (.int 5))) lNil))))))
    CW2)) := rfl
def WOk (rs : List D) (ws : List Int) : Prop := ws.length = rs.length ∧ ∀ w ∈ ws, 1 ≤ w ∧ w ≤ 99
theorem dI_get {ws : List Int} {k : Nat} (h : k < ws.length) : (dI ws)[k]? = some (.int ws[k]) := by
  unfold dI
  rw [List.getElem?_map, List.getElem?_eq_getElem h]
  rfl
theorem ints_dNs {ks : List Nat} : dNs ks = dI (ks.map fun (k : Nat) => (k : Int)) := by
  unfold dNs dI
  rw [List.map_map]
  rfl
theorem slots_ok {sl : List D} (hs : ∀ s ∈ sl, SlotA s) : D.pures sl = true := pures_all.mpr fun s hm => slotA_pure (hs s hm)
abbrev WR (d b way : D) (ws : List Int) (k o5 o6 o7 : Option D) : Rho := [some d, some b, some way, some (.lst (dI ws)), k, o5, o6, o7, none]
def hasSl (rs : List D) (x : D) : Bool := match x with
  | .int i => decide (0 < (rSlots rs i.toNat).length)
  | _ => false
theorem cw6_spec {top : Str} {ps rs : List D} {bad : List Str} {d way : D} {ws : List Int} {k : Nat} {o5 o6 o7 : Option D} (h : BookP ps rs bad) (hk : k < rs.length) :
    Sat (CW6 (WR d (bookOf top ps rs) way ws (some (.int k)) o5 o6 o7)) fun p => ∃ js : List Nat, p = (.lst (dNs js), WR d (bookOf top ps rs) way ws (some (.int k)) o5 o6 o7) ∧ (∀ j ∈ js, j < rs.length) ∧ js.length ≤ 450 := by
  have e3 : sizeLine = 16777216 := by rw [sizeLine_eq]
  have hpp := h.pp
  have hrp := h.rp
  have hrl := h.r1
  obtain ⟨m, t, sl, e, ht, hs, hn⟩ := rule_at hk h.ra
  have hsp := slots_ok hs
  have hlen : (ixs rs (rName rs k)).length ≤ rs.length := by
    unfold ixs
    exact Nat.le_trans (List.length_filter_le _ _) (by rw [List.length_range]; exact Nat.le_refl _)
  have hdl : (dNs (ixs rs (rName rs k))).length ≤ sizeLine := by
    unfold dNs
    rw [List.length_map]
    omega
  unfold CW6 WR
  simp [e_llent, hpp, hrp, e, ht, hsp]
  refine sat_call (rules_spec (top := top) (n := rName rs k) h) (by simp [takeArgs, hpp, hrp]) ?_
  rintro r os e'
  cases e'
  simp [putArgs, leftR, takeArgs, hpp, hrp, itemsK_ok (show (D.lst (dNs (ixs rs (rName rs k)))).items = some (dNs (ixs rs (rName rs k))) from rfl) dNs_pure, hdl, wipeR]
  refine (comp_pick (fun ρ => ρ = WR d (bookOf top ps rs) way ws (some (.int k)) o5 o6 o7) (hasSl rs) (fun x y => y = x) (fun _ _ => rfl) rfl fun x hx ρ hr => ?_).mono ?_
  · subst hr
    obtain ⟨j, hj, rfl⟩ := List.mem_map.mp hx
    have hj' := (mem_ixs.mp hj).1
    obtain ⟨m, t, sl, e, ht, hs, hn⟩ := rule_at hj' h.ra
    have hsp := slots_ok hs
    refine ⟨_, rfl, ?_⟩
    have hh : hasSl rs (.int (j : Int)) = decide (0 < sl.length) := by
      show decide (0 < (rSlots rs (j : Int).toNat).length) = _
      rw [Int.toNat_natCast, ← hn, List.length_map]
    rw [hh]
    simp [hpp, hrp, e, ht, hsp, wipeR, fGt]
  · rintro ⟨ys, ρ⟩ ⟨h1, e'⟩
    simp only at h1 e'
    subst e'
    have e' := each_eq (f := fun x => x) h1
    rw [List.map_id'] at e'
    unfold dNs at e'
    rw [List.filter_map] at e'
    subst e'
    simp [backR, unR]
    exact ⟨(ixs rs (rName rs k)).filter (hasSl rs ∘ fun (j : Nat) => D.int (j : Int)), rfl, fun j hj => (mem_ixs.mp (List.mem_filter.mp hj).1).1, Nat.le_trans (List.length_filter_le _ _) (by omega)⟩
theorem cw7_spec {top : Str} {ps rs : List D} {bad : List Str} {d way : D} {ws : List Int} {k o5 o7 : Option D} {js : List Nat} (h : BookP ps rs bad) (hw : WOk rs ws) (hj : ∀ j ∈ js, j < rs.length) (hjl : js.length ≤ 450) :
    Sat (CW7 (WR d (bookOf top ps rs) way ws k o5 (some (.lst (dNs js))) o7)) fun p => ∃ us : List Int, p = (.lst (dI us), WR d (bookOf top ps rs) way ws k o5 (some (.lst (dNs js))) o7) := by
  have e3 : sizeLine = 16777216 := by rw [sizeLine_eq]
  have hpp := h.pp
  have hrp := h.rp
  have hrl := h.r1
  have hjz : (dNs js).length ≤ sizeLine := by unfold dNs; rw [List.length_map]; omega
  unfold CW7 WR
  simp [e_llent, hpp, hrp, dNs_pure, hjz, wipeR]
  refine (comp_map (fun ρ => ρ = [some d, some (bookOf top ps rs), some way, some (.lst (dI ws)), k, o5, some (.lck (dNs js)), o7, none]) (fun x y => ∃ u, y = .int u) rfl (fun ρ hρ => by subst hρ; exact chk_lck rfl) fun x hx ρ hr => ?_).mono ?_
  · subst hr
    obtain ⟨j, hj2, rfl⟩ := List.mem_map.mp hx
    have hj' := hj j hj2
    obtain ⟨m, t, sl, e, ht, hs, hn⟩ := rule_at hj' h.ra
    have hsp := slots_ok hs
    have hwl : j < ws.length := by rw [hw.1]; exact hj'
    have hg := dI_get hwl
    have hwr := hw.2 _ (List.getElem_mem hwl)
    have hm : ∀ i, fMul ws[j] i = some (ws[j] * i) := fun i => fMul_ok (.inl ⟨by omega, by omega⟩)
    refine ⟨_, rfl, ?_⟩
    simp [hpp, hrp, e, ht, hsp, wipeR, hg, hm, fSub]
  · rintro ⟨ys, ρ⟩ ⟨h1, e'⟩
    simp only at h1 e'
    subst e'
    obtain ⟨us, rfl⟩ := ints_of (each_all (S := fun y => ∃ i, y = D.int i) (fun _ _ h => h) h1)
    simp [fin_lck, backR, unR]
    exact ⟨us, rfl⟩
theorem wOk_set {rs : List D} {ws : List Int} {k : Nat} {v : Int} (h : WOk rs ws) (h0 : 1 ≤ v) (h1 : v ≤ 99) : WOk rs (ws.set k v) := by
  refine ⟨by rw [List.length_set]; exact h.1, fun w hw => ?_⟩
  rcases List.mem_or_eq_of_mem_set hw with z | z
  · exact h.2 w z
  · omega
theorem cwb_spec {top : Str} {ps rs : List D} {bad : List Str} {d : D} {way : Int} {ws : List Int} {k : Nat} {o5 o6 o7 : Option D} (h : BookP ps rs bad) (hd : IsD d) (hk : k < rs.length) (hw : WOk rs ws) (hw0 : 0 ≤ way) (hw1 : way ≤ 3) {Q : Fl × Rho → Prop}
    (hQ : ∀ d' ws' o6 o7, IsD d' → WOk rs ws' → Q (.next, WR d' (bookOf top ps rs) (.int way) ws' (some (.int k)) o5 o6 o7)) : Sat (CWb (WR d (bookOf top ps rs) (.int way) ws (some (.int k)) o5 o6 o7)) Q := by
  have hpp := h.pp
  have hrp := h.rp
  obtain ⟨m, t, sl, e, ht, hs, hn⟩ := rule_at hk h.ra
  have hsp := slots_ok hs
  unfold CWb
  by_cases hz : sl.length = 0
  · simp [hpp, hrp, e, ht, hsp, hz]
    refine (cw6_spec h hk).mono ?_
    rintro _ ⟨js, rfl, hj, hjl⟩
    simp
    refine (cw7_spec h hw hj hjl).mono ?_
    rintro _ ⟨us, rfl⟩
    have hsum : oSum (.lst (dI us)) = some (.int us.sum) := by
      unfold oSum
      simp only [ints_dI]
      rfl
    unfold CWs
    simp [hsum, e_llent]
    refine sat_call (draw_spec (m := 3) hd (by decide) (by decide)) (by simp [takeArgs, isD_pure hd]) ?_
    rintro r os ⟨n1, d2, e, hn10, hn11, hd2⟩
    cases e
    have hm : ∀ i, fMul (way - 2) i = some ((way - 2) * i) := fun i => fMul_ok (.inl ⟨by omega, by omega⟩)
    have hkl : (k : Int) < ((dI ws).length : Int) := by rw [dI_len, hw.1]; omega
    have hset : ∀ v, (dI ws).set k (.int v) = dI (ws.set k v) := fun v => by unfold dI; rw [List.map_set]
    simp [putArgs, leftR, takeArgs, isD_pure hd, fSub, hm, ixN_pos (show (0 : Int) ≤ k by omega) hkl, hset]
    refine hQ _ _ _ _ hd2 (wOk_set hw ?_ ?_)
    · split <;> split <;> omega
    · split <;> split <;> omega
  · simp [hpp, hrp, e, ht, hsp, hz]
    exact hQ _ _ _ _ hd hw
theorem chance_weights_spec {top : Str} {ps rs : List D} {bad : List Str} {d : D} (h : BookP ps rs bad) (hd : IsD d) {Q : D × List (Option D) → Prop} (hQ : ∀ ws d', IsD d' → WOk rs ws → Q (.tup (dI ws), [some d', some (bookOf top ps rs)])) : Sat (Qchance_weightsF [d, bookOf top ps rs]) Q := by
  have e3 : sizeLine = 16777216 := by rw [sizeLine_eq]
  have hpp := h.pp
  have hrp := h.rp
  have hrl := h.r1
  have hrz : rs.length ≤ sizeLine := by omega
  rw [Qchance_weightsF_eq, e_fn]
  simp [e_llent]
  refine sat_call (draw_spec (m := 4) hd (by decide) (by decide)) (by simp [takeArgs, isD_pure hd]) ?_
  rintro r os ⟨way, d1, e, hw0, hw1, hd1⟩
  cases e
  simp [putArgs, leftR, takeArgs, isD_pure hd, hpp, hrp, itemsK_ok (show (D.tup rs).items = some rs from rfl) hrp, hrz, wipeR]
  refine (comp_map (fun ρ => ∃ d', IsD d' ∧ ρ = [some d', some (bookOf top ps rs), some (.int way), none, none, none, none, none, none]) (fun x y => ∃ u, y = D.int u ∧ 1 ≤ u ∧ u ≤ 99) ⟨d1, hd1, rfl⟩ (fun _ _ => rfl) fun x hx ρ hr => ?_).mono ?_
  · obtain ⟨d', hd', rfl⟩ := hr
    refine ⟨_, rfl, ?_⟩
    obtain ⟨c, hc, hc0, hc1⟩ : ∃ c : Int, (if way = 1 then (99 : Int) else 5) = c ∧ 0 < c ∧ c ≤ 99 := ⟨_, rfl, by split <;> omega, by split <;> omega⟩
    have key : ∀ {ρ : Rho}, ρ[2]? = some (some (.int way)) → gIf (gTest (gOp2 (oEq false) (gCp (gVar 2)) (gC (.int 1)))) (gC (.int 99)) (gC (.int 5)) ρ = .ok (.int c, ρ) := fun {ρ} hρ => by
      simp [hρ]
      by_cases h1 : way = 1 <;> simp [h1] at hc ⊢ <;> exact hc
    simp [e_llent, key]
    refine sat_call (draw_spec (m := c) hd' (by omega) (by omega)) (by simp [takeArgs, isD_pure hd']) ?_
    rintro r os ⟨n, d2, e, hn0, hn1, hd2⟩
    cases e
    simp [putArgs, leftR, takeArgs, isD_pure hd', wipeR]
    exact ⟨⟨by omega, by omega⟩, hd2⟩
  · rintro ⟨ys, ρ⟩ ⟨h1, d2, hd2, e'⟩
    simp only at h1 e'
    subst e'
    obtain ⟨ws, rfl⟩ := ints_of (fun y hy => by obtain ⟨u, e, _⟩ := each_all (S := fun y => ∃ u, y = D.int u ∧ 1 ≤ u ∧ u ≤ 99) (fun _ _ h => h) h1 y hy; exact ⟨u, e⟩)
    have hw : WOk rs ws := ⟨by have := each_len h1; rwa [dI_len] at this, fun w hw => by
      obtain ⟨u, e, h2⟩ := each_all (S := fun y => ∃ u, y = D.int u ∧ 1 ≤ u ∧ u ≤ 99) (fun _ _ h => h) h1 (.int w) (List.mem_map_of_mem hw)
      cases e
      exact h2⟩
    simp [backR, unR]
    unfold CW2
    by_cases h2 : 2 ≤ way
    · simp [h2, fGe, hpp, hrp, rg1_len (show rs.length ≤ 10000000 by omega)]
      obtain ⟨I, hI⟩ : ∃ I : List D → Rho → Prop, ∀ rest ρ, I rest ρ ↔ ∃ d' ws o4 o6 o7, ρ = WR d' (bookOf top ps rs) (.int way) ws o4 none o6 o7 ∧ IsD d' ∧ WOk rs ws ∧ ∀ x ∈ rest, ∃ k : Nat, x = .int k ∧ k < rs.length := ⟨_, fun _ _ => Iff.rfl⟩
      refine (forL_inv (Q := fun p => ∃ d' ws o4 o6 o7, p = (.next, WR d' (bookOf top ps rs) (.int way) ws o4 none o6 o7) ∧ IsD d' ∧ WOk rs ws) I (fun _ _ _ => rfl) ?_ ?_ ((hI _ _).mpr ⟨d2, ws, none, none, none, rfl, hd2, hw, fun x hx => ?_⟩)).mono ?_
      · intro x rest ρ hρ
        obtain ⟨d', ws, o4, o6, o7, rfl, hd', hw, hl⟩ := (hI _ _).mp hρ
        obtain ⟨k, rfl, hk⟩ := hl x List.mem_cons_self
        exact ⟨_, rfl, cwb_spec h hd' hk hw hw0 (by omega) fun d3 ws3 o6 o7 h1 h2 => (hI _ _).mpr ⟨d3, ws3, _, _, _, rfl, h1, h2, fun y hy => hl y (List.mem_cons_of_mem _ hy)⟩⟩
      · intro ρ hρ
        obtain ⟨d', ws, o4, o6, o7, rfl, hd', hw, hl⟩ := (hI _ _).mp hρ
        exact ⟨d', ws, o4, o6, o7, rfl, hd', hw⟩
      · obtain ⟨k, hk, rfl⟩ := mem_rangeD hx
        exact ⟨k, by rw [Int.zero_add], hk⟩
      · rintro _ ⟨d', ws, o4, o6, o7, rfl, hd', hw⟩
        simp [dI_pure, outsL, isD_pure hd, hpp, hrp]
        exact hQ _ _ hd' hw
    · simp [h2, fGe, dI_pure, outsL, isD_pure hd, hpp, hrp]
      exact hQ _ _ hd2 hw
end DV
set_option Elab.async false
set_option linter.all false
set_option maxRecDepth 100000
set_option maxHeartbeats 4000000
namespace DV
open PySem PySem.Spec PyProof.Rows L2
theorem whileF_sat {t : Rho → Res (Bool × Rho)} {b : Rho → Res (Fl × Rho)} {Q : Fl × Rho → Prop} (I : Nat → Rho → Prop)
    (step : ∀ n ρ, I n ρ → Sat (t ρ) fun p => (p.1 = true → Sat (b p.2) fun q => q.1 = .next ∧ ∃ m, m < n ∧ I m q.2) ∧ (p.1 = false → Q (.next, p.2))) :
    ∀ n ρ, I n ρ → Sat (whileF t b (n + 1) ρ) Q := by
  intro n
  induction n using Nat.strongRecOn with
  | _ n ih =>
    intro ρ h
    have hs := step n ρ h
    rw [whileF, sat_bind]
    refine hs.mono fun p hp => ?_
    cases hb : p.1 with
    | false =>
      rw [if_neg (by decide)]
      exact hp.2 hb
    | true =>
      rw [if_pos rfl, sat_bind]
      refine (hp.1 hb).mono fun q hq => ?_
      obtain ⟨h1, m, hm, hi⟩ := hq
      rw [h1]
      have h2 := ih m hm q.2 hi
      have h3 : n = (m + 1) + (n - (m + 1)) := by omega
      have h4 : whileF t b (m + 1) q.2 ≠ .stuck := fun e => by rw [e] at h2; exact h2
      show Sat (whileF t b n q.2) Q
      rw [h3, whileF_up _ h4]
      exact h2
theorem while_sat {t : Rho → Res (Bool × Rho)} {b : Rho → Res (Fl × Rho)} {Q : Fl × Rho → Prop} (I : Nat → Rho → Prop)
    (step : ∀ n ρ, I n ρ → Sat (t ρ) fun p => (p.1 = true → Sat (b p.2) fun q => q.1 = .next ∧ ∃ m, m < n ∧ I m q.2) ∧ (p.1 = false → Q (.next, p.2))) {n : Nat} {ρ : Rho} (h : I n ρ) : Sat (gWhile t b ρ) Q := by
  have h2 := whileF_sat I step n ρ h
  have h4 : whileF t b (n + 1) ρ ≠ .stuck := fun e => by rw [e] at h2; exact h2
  rw [gWhile_eq (n + 1) h4]
  exact h2
theorem abs_nat {a : Int} : (if a < 0 then -a else a) = (a.natAbs : Int) := by
  split <;> omega
theorem gcd_spec {a b : Int} : Sat (QgcdF [.int a, .int b]) fun p => p.1 = .int (Nat.gcd a.natAbs b.natAbs : Nat) ∧ p.2 = [some (.int a), some (.int b)] := by
  unfold QgcdF
  rw [e_fn]
  simp [abs_nat]
  obtain ⟨I, hI⟩ : ∃ I : Nat → Rho → Prop, ∀ n ρ, I n ρ ↔ ∃ x : Nat, ρ = [some (.int x), some (.int n)] ∧ Nat.gcd x n = Nat.gcd a.natAbs b.natAbs := ⟨_, fun _ _ => Iff.rfl⟩
  refine (while_sat (Q := fun p => p = (.next, [some (.int (Nat.gcd a.natAbs b.natAbs : Nat)), some (.int 0)])) I (fun y ρ h => ?_) ((hI _ _).mpr ⟨a.natAbs, rfl, rfl⟩)).mono ?_
  · obtain ⟨x, rfl, hg⟩ := (hI _ _).mp h
    have hf : 0 < (y : Int) → fMod x y = some ((x : Int) % y) := fun h => fMod_ok h
    simp
    refine ⟨fun hy => ?_, fun hy => ?_⟩
    · have h0 : 0 < (y : Int) := by omega
      have hlt := Nat.mod_lt x (show 0 < y by omega)
      simp [e_move, hf h0]
      refine ⟨x % y, hlt, (hI _ _).mpr ⟨y, by rw [Int.natCast_emod], ?_⟩⟩
      rw [← hg, Nat.gcd_comm x y, Nat.gcd_rec y x, Nat.gcd_comm]
    · subst hy
      simp at hg
      simp [hg]
  · rintro _ rfl
    simp [e_move, outsL]
/-- a fraction in lowest terms -/
def nf (n d : Int) : D := .tup [.int (n / (Nat.gcd n.natAbs d.natAbs : Nat)), .int (d / (Nat.gcd n.natAbs d.natAbs : Nat))]
theorem gcd_pos {n d : Int} (h : 0 < d) : 0 < Nat.gcd n.natAbs d.natAbs := Nat.gcd_pos_of_pos_right _ (by omega)
theorem log_le {a b : Nat} (h : a ≤ b) : a.log2 ≤ b.log2 := by
  rcases Nat.eq_zero_or_pos a with e | e
  · rw [e]; exact Nat.zero_le _
  · exact (Nat.le_log2 (by omega)).mpr (Nat.le_trans (Nat.log2_self_le (by omega)) h)
theorem gcd_log {n d : Int} (h : 0 < d) (hl : d.natAbs.log2 < 9000) : ((Nat.gcd n.natAbs d.natAbs : Nat) : Int).natAbs.log2 < 9000 := by
  refine Nat.lt_of_le_of_lt (log_le ?_) hl
  show Nat.gcd n.natAbs d.natAbs ≤ _
  exact Nat.gcd_le_right _ (by omega)
theorem frac_spec {n d : Int} (h : 0 < d) (hl : ((Nat.gcd n.natAbs d.natAbs : Nat) : Int).natAbs.log2 < 9000) : Sat (QfracF [.int n, .int d]) fun p => p = (nf n d, [some (.int n), some (.int d)]) := by
  have hg := gcd_pos (n := n) h
  have hdv : ∀ i, fDivW i (Nat.gcd n.natAbs d.natAbs : Nat) = some (i / (Nat.gcd n.natAbs d.natAbs : Nat)) := fun i => fDivW_ok (by omega) hl
  unfold QfracF
  rw [e_fn]
  simp [fLt, show ¬ d < 0 by omega, e_llent]
  refine sat_call (gcd_spec (a := n) (b := d)) (by simp [takeArgs]) ?_
  rintro r os ⟨rfl, rfl⟩
  simp [putArgs, leftR, takeArgs, hdv, outsL, nf]
theorem pfrac_spec {n d : Int} (h : 0 < d) (hl : ((Nat.gcd n.natAbs d.natAbs : Nat) : Int).natAbs.log2 < 9000) : Sat (Qp_fracF [.int n, .int d]) fun p => p = (nf n d, [some (.int n), some (.int d)]) := by
  have hg := gcd_pos (n := n) h
  have hdv : ∀ i, fDivW i (Nat.gcd n.natAbs d.natAbs : Nat) = some (i / (Nat.gcd n.natAbs d.natAbs : Nat)) := fun i => fDivW_ok (by omega) hl
  unfold Qp_fracF
  rw [e_fn]
  simp [fLt, show ¬ d < 0 by omega, hdv, outsL, nf]
abbrev fr (n d : Int) : D := .tup [.int n, .int d]
theorem times_spec {a b c d : Int} (hb : 0 < b) (hd : 0 < d) (hc1 : 0 ≤ c) (hc2 : c < 2 ^ 64) (hd2 : d < 2 ^ 64) (hl : ((Nat.gcd (a * c).natAbs (b * d).natAbs : Nat) : Int).natAbs.log2 < 9000) :
    Sat (Qp_timesF [fr a b, fr c d]) fun p => p = (nf (a * c) (b * d), [some (fr a b), some (fr c d)]) := by
  have h1 : fMul a c = some (a * c) := fMul_ok (.inr ⟨by omega, hc2⟩)
  have h2 : fMul b d = some (b * d) := fMul_ok (.inr ⟨by omega, hd2⟩)
  unfold Qp_timesF
  rw [e_fn]
  simp [h1, h2]
  refine sat_call (pfrac_spec (n := a * c) (d := b * d) (Int.mul_pos hb hd) hl) (by simp [takeArgs]) ?_
  rintro r os e
  cases e
  simp [putArgs, leftR, takeArgs, outsL, nf]
theorem plus_spec {a b c d : Int} (hb : 0 < b) (hd : 0 < d) (hb2 : b < 2 ^ 64) (hd2 : d < 2 ^ 64) (hl : ((Nat.gcd (a * d + c * b).natAbs (b * d).natAbs : Nat) : Int).natAbs.log2 < 9000) :
    Sat (Qp_plusF [fr a b, fr c d]) fun p => p = (nf (a * d + c * b) (b * d), [some (fr a b), some (fr c d)]) := by
  have h1 : fMul a d = some (a * d) := fMul_ok (.inr ⟨by omega, hd2⟩)
  have h2 : fMul b d = some (b * d) := fMul_ok (.inr ⟨by omega, hd2⟩)
  have h3 : fMul c b = some (c * b) := fMul_ok (.inr ⟨by omega, hb2⟩)
  unfold Qp_plusF
  rw [e_fn]
  simp [h1, h2, h3]
  refine sat_call (pfrac_spec (n := a * d + c * b) (d := b * d) (Int.mul_pos hb hd) hl) (by simp [takeArgs]) ?_
  rintro r os e
  cases e
  simp [putArgs, leftR, takeArgs, outsL, nf]
@[simp] theorem not_bl {b : Bool} : oNot (.bl b) = some (.bl (!b)) := by cases b <;> rfl
theorem is_int_spec {i : Int} : Sat (Qis_intF [.int i]) fun p => p = (.bl true, [some (.int i)]) := by
  unfold Qis_intF
  rw [e_fn]
  simp [outsL]
theorem is_frac_spec {n d : Int} (hd : 1 ≤ d) (hg : Nat.gcd n.natAbs d.natAbs = 1) : Sat (Qis_fracF [fr n d]) fun p => p = (.bl true, [some (fr n d)]) := by
  unfold Qis_fracF
  rw [e_fn]
  simp
  refine sat_call (is_int_spec (i := n)) (by simp [takeArgs]) ?_
  rintro r os e
  cases e
  simp [putArgs, leftR, takeArgs]
  refine sat_call (is_int_spec (i := d)) (by simp [takeArgs]) ?_
  rintro r os e
  cases e
  simp [putArgs, leftR, takeArgs, fGe, hd]
  refine sat_call (gcd_spec (a := n) (b := d)) (by simp [takeArgs]) ?_
  rintro r os ⟨rfl, rfl⟩
  simp [putArgs, leftR, takeArgs, hg, outsL]
end DV
set_option Elab.async false
set_option linter.all false
set_option maxRecDepth 100000
set_option maxHeartbeats 4000000
namespace DV
open PySem PySem.Spec PyProof.Rows L2
theorem p_names_spec {top : Str} {ps rs : List D} {bad : List Str} (h : BookP ps rs bad) : Sat (Qp_names_ofF [bookOf top ps rs]) fun p => p = (.tup (ps.map fun p => .str (nameOf p)), [some (bookOf top ps rs)]) := by
  have e3 : sizeLine = 16777216 := by rw [sizeLine_eq]
  have hpp := h.pp
  have hrp := h.rp
  have hpl := h.p1
  have hpz : ps.length ≤ sizeLine := by omega
  unfold Qp_names_ofF
  rw [e_fn]
  simp [hpp, hrp, itemsK_ok (show (D.tup ps).items = some ps from rfl) hpp, hpz, wipeR]
  refine (comp_map (fun ρ => ρ = [some (bookOf top ps rs), none, none]) (fun x y => y = .str (nameOf x)) rfl (fun _ _ => rfl) fun x hx ρ hr => ?_).mono ?_
  · subst hr
    obtain ⟨ex, _⟩ := pairA_eq (h.pa x hx)
    generalize nameOf x = xn at ex ⊢
    generalize numOf x = xi at ex
    subst ex
    refine ⟨_, rfl, ?_⟩
    simp [wipeR]
  · rintro ⟨ys, ρ⟩ ⟨h1, e⟩
    simp only at h1 e
    subst e
    have e := each_eq (f := fun x => .str (nameOf x)) h1
    subst e
    have hp : D.pures (ps.map fun p => D.str (nameOf p)) = true := pures_all.mpr fun d hd => by
      obtain ⟨c, _, rfl⟩ := List.mem_map.mp hd
      rfl
    simp [backR, unR, hp, outsL, hpp, hrp]
theorem p_number_spec {i : Int} : Sat (Qp_is_numberF [.int i]) fun p => p = (.bl true, [some (.int i)]) := by
  unfold Qp_is_numberF
  rw [e_fn]
  simp [outsL]
theorem p_arity_in_spec {ps : List D} {n : Str} (h : ∀ p ∈ ps, PairA p) (hl : ps.length ≤ 1000) (hn : n ∈ ps.map nameOf) : Sat (Qp_arity_inF [.tup ps, .str n]) fun p => ∃ i, p = (.int i, [some (.tup ps), some (.str n)]) := by
  have hpp := pairs_pure h
  unfold Qp_arity_inF
  rw [e_fn]
  simp [hpp]
  obtain ⟨I, hI⟩ : ∃ I : List D → Rho → Prop, ∀ rest ρ, I rest ρ ↔ ∃ o2 o3, ρ = [some (.tup ps), some (.str n), o2, o3] ∧ n ∈ rest.map nameOf ∧ ∀ p ∈ rest, PairA p := ⟨_, fun _ _ => Iff.rfl⟩
  obtain ⟨Q, hQ⟩ : ∃ Q : Fl × Rho → Prop, ∀ p, Q p ↔ ∃ i o2 o3, p = (.ret (.int i), [some (.tup ps), some (.str n), o2, o3]) := ⟨_, fun _ => Iff.rfl⟩
  refine (forL_inv (Q := Q) I (fun _ _ _ => rfl) ?_ ?_ ((hI _ _).mpr ⟨none, none, rfl, hn, h⟩)).mono ?_
  · intro x rest ρ hρ
    obtain ⟨o2, o3, rfl, hm, hp⟩ := (hI _ _).mp hρ
    obtain ⟨ex, _⟩ := pairA_eq (hp x List.mem_cons_self)
    rw [List.map_cons] at hm
    have hp' : ∀ p ∈ rest, PairA p := fun p h => hp p (List.mem_cons_of_mem _ h)
    generalize nameOf x = xn at ex hm
    generalize numOf x = xi at ex
    subst ex
    refine ⟨_, rfl, ?_⟩
    by_cases hq : xn = n
    · simp [hq, e_move]
      exact (hQ _).mpr ⟨_, _, _, rfl⟩
    · simp [hq]
      exact (hI _ _).mpr ⟨_, _, rfl, (List.mem_cons.mp hm).resolve_left fun e => hq e.symm, hp'⟩
  · intro ρ hρ
    obtain ⟨o2, o3, rfl, hm, hp⟩ := (hI _ _).mp hρ
    cases hm
  · intro p hp
    obtain ⟨i, o2, o3, rfl⟩ := (hQ p).mp hp
    simp [outsL, hpp]
theorem p_arity_of_spec {top : Str} {ps rs : List D} {bad : List Str} {n : Str} (h : BookP ps rs bad) (hn : n ∈ ps.map nameOf) : Sat (Qp_arity_ofF [bookOf top ps rs, .str n]) fun p => ∃ i, p = (.int i, [some (bookOf top ps rs), some (.str n)]) := by
  have hpp := h.pp
  have hrp := h.rp
  have hpl := h.p1
  unfold Qp_arity_ofF
  rw [e_fn]
  simp [hpp, hrp, e_llent]
  refine sat_call (p_arity_in_spec (n := n) h.pa (by omega) hn) (by simp [takeArgs]) ?_
  rintro r os ⟨i, e⟩
  cases e
  simp [putArgs, leftR, takeArgs, hpp, hrp, e_move, outsL]
theorem p_rules_spec {top : Str} {ps rs : List D} {bad : List Str} {n : Str} (h : BookP ps rs bad) (hn : n ∈ ps.map nameOf) : Sat (Qp_rules_ofF [bookOf top ps rs, .str n]) fun p => p = (.tup (dNs (ixs rs n)), [some (bookOf top ps rs), some (.str n)]) := by
  have e3 : sizeLine = 16777216 := by rw [sizeLine_eq]
  have hpp := h.pp
  have hrp := h.rp
  have hrl := h.r1
  have hz : (rangeD 0 rs.length).length ≤ sizeLine := by rw [rangeD_len]; omega
  unfold Qp_rules_ofF
  rw [e_fn]
  simp [e_llent]
  refine sat_call (p_arity_of_spec (top := top) (n := n) h hn) (by simp [takeArgs, hpp, hrp]) ?_
  rintro r os ⟨i, e⟩
  cases e
  simp [putArgs, leftR, takeArgs, hpp, hrp, rg1_len (show rs.length ≤ 10000000 by omega), hz, wipeR]
  refine (comp_pick (fun ρ => ρ = [some (.tup [.str top, .tup ps, .tup rs]), some (.str n), none]) (isR rs n) (fun x y => y = x) (fun _ _ => rfl) rfl fun x hx ρ hr => ?_).mono ?_
  · subst hr
    obtain ⟨k, hk, rfl⟩ := mem_rangeD hx
    obtain ⟨m, t, sl, e, ht, hs, hn⟩ := rule_at hk h.ra
    have hsp : D.pures sl = true := pures_all.mpr fun s hm => slotA_pure (hs s hm)
    have hi : isR rs n (.int (0 + (k : Int))) = decide (rName rs k = n) := by
      show decide (rName rs (0 + (k : Int)).toNat = n) = _
      rw [Int.zero_add, Int.toNat_natCast]
    refine ⟨_, rfl, ?_⟩
    rw [hi]
    simp [hpp, hrp, e, ht, hsp, wipeR]
  · rintro ⟨ys, ρ⟩ ⟨h1, e⟩
    simp only at h1 e
    subst e
    have e := each_eq (f := fun x => x) h1
    rw [List.map_id', ixs_eq] at e
    subst e
    simp [backR, unR, outsL, hpp, hrp, dNs_pure]
theorem p_between_spec {i j : Int} (h0 : 0 ≤ i) (h1 : i ≤ j) : Sat (Qp_is_betweenF [.int i, .int 0, .int j]) fun p => p = (.bl true, [some (.int i), some (.int 0), some (.int j)]) := by
  unfold Qp_is_betweenF
  rw [e_fn]
  simp [e_llent]
  refine sat_call (p_number_spec (i := i)) (by simp [takeArgs]) ?_
  rintro r os e
  cases e
  simp [putArgs, leftR, takeArgs, gChain, fLe, h0, h1, outsL]
theorem p_slots_spec {top : Str} {ps rs : List D} {bad : List Str} {k : Nat} (h : BookP ps rs bad) (hk : k < rs.length) : Sat (Qp_slots_ofF [bookOf top ps rs, .int k]) fun p => ∃ sl, p = (.tup sl, [some (bookOf top ps rs), some (.int k)]) ∧ (∀ s ∈ sl, SlotA s) ∧ sl.map nameOf = rSlots rs k := by
  have hpp := h.pp
  have hrp := h.rp
  obtain ⟨m, t, sl, e, ht, hs, hn⟩ := rule_at hk h.ra
  have hsp : D.pures sl = true := pures_all.mpr fun s hm => slotA_pure (hs s hm)
  have hr : Sat (Qp_rule_atF [bookOf top ps rs, .int k]) fun p => p = (.tup [.str (rName rs k), .str m, t, .tup sl], [some (bookOf top ps rs), some (.int k)]) := by
    unfold Qp_rule_atF
    rw [e_fn]
    simp [e_llent, hpp, hrp, fSub]
    refine sat_call (p_between_spec (i := k) (j := rs.length - 1) (by omega) (by omega)) (by simp [takeArgs]) ?_
    rintro r os e'
    cases e'
    simp [putArgs, leftR, takeArgs, hpp, hrp, e, ht, hsp, outsL]
  unfold Qp_slots_ofF
  rw [e_fn]
  simp [e_llent]
  refine sat_call hr (by simp [takeArgs, hpp, hrp]) ?_
  rintro r os e'
  cases e'
  simp [putArgs, leftR, takeArgs, hpp, hrp, ht, hsp, outsL]
  exact ⟨hs, hn⟩
end DV
set_option Elab.async false
set_option linter.all false
set_option maxRecDepth 100000
set_option maxHeartbeats 4000000
namespace DV
open PySem PySem.Spec PyProof.Rows L2
def wt (ws : List Int) (k : Nat) : Int := ws.getD k 0
def sumW (rs : List D) (ws : List Int) (n : Str) : Int := ((ixs rs n).map (wt ws)).sum
theorem wt_get {rs : List D} {ws : List Int} {k : Nat} (hw : WOk rs ws) (hk : k < rs.length) : (dI ws)[k]? = some (.int (wt ws k)) ∧ 1 ≤ wt ws k ∧ wt ws k ≤ 99 := by
  have hl : k < ws.length := by rw [hw.1]; exact hk
  have e : wt ws k = ws[k] := by unfold wt; rw [List.getD_eq_getElem?_getD, List.getElem?_eq_getElem hl]; rfl
  rw [e]
  exact ⟨dI_get hl, hw.2 _ (List.getElem_mem hl)⟩
theorem sum_le {l : List Nat} {f : Nat → Int} (h : ∀ k ∈ l, 1 ≤ f k ∧ f k ≤ 99) : (l.length : Int) ≤ (l.map f).sum ∧ (l.map f).sum ≤ 99 * l.length := by
  induction l with
  | nil => simp
  | cons a l ih =>
    have h1 := ih fun k hk => h k (List.mem_cons_of_mem _ hk)
    have h2 := h a List.mem_cons_self
    simp only [List.map_cons, List.sum_cons, List.length_cons]
    omega
theorem ixs_len {rs : List D} {n : Str} : (ixs rs n).length ≤ rs.length := by
  unfold ixs
  exact Nat.le_trans (List.length_filter_le _ _) (by rw [List.length_range]; exact Nat.le_refl _)
theorem sumW_le {rs : List D} {ws : List Int} {n : Str} (hw : WOk rs ws) (hl : rs.length ≤ 450) : ((ixs rs n).length : Int) ≤ sumW rs ws n ∧ sumW rs ws n ≤ 44550 := by
  have h := sum_le (l := ixs rs n) (f := wt ws) fun k hk => (wt_get hw (mem_ixs.mp hk).1).2
  have := ixs_len (rs := rs) (n := n)
  unfold sumW
  omega
theorem small_log {n : Int} (h0 : 0 ≤ n) (h : n < 2 ^ 60) : n.natAbs.log2 < 9000 := by
  have h1 : n.natAbs ≤ 2 ^ 60 := by omega
  exact Nat.lt_of_le_of_lt (log_le h1) (by rw [Nat.log2_two_pow]; decide)
theorem rule_chance_spec {top : Str} {ps rs : List D} {bad : List Str} {ws : List Int} {k : Nat} (h : BookP ps rs bad) (hw : WOk rs ws) (hk : k < rs.length) :
    Sat (Qp_rule_chanceF [bookOf top ps rs, .tup (dI ws), .int k]) fun p => p = (nf (wt ws k) (sumW rs ws (rName rs k)), [some (bookOf top ps rs), some (.tup (dI ws)), some (.int k)]) := by
  have e3 : sizeLine = 16777216 := by rw [sizeLine_eq]
  have hpp := h.pp
  have hrp := h.rp
  have hrl := h.r1
  obtain ⟨m, t, sl, e, ht, hs, hn⟩ := rule_at hk h.ra
  have hsp := slots_ok hs
  have hgk := wt_get hw hk
  have hnm : rName rs k ∈ ps.map nameOf := by
    have := h.rn rs[k] (List.getElem_mem hk)
    unfold rName
    rw [List.getD_eq_getElem?_getD, List.getElem?_eq_getElem hk]
    exact this
  have hsum := sumW_le (n := rName rs k) hw hrl
  have hpos : 0 < (ixs rs (rName rs k)).length := List.length_pos_of_mem (mem_ixs.mpr ⟨hk, rfl⟩)
  have hil := ixs_len (rs := rs) (n := rName rs k)
  have hz : (dNs (ixs rs (rName rs k))).length ≤ sizeLine := by unfold dNs; rw [List.length_map]; omega
  unfold Qp_rule_chanceF
  rw [e_fn]
  simp [e_llent, hpp, hrp, e, ht, hsp]
  refine sat_call (p_rules_spec (top := top) (n := rName rs k) h hnm) (by simp [takeArgs, hpp, hrp]) ?_
  rintro r os e'
  cases e'
  simp [putArgs, leftR, takeArgs, hpp, hrp, hgk.1, dNs_pure, hz, wipeR]
  refine (comp_map (fun ρ => ρ = [some (bookOf top ps rs), some (.tup (dI ws)), some (.int k), some (.tup (dNs (ixs rs (rName rs k)))), none]) (fun x y => ∃ j : Nat, x = .int j ∧ y = .int (wt ws j)) rfl (fun _ _ => rfl) fun x hx ρ hr => ?_).mono ?_
  · subst hr
    obtain ⟨j, hj, rfl⟩ := List.mem_map.mp hx
    refine ⟨_, rfl, ?_⟩
    simp [(wt_get hw (mem_ixs.mp hj).1).1, wipeR]
    try exact ⟨j, rfl, rfl⟩
  · rintro ⟨ys, ρ⟩ ⟨h1, e'⟩
    simp only at h1 e'
    subst e'
    have e4 : ys = dI ((ixs rs (rName rs k)).map (wt ws)) := by
      generalize ixs rs (rName rs k) = l at h1
      clear hz hil hpos
      unfold dNs at h1
      unfold dI
      rw [List.map_map]
      induction l generalizing ys with
      | nil => cases h1; rfl
      | cons a l ih =>
        cases h1 with
        | cons h t =>
          obtain ⟨j, e1, e2⟩ := h
          cases e1
          rw [e2, ih _ t]
          rfl
    subst e4
    have hs2 : oSum (.lst (dI ((ixs rs (rName rs k)).map (wt ws)))) = some (.int (sumW rs ws (rName rs k))) := by
      unfold oSum
      simp only [ints_dI]
      rfl
    simp [backR, unR, hs2]
    have hg : ((Nat.gcd (wt ws k).natAbs (sumW rs ws (rName rs k)).natAbs : Nat) : Int).natAbs.log2 < 9000 := gcd_log (by omega) (small_log (by omega) (by omega))
    refine sat_call (pfrac_spec (n := wt ws k) (d := sumW rs ws (rName rs k)) (by omega) hg) (by simp [takeArgs]) ?_
    rintro r os e
    cases e
    simp [putArgs, leftR, takeArgs, outsL, nf, hpp, hrp, dI_pure]
end DV
set_option Elab.async false
set_option linter.all false
set_option maxRecDepth 100000
set_option maxHeartbeats 4000000
namespace DV
open PySem PySem.Spec PyProof.Rows L2
/-! ### lowest terms -/
def nG (n d : Int) : Int := (Nat.gcd n.natAbs d.natAbs : Nat)
def nN (n d : Int) : Int := n / nG n d
def nD (n d : Int) : Int := d / nG n d
theorem nf_fr {n d : Int} : nf n d = fr (nN n d) (nD n d) := rfl
theorem nG_pos {n d : Int} (h : 0 < d) : 0 < nG n d := by
  have := gcd_pos (n := n) h
  unfold nG
  omega
theorem nG_n {n d : Int} : nG n d ∣ n := by
  unfold nG
  exact Int.ofNat_dvd_left.mpr (Nat.gcd_dvd_left _ _)
theorem nG_d {n d : Int} : nG n d ∣ d := by
  unfold nG
  exact Int.ofNat_dvd_left.mpr (Nat.gcd_dvd_right _ _)
theorem nN_mul {n d : Int} : nN n d * nG n d = n := Int.ediv_mul_cancel nG_n
theorem nD_mul {n d : Int} : nD n d * nG n d = d := Int.ediv_mul_cancel nG_d
theorem nD_pos {n d : Int} (h : 0 < d) : 0 < nD n d := by
  have h1 := nG_pos (n := n) h
  have h2 := nD_mul (n := n) (d := d)
  exact Int.pos_of_mul_pos_left (by rw [h2]; exact h) h1
theorem n_cop {n d : Int} (h : 0 < d) : Nat.gcd (nN n d).natAbs (nD n d).natAbs = 1 := by
  have hg := gcd_pos (n := n) h
  have e1 : n.natAbs = (nN n d).natAbs * Nat.gcd n.natAbs d.natAbs := by
    have := congrArg Int.natAbs (nN_mul (n := n) (d := d))
    rw [Int.natAbs_mul] at this
    exact this.symm
  have e2 : d.natAbs = (nD n d).natAbs * Nat.gcd n.natAbs d.natAbs := by
    have := congrArg Int.natAbs (nD_mul (n := n) (d := d))
    rw [Int.natAbs_mul] at this
    exact this.symm
  have e3 : Nat.gcd n.natAbs d.natAbs = Nat.gcd (nN n d).natAbs (nD n d).natAbs * Nat.gcd n.natAbs d.natAbs := by
    rw [← Nat.gcd_mul_right, ← e1, ← e2]
  exact (Nat.eq_of_mul_eq_mul_right hg (by rw [Nat.one_mul]; exact e3)).symm
theorem nf_eq {n d n' d' : Int} (h : 0 < d) (h' : 0 < d') (e : n * d' = n' * d) : nf n d = nf n' d' := by
  have hb := nD_pos (n := n) h
  have hb' := nD_pos (n := n') h'
  have c := n_cop (n := n) h
  have c' := n_cop (n := n') h'
  have key : nN n d * nD n' d' = nN n' d' * nD n d := by
    have hg := nG_pos (n := n) h
    have hg' := nG_pos (n := n') h'
    have e2 : (nN n d * nG n d) * (nD n' d' * nG n' d') = (nN n' d' * nG n' d') * (nD n d * nG n d) := by
      rw [nN_mul, nN_mul, nD_mul, nD_mul]
      exact e
    have e3 : (nN n d * nD n' d') * (nG n d * nG n' d') = (nN n' d' * nD n d) * (nG n d * nG n' d') := by
      rw [show (nN n d * nD n' d') * (nG n d * nG n' d') = (nN n d * nG n d) * (nD n' d' * nG n' d') by ac_rfl, e2]
      ac_rfl
    exact Int.eq_of_mul_eq_mul_right (by have := Int.mul_pos hg hg'; omega) e3
  have kn : (nN n d).natAbs * (nD n' d').natAbs = (nN n' d').natAbs * (nD n d).natAbs := by
    rw [← Int.natAbs_mul, ← Int.natAbs_mul, key]
  have d1 : (nD n d).natAbs ∣ (nD n' d').natAbs := (Nat.Coprime.symm c).dvd_of_dvd_mul_left ⟨_, by rw [kn, Nat.mul_comm]⟩
  have d2 : (nD n' d').natAbs ∣ (nD n d).natAbs := (Nat.Coprime.symm c').dvd_of_dvd_mul_left ⟨_, by rw [← kn, Nat.mul_comm]⟩
  have e1 := Nat.dvd_antisymm d1 d2
  have e2 : nD n d = nD n' d' := by omega
  rw [nf_fr, nf_fr]
  rw [e2] at key
  have e3 : nN n d = nN n' d' := Int.eq_of_mul_eq_mul_right (by omega) key
  rw [e2, e3]
end DV
set_option Elab.async false
set_option linter.all false
set_option maxRecDepth 100000
set_option maxHeartbeats 4000000
namespace DV
open PySem PySem.Spec PyProof.Rows L2
theorem n_cross {n d : Int} : nN n d * d = n * nD n d := by
  have h1 := nN_mul (n := n) (d := d)
  have h2 := nD_mul (n := n) (d := d)
  calc nN n d * d = nN n d * (nD n d * nG n d) := by rw [h2]
    _ = (nN n d * nG n d) * nD n d := by ac_rfl
    _ = n * nD n d := by rw [h1]
theorem nf_times {a b n d : Int} (hb : 0 < b) (hd : 0 < d) (m e : Int) (he : 0 < e) : nf (nN n d * m) (nD n d * e) = nf (n * m) (d * e) := by
  refine nf_eq (Int.mul_pos (nD_pos hd) he) (Int.mul_pos hd he) ?_
  have h := n_cross (n := n) (d := d)
  calc nN n d * m * (d * e) = (nN n d * d) * (m * e) := by ac_rfl
    _ = (n * nD n d) * (m * e) := by rw [h]
    _ = n * m * (nD n d * e) := by ac_rfl
theorem nf_plus {n d n' d' : Int} (hd : 0 < d) (hd' : 0 < d') : nf (nN n d * nD n' d' + nN n' d' * nD n d) (nD n d * nD n' d') = nf (n * d' + n' * d) (d * d') := by
  refine nf_eq (Int.mul_pos (nD_pos hd) (nD_pos hd')) (Int.mul_pos hd hd') ?_
  have h := n_cross (n := n) (d := d)
  have h' := n_cross (n := n') (d := d')
  rw [Int.add_mul, Int.add_mul]
  congr 1
  · calc nN n d * nD n' d' * (d * d') = (nN n d * d) * (nD n' d' * d') := by ac_rfl
      _ = (n * nD n d) * (nD n' d' * d') := by rw [h]
      _ = n * d' * (nD n d * nD n' d') := by ac_rfl
  · calc nN n' d' * nD n d * (d * d') = (nN n' d' * d') * (nD n d * d) := by ac_rfl
      _ = (n' * nD n' d') * (nD n d * d) := by rw [h']
      _ = n' * d * (nD n d * nD n' d') := by ac_rfl
theorem nD_le {n d : Int} (h : 0 < d) : nD n d ≤ d := by
  have h1 := nG_pos (n := n) h
  have h2 := nD_mul (n := n) (d := d)
  have h3 := nD_pos (n := n) h
  have h4 : nD n d * 1 ≤ nD n d * nG n d := Int.mul_le_mul_of_nonneg_left (by omega) (by omega)
  omega
theorem nN_nonneg {n d : Int} (hn : 0 ≤ n) (h : 0 < d) : 0 ≤ nN n d := Int.ediv_nonneg hn (by have := nG_pos (n := n) h; omega)
theorem nN_le {n d : Int} (hn : 0 ≤ n) (h : 0 < d) : nN n d ≤ n := by
  have h1 := nG_pos (n := n) h
  have h2 := nN_mul (n := n) (d := d)
  have h3 := nN_nonneg hn h
  have h4 : nN n d * 1 ≤ nN n d * nG n d := Int.mul_le_mul_of_nonneg_left (by omega) h3
  omega
end DV
set_option Elab.async false
set_option linter.all false
set_option maxRecDepth 100000
set_option maxHeartbeats 4000000
namespace DV
open PySem PySem.Spec PyProof.Rows L2
def cnt (rs : List D) (k : Nat) (o : Str) : Nat := ((rSlots rs k).filter fun s => decide (s = o)).length
def sumM (rs : List D) (ws : List Int) (o : Str) (l : List Nat) : Int := (l.map fun k => wt ws k * cnt rs k o).sum
def den (rs : List D) (ws : List Int) (n : Str) : Int := if ixs rs n = [] then 1 else sumW rs ws n
theorem den_pos {rs : List D} {ws : List Int} {n : Str} (hw : WOk rs ws) (hl : rs.length ≤ 450) : 0 < den rs ws n ∧ den rs ws n ≤ 44550 := by
  have h := sumW_le (n := n) hw hl
  unfold den
  split
  · omega
  · rename_i h2
    have := List.length_pos_iff.mpr h2
    omega
theorem nf_one {m : Int} : nf m 1 = fr m 1 := by
  have h : nf m 1 = fr (m / (Nat.gcd m.natAbs 1 : Nat)) (1 / (Nat.gcd m.natAbs 1 : Nat)) := rfl
  rw [h, Nat.gcd_one_right]
  simp
theorem nf_zero {d : Int} (h : 0 < d) : nf 0 d = fr 0 1 := by
  rw [nf_eq h (show (0 : Int) < 1 by decide) (n' := 0) (by simp), nf_one]
def hasN (o : Str) (s : D) : Bool := decide (nameOf s = o)
theorem cnt_eq {rs sl : List D} {k : Nat} {o : Str} (hn : sl.map nameOf = rSlots rs k) : (sl.filter (hasN o)).length = cnt rs k o := by
  unfold cnt
  rw [← hn, List.filter_map, List.length_map]
  rfl
theorem cnt_le {rs : List D} {k : Nat} {o : Str} (ha : ∀ r ∈ rs, (ruleOf r).2.length ≤ 3) (hk : k < rs.length) : cnt rs k o ≤ 3 := by
  unfold cnt rSlots
  refine Nat.le_trans (List.length_filter_le _ _) ?_
  rw [List.getD_eq_getElem?_getD, List.getElem?_eq_getElem hk]
  exact ha _ (List.getElem_mem hk)
end DV
set_option Elab.async false
set_option linter.all false
set_option maxRecDepth 100000
set_option maxHeartbeats 4000000
namespace DV
open PySem PySem.Spec PyProof.Rows L2
noncomputable def MOl : Rho → Res (D × Rho) := (gOp1 oLen (gComp (gItems (gCall Qp_slots_ofF (lLent 0 (lLent 5 lNil)))) [7] (bName 7) (gOneT (gTest (gOp2 (oEq false) (gCp (gOp2 oGet (gVar 7) (gC (.int 0)))) (gVar 3)))) (gCp (gVar 7))))
noncomputable def MOb : Rho → Res (Fl × Rho) := (gSeq (gSet 6 MOl)
    (gSet 4 (gCall Qp_plusF (lLent 4 (lOwn (gCall Qp_timesF (lOwn (gCall Qp_rule_chanceF (lLent 0 (lLent 1 (lLent 5 lNil)))) (lOwn (gCall Qp_fracF (lLent 6 (lOwn (gC (.int 1)) lNil))) lNil))) lNil)))))
theorem Qp_mean_ofF_eq : Qp_mean_ofF = gFn 4 8 [0, 1, 2, 3] (gSeq (gSet 4 (gC (.tup ([0, 1].map .int))))
    (gSeq (gFor (gItems (gCall Qp_rules_ofF (lLent 0 (lLent 2 lNil)))) (bName 5) MOb)
    (gRet (gMove 4)))) := rfl
abbrev MR (b : D) (ws : List Int) (n o : Str) (f : D) (o5 o6 : Option D) : Rho := [some b, some (.tup (dI ws)), some (.str n), some (.str o), some f, o5, o6, none]
theorem mol_spec {top : Str} {ps rs : List D} {bad : List Str} {ws : List Int} {n o : Str} {f : D} {o6 : Option D} {k : Nat} (h : BookP ps rs bad) (hk : k < rs.length) :
    Sat (MOl (MR (bookOf top ps rs) ws n o f (some (.int k)) o6)) fun p => p = (.int (cnt rs k o), MR (bookOf top ps rs) ws n o f (some (.int k)) o6) := by
  have e3 : sizeLine = 16777216 := by rw [sizeLine_eq]
  have hpp := h.pp
  have hrp := h.rp
  unfold MOl MR
  simp [e_llent]
  refine sat_call (p_slots_spec (top := top) h hk) (by simp [takeArgs, hpp, hrp]) ?_
  rintro r os ⟨sl, e, hs, hn⟩
  cases e
  have hsp := slots_ok hs
  have hsl : sl.length ≤ 3 := by
    have h2 : (rSlots rs k).length ≤ 3 := by
      unfold rSlots
      rw [List.getD_eq_getElem?_getD, List.getElem?_eq_getElem hk]
      exact h.rl _ (List.getElem_mem hk)
    rw [← hn, List.length_map] at h2
    exact h2
  have hsz : sl.length ≤ sizeLine := by omega
  simp [putArgs, leftR, takeArgs, hpp, hrp, itemsK_ok (show (D.tup sl).items = some sl from rfl) hsp, hsz, wipeR]
  refine (comp_pick (fun ρ => ρ = MR (bookOf top ps rs) ws n o f (some (.int k)) o6) (hasN o) (fun x y => y = x) (fun _ _ => rfl) rfl fun x hx ρ hr => ?_).mono ?_
  · subst hr
    obtain ⟨x1, y1, rfl, hy1⟩ := hs x hx
    refine ⟨_, rfl, ?_⟩
    have hh : hasN o (.tup [.str x1, y1]) = decide (x1 = o) := rfl
    rw [hh]
    simp [hy1, wipeR]
  · rintro ⟨ys, ρ⟩ ⟨h1, e'⟩
    simp only at h1 e'
    subst e'
    have e' := each_eq (f := fun x => x) h1
    rw [List.map_id'] at e'
    subst e'
    simp [backR, unR, cnt_eq hn]
theorem mob_spec {top : Str} {ps rs : List D} {bad : List Str} {ws : List Int} {n o : Str} {a : Int} {o6 : Option D} {k : Nat} (h : BookP ps rs bad) (hw : WOk rs ws) (hk : k ∈ ixs rs n) {Q : Fl × Rho → Prop}
    (hQ : ∀ o6, Q (.next, MR (bookOf top ps rs) ws n o (nf (a + wt ws k * cnt rs k o) (sumW rs ws n)) (some (.int k)) o6)) :
    Sat (MOb (MR (bookOf top ps rs) ws n o (nf a (sumW rs ws n)) (some (.int k)) o6)) Q := by
  have hpp := h.pp
  have hrp := h.rp
  obtain ⟨hk1, hk2⟩ := mem_ixs.mp hk
  have hS := sumW_le (n := n) hw h.r1
  have hpos : 0 < (ixs rs n).length := List.length_pos_of_mem hk
  have hS0 : 0 < sumW rs ws n := by omega
  have hwk := (wt_get hw hk1).2
  have hc := cnt_le (o := o) h.rl hk1
  have d1 := nD_pos (n := wt ws k) hS0
  have d1' := nD_le (n := wt ws k) hS0
  have d2 := nD_pos (n := a) hS0
  have d2' := nD_le (n := a) hS0
  generalize hSe : sumW rs ws n = S at *
  unfold MOb
  simp
  refine (mol_spec h hk1).mono ?_
  rintro _ rfl
  simp [e_llent]
  refine sat_call (rule_chance_spec (top := top) (k := k) h hw hk1) (by simp [takeArgs, hpp, hrp, dI_pure]) ?_
  rintro r os e
  cases e
  simp [putArgs, leftR, takeArgs, hpp, hrp, dI_pure, e_llent]
  refine sat_call (pfrac_spec (n := cnt rs k o) (d := 1) (by decide) (gcd_log (by decide) (small_log (by decide) (by decide)))) (by simp [takeArgs]) ?_
  rintro r os e
  cases e
  rw [nf_one]
  simp [putArgs, leftR, takeArgs, hpp, hrp, dI_pure, e_llent]
  rw [hk2, hSe]
  have hm1 : nD (wt ws k) S * 1 ≤ 44550 := by omega
  refine sat_call (times_spec (a := nN (wt ws k) S) (b := nD (wt ws k) S) (c := cnt rs k o) (d := 1) d1 (by decide) (by omega) (by omega) (by decide) (gcd_log (by omega) (small_log (by omega) (by omega)))) (by simp [takeArgs, nf_fr]) ?_
  rintro r os e
  cases e
  rw [nf_times (a := 0) (b := 1) (by decide) hS0 _ _ (by decide), Int.mul_one]
  have d3 := nD_pos (n := wt ws k * cnt rs k o) hS0
  have d3' := nD_le (n := wt ws k * cnt rs k o) hS0
  have d4 : nD a S * nD (wt ws k * cnt rs k o) S ≤ 44550 * 44550 := by
    refine Int.le_trans (Int.mul_le_mul_of_nonneg_left (show _ ≤ (44550 : Int) by omega) (by omega)) (Int.mul_le_mul_of_nonneg_right (by omega) (by decide))
  have d5 : 0 < nD a S * nD (wt ws k * cnt rs k o) S := Int.mul_pos d2 d3
  simp [putArgs, leftR, takeArgs, hpp, hrp, dI_pure, e_llent, nf_fr]
  refine sat_call (plus_spec (a := nN a S) (b := nD a S) (c := nN (wt ws k * cnt rs k o) S) (d := nD (wt ws k * cnt rs k o) S) d2 d3 (by omega) (by omega) (gcd_log d5 (small_log (by omega) (by omega)))) (by simp [takeArgs]) ?_
  rintro r os e
  cases e
  rw [nf_plus hS0 hS0]
  have e6 : nf (a * S + wt ws k * cnt rs k o * S) (S * S) = nf (a + wt ws k * cnt rs k o) S := by
    refine nf_eq (Int.mul_pos hS0 hS0) hS0 ?_
    rw [← Int.add_mul]
    ac_rfl
  rw [e6]
  simp [putArgs, leftR, takeArgs, hpp, hrp, dI_pure]
  exact hQ _
theorem mean_of_spec {top : Str} {ps rs : List D} {bad : List Str} {ws : List Int} {n o : Str} (h : BookP ps rs bad) (hw : WOk rs ws) (hn : n ∈ ps.map nameOf) :
    Sat (Qp_mean_ofF [bookOf top ps rs, .tup (dI ws), .str n, .str o]) fun p => p = (nf (sumM rs ws o (ixs rs n)) (den rs ws n), [some (bookOf top ps rs), some (.tup (dI ws)), some (.str n), some (.str o)]) := by
  have e3 : sizeLine = 16777216 := by rw [sizeLine_eq]
  have hpp := h.pp
  have hrp := h.rp
  have hd := den_pos (n := n) hw h.r1
  have hil := ixs_len (rs := rs) (n := n)
  have hrl := h.r1
  have hz : (dNs (ixs rs n)).length ≤ sizeLine := by unfold dNs; rw [List.length_map]; omega
  rw [Qp_mean_ofF_eq, e_fn]
  simp [e_llent]
  refine sat_call (p_rules_spec (top := top) (n := n) h hn) (by simp [takeArgs, hpp, hrp]) ?_
  rintro r os e
  cases e
  simp [putArgs, leftR, takeArgs, hpp, hrp, itemsK_ok (show (D.tup (dNs (ixs rs n))).items = some (dNs (ixs rs n)) from rfl) dNs_pure]
  obtain ⟨I, hI⟩ : ∃ I : List D → Rho → Prop, ∀ rest ρ, I rest ρ ↔ ∃ done l o5 o6, done ++ l = ixs rs n ∧ rest = dNs l ∧ ρ = MR (bookOf top ps rs) ws n o (nf (sumM rs ws o done) (den rs ws n)) o5 o6 := ⟨_, fun _ _ => Iff.rfl⟩
  refine (forL_inv (Q := fun p => ∃ o5 o6, p = (.next, MR (bookOf top ps rs) ws n o (nf (sumM rs ws o (ixs rs n)) (den rs ws n)) o5 o6)) I (fun _ _ _ => rfl) ?_ ?_ ((hI _ _).mpr ⟨[], ixs rs n, none, none, rfl, rfl, ?_⟩)).mono ?_
  · intro x rest ρ hρ
    obtain ⟨done, l, o5, o6, hl, hr, rfl⟩ := (hI _ _).mp hρ
    cases l with
    | nil => cases hr
    | cons k l =>
      cases hr
      have hk : k ∈ ixs rs n := by rw [← hl]; exact List.mem_append_right _ List.mem_cons_self
      have hde : den rs ws n = sumW rs ws n := if_neg (List.ne_nil_of_mem hk)
      refine ⟨_, rfl, ?_⟩
      rw [hde]
      refine mob_spec h hw hk fun o6 => (hI _ _).mpr ⟨done ++ [k], l, some (.int k), o6, by rw [← hl, List.append_assoc]; rfl, rfl, ?_⟩
      have hs : sumM rs ws o (done ++ [k]) = sumM rs ws o done + wt ws k * cnt rs k o := by
        unfold sumM
        rw [List.map_append, List.sum_append]
        simp
      rw [hs, hde]
  · intro ρ hρ
    obtain ⟨done, l, o5, o6, hl, hr, rfl⟩ := (hI _ _).mp hρ
    cases l with
    | nil =>
      rw [List.append_nil] at hl
      subst hl
      exact ⟨_, _, rfl⟩
    | cons k l => cases hr
  · rw [show sumM rs ws o [] = 0 from rfl, nf_zero hd.1]
  · rintro _ ⟨o5, o6, rfl⟩
    simp [e_move, outsL, hpp, hrp, dI_pure, nf_fr]
end DV
set_option Elab.async false
set_option linter.all false
set_option maxRecDepth 100000
set_option maxHeartbeats 4000000
namespace DV
open PySem PySem.Spec PyProof.Rows L2
/-! ### dicts of numbers by strings -/
abbrev SM := List (Str × Int)
def dicS (m : SM) : D := .dic (m.map fun p => .str p.1) (m.map fun p => .int p.2)
def look : SM → Str → Option Int
  | [], _ => none
  | p :: m, n => if p.1 = n then some p.2 else look m n
def putS : SM → Str → Int → SM
  | [], n, v => [(n, v)]
  | p :: m, n, v => if p.1 = n then (n, v) :: m else p :: putS m n v
theorem look_dget (m : SM) (n : Str) : dget (m.map fun p => D.str p.1) (m.map fun p => D.int p.2) (.str n) = (look m n).map .int := by
  induction m with
  | nil => rfl
  | cons p m ih =>
    show (if D.str p.1 = D.str n then some (D.int p.2) else dget _ _ _) = _
    rw [ih]
    by_cases h : p.1 = n <;> simp [look, h]
theorem same_dicS (m : SM) (n : Str) : sameSort (m.map fun p => D.str p.1) (.str n) = true := by
  unfold sameSort
  rw [List.all_map]
  exact List.all_eq_true.mpr fun _ _ => rfl
@[simp] theorem get_dicS {m : SM} {n : Str} : oGet (dicS m) (.str n) = (look m n).map .int := by
  unfold oGet dicS
  simp only [D.dict]
  rw [if_pos ⟨rfl, same_dicS m n⟩, look_dget]
@[simp] theorem in_dicS {m : SM} {n : Str} {b : Bool} : oIn b (.str n) (dicS m) = some (.bl (if b = true then !(look m n).isSome else (look m n).isSome)) := by
  have e : decide (D.str n ∈ m.map fun p => D.str p.1) = (look m n).isSome := by
    rw [← dget_mem (ds := m.map fun p => D.int p.2) (by simp), look_dget]
    cases look m n <;> rfl
  unfold oIn dicS
  simp only [D.dict]
  rw [if_pos ⟨rfl, same_dicS m n, by simp⟩, e]
theorem put_some (m : SM) (n : Str) (v : Int) : (look m n).isSome = true → (putS m n v).map (fun p => D.str p.1) = m.map (fun p => D.str p.1) ∧ (putS m n v).map (fun p => D.int p.2) = dset (m.map fun p => D.str p.1) (m.map fun p => D.int p.2) (.str n) (.int v) := by
  induction m with
  | nil => intro h; cases h
  | cons p m ih =>
    intro h
    show _ ∧ _ = (if D.str p.1 = D.str n then D.int v :: (m.map fun p => D.int p.2) else D.int p.2 :: dset _ _ _ _)
    by_cases hp : p.1 = n
    · simp [putS, hp]
    · simp only [look, if_neg hp] at h
      obtain ⟨h1, h2⟩ := ih h
      simp [putS, hp, h1, h2]
theorem put_none (m : SM) (n : Str) (v : Int) : look m n = none → putS m n v = m ++ [(n, v)] := by
  induction m with
  | nil => intro h; rfl
  | cons p m ih =>
    intro h
    by_cases hp : p.1 = n
    · simp [look, hp] at h
    · simp only [look, if_neg hp] at h
      simp [putS, hp, ih h]
theorem sput_dicS {m : SM} {n : Str} {v : Int} (h : m.length < sizeLine) : sput (dicS m) (.str n) (.int v) = some (dicS (putS m n v)) := by
  unfold sput dicS
  simp only
  rw [if_pos ⟨rfl, same_dicS m n, by simpa using h, by simp⟩, look_dget]
  cases hl : look m n with
  | none =>
    rw [put_none m n v hl]
    simp
  | some u =>
    obtain ⟨h1, h2⟩ := put_some m n v (by rw [hl]; rfl)
    simp [h1, h2]
theorem look_put (m : SM) (n k : Str) (v : Int) : look (putS m n v) k = if n = k then some v else look m k := by
  induction m with
  | nil => rfl
  | cons p m ih =>
    by_cases hp : p.1 = n
    · by_cases hk : n = k
      · simp [putS, look, hp, hk]
      · simp [putS, look, hp, hk]
    · by_cases hk : n = k
      · subst hk
        simp [putS, look, hp, ih]
      · simp [putS, look, hp, hk, ih]
theorem put_len (m : SM) (n : Str) (v : Int) : (putS m n v).length ≤ m.length + 1 := by
  induction m with
  | nil => exact Nat.le_refl _
  | cons p m ih =>
    by_cases hp : p.1 = n
    · simp [putS, hp]
    · simp [putS, hp]; omega
@[simp] theorem p_dicS {m : SM} : (dicS m).pure = false := rfl
theorem dicS_nil : D.dic [] [] = dicS [] := rfl
section
variable {ρ : Rho} {g h : Rho → Res (D × Rho)} {i : Nat}
def get2L (m : SM) (d : D) (q : D × Rho) : Res (D × Rho) := if d.atom.isSome = true then (match dget (m.map fun p => D.str p.1) (m.map fun p => D.int p.2) d with
    | some v => if v.pure = true then .ok (v, q.2) else .stuck
    | none => .ok (q.1, q.2)) else .stuck
def get2K (m : SM) (h : Rho → Res (D × Rho)) (p : D × Rho) : Res (D × Rho) := (h p.2).bind (get2L m p.1)
theorem e_get2 {m : SM} (hi : ρ[i]? = some (some (dicS m))) : gGet2 i g h ρ = (g ρ).bind (get2K m h) := by
  have hd : (dicS m).dict = some (m.map fun p => D.str p.1, m.map fun p => D.int p.2) := rfl
  have ha : ((m.map fun p => D.str p.1).all fun k => k.atom.isSome) = true := by
    rw [List.all_map]
    exact List.all_eq_true.mpr fun _ _ => rfl
  unfold gGet2 slotD
  rw [hi]
  simp only [of_some, bind_ok, hd, ha, if_true]
  rfl
@[simp] theorem get2K_ok {m : SM} {d : D} : get2K m h (d, ρ) = (h ρ).bind (get2L m d) := rfl
@[simp] theorem get2L_ok {m : SM} {n : Str} {j : Int} : get2L m (.str n) (.int j, ρ) = .ok (.int ((look m n).getD j), ρ) := by
  unfold get2L
  rw [look_dget]
  cases look m n <;> rfl
end
/-! ### the sums of the weights -/
def pick1 (rs : List D) (l : List Nat) (n : Str) : List Nat := l.filter fun k => decide (rName rs k = n)
def SumOk (rs : List D) (ws : List Int) (l : List Nat) (m : SM) : Prop := ∀ n, look m n = if pick1 rs l n = [] then none else some ((pick1 rs l n).map (wt ws)).sum
theorem SumOk.add {rs : List D} {ws : List Int} {l : List Nat} {m : SM} (h : SumOk rs ws l m) (k : Nat) : SumOk rs ws (l ++ [k]) (putS m (rName rs k) ((look m (rName rs k)).getD 0 + wt ws k)) := fun n => by
  rw [look_put]
  have e : pick1 rs (l ++ [k]) n = pick1 rs l n ++ (if rName rs k = n then [k] else []) := by
    unfold pick1
    rw [List.filter_append]
    congr 1
    by_cases hk : rName rs k = n <;> simp [hk]
  rw [e]
  by_cases hk : rName rs k = n
  · subst hk
    rw [if_pos rfl, if_pos rfl, if_neg (by simp), h (rName rs k)]
    by_cases hp : pick1 rs l (rName rs k) = []
    · rw [if_pos hp, hp]; simp
    · rw [if_neg hp]; simp
  · rw [if_neg hk, if_neg hk, List.append_nil, h n]
theorem look_den {rs : List D} {ws : List Int} {m : SM} {n : Str} (h : SumOk rs ws (List.range rs.length) m) : (look m n).getD 1 = den rs ws n := by
  rw [h n]
  show (if ixs rs n = [] then none else some (sumW rs ws n)).getD 1 = _
  unfold den
  by_cases hp : ixs rs n = [] <;> simp [hp]
theorem look_sum {rs : List D} {ws : List Int} {m : SM} {n : Str} {k : Nat} (h : SumOk rs ws (List.range rs.length) m) (hk : k ∈ ixs rs n) : look m n = some (sumW rs ws n) := by
  rw [h n]
  exact if_neg (List.ne_nil_of_mem hk)
noncomputable def WSb : Rho → Res (Fl × Rho) := (gSeq (gSet 4 (gCp (gOp2 oGet (gOp2 oGet (gOp2 oGet (gVar 0) (gC (.int 2))) (gCp (gVar 3))) (gC (.int 0)))))
    (gStore 2 (gCp (gVar 4)) (gOp2 oAdd (gGet2 2 (gCp (gVar 4)) (gC (.int 0))) (gOp2 oGet (gVar 1) (gCp (gVar 3))))))
theorem Qweight_sumsF_eq : Qweight_sumsF = gFn 2 5 [0, 1] (gSeq (gSet 2 (gC (.dic [] [])))
    (gSeq (gFor (gRange1 (gOp1 oLen (gOp2 oGet (gVar 0) (gC (.int 2))))) (bName 3) WSb)
    (gRet (gMove 2)))) := rfl
theorem weight_sums_spec {top : Str} {ps rs : List D} {bad : List Str} {ws : List Int} (h : BookP ps rs bad) (hw : WOk rs ws) :
    Sat (Qweight_sumsF [bookOf top ps rs, .tup (dI ws)]) fun p => ∃ m, p = (dicS m, [some (bookOf top ps rs), some (.tup (dI ws))]) ∧ SumOk rs ws (List.range rs.length) m := by
  have e3 : sizeLine = 16777216 := by rw [sizeLine_eq]
  have hpp := h.pp
  have hrp := h.rp
  have hrl := h.r1
  rw [Qweight_sumsF_eq, e_fn]
  simp [hpp, hrp, rg1_len (show rs.length ≤ 10000000 by omega), dicS_nil]
  obtain ⟨I, hI⟩ : ∃ I : List D → Rho → Prop, ∀ rest ρ, I rest ρ ↔ ∃ i m o3 o4, i ≤ rs.length ∧ rest = (List.range' i (rs.length - i)).map (fun (k : Nat) => D.int k) ∧ ρ = [some (bookOf top ps rs), some (.tup (dI ws)), some (dicS m), o3, o4] ∧ SumOk rs ws (List.range i) m ∧ m.length ≤ i := ⟨_, fun _ _ => Iff.rfl⟩
  refine (forL_inv (Q := fun p => ∃ m o3 o4, p = (.next, [some (bookOf top ps rs), some (.tup (dI ws)), some (dicS m), o3, o4]) ∧ SumOk rs ws (List.range rs.length) m) I (fun _ _ _ => rfl) ?_ ?_ ((hI _ _).mpr ⟨0, [], none, none, Nat.zero_le _, ?_, rfl, fun n => rfl, Nat.le_refl _⟩)).mono ?_
  · intro x rest ρ hρ
    obtain ⟨i, m, o3, o4, hi, hr, rfl, hm, hml⟩ := (hI _ _).mp hρ
    obtain ⟨j, hj⟩ : ∃ j, rs.length - i = j := ⟨_, rfl⟩
    cases j with
    | zero => rw [hj] at hr; cases hr
    | succ j =>
      rw [hj] at hr
      rw [List.range'_succ] at hr
      cases hr
      have hik : i < rs.length := by omega
      obtain ⟨mk, t, sl, e, ht, hs, hn⟩ := rule_at hik h.ra
      have hsp := slots_ok hs
      have hgk := wt_get hw hik
      have hsz : m.length < sizeLine := by omega
      refine ⟨_, rfl, ?_⟩
      unfold WSb
      simp [hpp, hrp, e, ht, hsp, e_get2 (m := m), hgk.1, sput_dicS hsz]
      refine (hI _ _).mpr ⟨i + 1, _, _, _, by omega, ?_, rfl, ?_, ?_⟩
      · rw [show rs.length - (i + 1) = j by omega]
      · rw [List.range_succ]
        exact hm.add i
      · exact Nat.le_trans (put_len _ _ _) (by omega)
  · intro ρ hρ
    obtain ⟨i, m, o3, o4, hi, hr, rfl, hm, hml⟩ := (hI _ _).mp hρ
    have hi2 : i = rs.length := by
      have := congrArg List.length hr
      simp at this
      omega
    subst hi2
    exact ⟨m, _, _, rfl, hm⟩
  · unfold rangeD
    rw [Nat.sub_zero, ← List.range_eq_range']
    apply List.map_congr_left
    intro k _
    rw [Int.zero_add]
  · rintro _ ⟨m, o3, o4, rfl, hm⟩
    simp [e_move, outsL, hpp, hrp, dI_pure]
    exact ⟨m, rfl, hm⟩
/-! ### the due row -/
noncomputable def DRl : Rho → Res (D × Rho) := (gOp1 oLen (gComp (gItems (gCp (gOp2 oGet (gOp2 oGet (gOp2 oGet (gVar 0) (gC (.int 2))) (gCp (gVar 8))) (gC (.int 3))))) [9] (bName 9) (gOneT (gTest (gOp2 (oEq false) (gCp (gOp2 oGet (gVar 9) (gC (.int 0)))) (gVar 5)))) (gCp (gVar 9))))
noncomputable def DRi : Rho → Res (Fl × Rho) := (gAugI 7 (fun a b => a + b) (gOp2 (oInt2 fMul) (gCp (gOp2 oGet (gVar 1) (gCp (gVar 8)))) DRl))
noncomputable def DRb : Rho → Res (Fl × Rho) := (gSeq (gSet 7 (gC (.int 0)))
    (gSeq (gFor (gItems (gCall QrulesF (lLent 0 (lLent 3 lNil)))) (bName 8) DRi)
    (gDrop (gMut 4 oAppend (gCons (gCall QfracF (lLent 7 (lOwn (gGet2 2 (gCp (gVar 3)) (gC (.int 1))) lNil))) gNil)))))
theorem Qdue_rowF_eq : Qdue_rowF = gFn 4 10 [0, 1, 2, 3] (gSeq (gSet 4 (gLst gNil))
    (gSeq (gFor (gItems (gCp (gOp2 oGet (gVar 0) (gC (.int 1))))) (bTup 2 (bCons (bName 5) (bCons (bName 6) bNil))) DRb)
    (gRet (gOp1 oTuple (gVar 4))))) := rfl
abbrev DR (b : D) (ws : List Int) (m : SM) (n : Str) (fs : List D) (o5 o6 o7 o8 : Option D) : Rho := [some b, some (.tup (dI ws)), some (dicS m), some (.str n), some (.lst fs), o5, o6, o7, o8, none]
theorem drl_spec {top : Str} {ps rs : List D} {bad : List Str} {ws : List Int} {m : SM} {n o : Str} {fs : List D} {o6 o7 : Option D} {k : Nat} (h : BookP ps rs bad) (hk : k < rs.length) :
    Sat (DRl (DR (bookOf top ps rs) ws m n fs (some (.str o)) o6 o7 (some (.int k)))) fun p => p = (.int (cnt rs k o), DR (bookOf top ps rs) ws m n fs (some (.str o)) o6 o7 (some (.int k))) := by
  have e3 : sizeLine = 16777216 := by rw [sizeLine_eq]
  have hpp := h.pp
  have hrp := h.rp
  obtain ⟨mk, t, sl, e, ht, hs, hn⟩ := rule_at hk h.ra
  have hsp := slots_ok hs
  have hsl : sl.length ≤ 3 := by
    have h2 : (rSlots rs k).length ≤ 3 := by
      unfold rSlots
      rw [List.getD_eq_getElem?_getD, List.getElem?_eq_getElem hk]
      exact h.rl _ (List.getElem_mem hk)
    rw [← hn, List.length_map] at h2
    exact h2
  have hsz : sl.length ≤ sizeLine := by omega
  unfold DRl DR
  simp [hpp, hrp, e, ht, hsp, itemsK_ok (show (D.tup sl).items = some sl from rfl) hsp, hsz, wipeR]
  refine (comp_pick (fun ρ => ρ = DR (bookOf top ps rs) ws m n fs (some (.str o)) o6 o7 (some (.int k))) (hasN o) (fun x y => y = x) (fun _ _ => rfl) rfl fun x hx ρ hr => ?_).mono ?_
  · subst hr
    obtain ⟨x1, y1, rfl, hy1⟩ := hs x hx
    refine ⟨_, rfl, ?_⟩
    have hh : hasN o (.tup [.str x1, y1]) = decide (x1 = o) := rfl
    rw [hh]
    simp [hy1, wipeR]
  · rintro ⟨ys, ρ⟩ ⟨h1, e'⟩
    simp only at h1 e'
    subst e'
    have e' := each_eq (f := fun x => x) h1
    rw [List.map_id'] at e'
    subst e'
    simp [backR, unR, cnt_eq hn]
/-- a name's means -/
def meanD (rs : List D) (ws : List Int) (n o : Str) : D := nf (sumM rs ws o (ixs rs n)) (den rs ws n)
theorem drb_spec {top : Str} {ps rs : List D} {bad : List Str} {ws : List Int} {m : SM} {n o : Str} {fs : List D} {o6 o7 o8 : Option D} (h : BookP ps rs bad) (hw : WOk rs ws) (hm : SumOk rs ws (List.range rs.length) m) (hf : fs.length ≤ 100) {Q : Fl × Rho → Prop}
    (hQ : ∀ o7 o8, Q (.next, DR (bookOf top ps rs) ws m n (fs ++ [meanD rs ws n o]) (some (.str o)) o6 o7 o8)) : Sat (DRb (DR (bookOf top ps rs) ws m n fs (some (.str o)) o6 o7 o8)) Q := by
  have e3 : sizeLine = 16777216 := by rw [sizeLine_eq]
  have hpp := h.pp
  have hrp := h.rp
  have hd := den_pos (n := n) hw h.r1
  have hfz : fs.length < sizeLine := by omega
  unfold DRb
  simp [e_llent]
  refine sat_call (rules_spec (top := top) (n := n) h) (by simp [takeArgs, hpp, hrp]) ?_
  rintro r os e
  cases e
  simp [putArgs, leftR, takeArgs, hpp, hrp, itemsK_ok (show (D.lst (dNs (ixs rs n))).items = some (dNs (ixs rs n)) from rfl) dNs_pure]
  obtain ⟨I, hI⟩ : ∃ I : List D → Rho → Prop, ∀ rest ρ, I rest ρ ↔ ∃ done l o8, done ++ l = ixs rs n ∧ rest = dNs l ∧ ρ = DR (bookOf top ps rs) ws m n fs (some (.str o)) o6 (some (.int (sumM rs ws o done))) o8 := ⟨_, fun _ _ => Iff.rfl⟩
  refine (forL_inv (Q := fun p => ∃ o8, p = (.next, DR (bookOf top ps rs) ws m n fs (some (.str o)) o6 (some (.int (sumM rs ws o (ixs rs n)))) o8)) I (fun _ _ _ => rfl) ?_ ?_ ((hI _ _).mpr ⟨[], ixs rs n, o8, rfl, rfl, rfl⟩)).mono ?_
  · intro x rest ρ hρ
    obtain ⟨done, l, o8, hl, hr, rfl⟩ := (hI _ _).mp hρ
    cases l with
    | nil => cases hr
    | cons k l =>
      cases hr
      have hk : k ∈ ixs rs n := by rw [← hl]; exact List.mem_append_right _ List.mem_cons_self
      obtain ⟨hk1, hk2⟩ := mem_ixs.mp hk
      have hgk := wt_get hw hk1
      have hmul : fMul (wt ws k) (cnt rs k o) = some (wt ws k * cnt rs k o) := fMul_ok (.inl ⟨by omega, by omega⟩)
      refine ⟨_, rfl, ?_⟩
      unfold DRi
      simp [e_augI, hgk.1]
      refine (drl_spec h hk1).mono ?_
      rintro _ rfl
      simp [hmul]
      refine (hI _ _).mpr ⟨done ++ [k], l, some (.int k), by rw [← hl, List.append_assoc]; rfl, rfl, ?_⟩
      have hs : sumM rs ws o (done ++ [k]) = sumM rs ws o done + wt ws k * cnt rs k o := by
        unfold sumM
        rw [List.map_append, List.sum_append]
        simp
      rw [hs]
  · intro ρ hρ
    obtain ⟨done, l, o8, hl, hr, rfl⟩ := (hI _ _).mp hρ
    cases l with
    | nil =>
      rw [List.append_nil] at hl
      subst hl
      exact ⟨_, rfl⟩
    | cons k l => cases hr
  · rintro _ ⟨o8, rfl⟩
    simp [e_mut, e_llent, e_get2 (m := m), look_den hm]
    refine sat_call (frac_spec (n := sumM rs ws o (ixs rs n)) (d := den rs ws n) hd.1 (gcd_log hd.1 (small_log (by omega) (by omega)))) (by simp [takeArgs]) ?_
    rintro r os e
    cases e
    simp [putArgs, leftR, takeArgs, hfz]
    exact hQ _ _
/-- a name's row -/
def rowD (ps rs : List D) (ws : List Int) (n : Str) : D := .tup (ps.map fun q => meanD rs ws n (nameOf q))
theorem row_pure {l rs : List D} {ws : List Int} {n : Str} : D.pures (l.map fun q => meanD rs ws n (nameOf q)) = true := pures_all.mpr fun d hd => by
  obtain ⟨c, _, rfl⟩ := List.mem_map.mp hd
  rfl
theorem due_row_spec {top : Str} {ps rs : List D} {bad : List Str} {ws : List Int} {m : SM} {n : Str} (h : BookP ps rs bad) (hw : WOk rs ws) (hm : SumOk rs ws (List.range rs.length) m) :
    Sat (Qdue_rowF [bookOf top ps rs, .tup (dI ws), dicS m, .str n]) fun p => p = (rowD ps rs ws n, [some (bookOf top ps rs), some (.tup (dI ws)), some (dicS m), some (.str n)]) := by
  have e3 : sizeLine = 16777216 := by rw [sizeLine_eq]
  have hpp := h.pp
  have hrp := h.rp
  have hpl := h.p1
  rw [Qdue_rowF_eq, e_fn]
  simp [hpp, hrp, itemsK_ok (show (D.tup ps).items = some ps from rfl) hpp]
  obtain ⟨I, hI⟩ : ∃ I : List D → Rho → Prop, ∀ rest ρ, I rest ρ ↔ ∃ done o5 o6 o7 o8, done ++ rest = ps ∧ ρ = DR (bookOf top ps rs) ws m n (done.map fun q => meanD rs ws n (nameOf q)) o5 o6 o7 o8 := ⟨_, fun _ _ => Iff.rfl⟩
  refine (forL_inv (Q := fun p => ∃ o5 o6 o7 o8, p = (.next, DR (bookOf top ps rs) ws m n (ps.map fun q => meanD rs ws n (nameOf q)) o5 o6 o7 o8)) I (fun _ _ _ => rfl) ?_ ?_ ((hI _ _).mpr ⟨[], none, none, none, none, rfl, rfl⟩)).mono ?_
  · intro x rest ρ hρ
    obtain ⟨done, o5, o6, o7, o8, hd, rfl⟩ := (hI _ _).mp hρ
    have hx : x ∈ ps := by rw [← hd]; exact List.mem_append_right _ List.mem_cons_self
    have hlen : done.length ≤ 16 := by
      have := congrArg List.length hd
      simp at this
      omega
    obtain ⟨ex, _⟩ := pairA_eq (h.pa x hx)
    have hnext : done.map (fun q => meanD rs ws n (nameOf q)) ++ [meanD rs ws n (nameOf x)] = (done ++ [x]).map fun q => meanD rs ws n (nameOf q) := by simp
    refine ⟨[some (bookOf top ps rs), some (.tup (dI ws)), some (dicS m), some (.str n), some (.lst (done.map fun q => meanD rs ws n (nameOf q))), some (.str (nameOf x)), some (.int (numOf x)), o7, o8, none], by rw [ex]; rfl, ?_⟩
    refine drb_spec h hw hm (by simp; omega) fun o7 o8 => (hI _ _).mpr ⟨done ++ [x], some (.str (nameOf x)), some (.int (numOf x)), o7, o8, by rw [← hd, List.append_assoc]; rfl, ?_⟩
    rw [hnext]
  · intro ρ hρ
    obtain ⟨done, o5, o6, o7, o8, hd, rfl⟩ := (hI _ _).mp hρ
    rw [List.append_nil] at hd
    subst hd
    exact ⟨_, _, _, _, rfl⟩
  · rintro _ ⟨o5, o6, o7, o8, rfl⟩
    simp [row_pure, outsL, hpp, hrp, dI_pure]
    rfl
theorem each_rows {g : Str → D} {P : D → Prop} : ∀ {l ys : List D}, PySem.W.EachIs (fun x y => ∃ q, P q ∧ x = D.str (nameOf q) ∧ y = g (nameOf q)) (l.map fun p => D.str (nameOf p)) ys → ys = l.map fun q => g (nameOf q)
  | [], _, .nil => rfl
  | a :: l, _, .cons h t => by
    obtain ⟨q, _, e, rfl⟩ := h
    have e2 : nameOf a = nameOf q := D.str.inj e
    rw [each_rows t, List.map_cons, e2]
theorem means_spec {top : Str} {ps rs : List D} {bad : List Str} {ws : List Int} (h : BookP ps rs bad) (hw : WOk rs ws) :
    Sat (Qp_meansF [bookOf top ps rs, .tup (dI ws)]) fun p => p = (.tup (ps.map fun q => rowD ps rs ws (nameOf q)), [some (bookOf top ps rs), some (.tup (dI ws))]) := by
  have e3 : sizeLine = 16777216 := by rw [sizeLine_eq]
  have hpp := h.pp
  have hrp := h.rp
  have hpl := h.p1
  have hnp : D.pures (ps.map fun p => D.str (nameOf p)) = true := pures_all.mpr fun d hd => by
    obtain ⟨c, _, rfl⟩ := List.mem_map.mp hd
    rfl
  have hnz : (ps.map fun p => D.str (nameOf p)).length ≤ sizeLine := by rw [List.length_map]; omega
  have hpz : ps.length ≤ sizeLine := by omega
  unfold Qp_meansF
  rw [e_fn]
  simp [e_llent]
  refine sat_call (p_names_spec (top := top) h) (by simp [takeArgs, hpp, hrp]) ?_
  rintro r os e
  cases e
  simp [putArgs, leftR, takeArgs, hpp, hrp, hnp, hpz, wipeR]
  refine (comp_map (fun ρ => ρ = [some (bookOf top ps rs), some (.tup (dI ws)), some (.tup (ps.map fun p => D.str (nameOf p))), none, none]) (fun x y => ∃ q ∈ ps, x = .str (nameOf q) ∧ y = rowD ps rs ws (nameOf q)) rfl (fun _ _ => rfl) fun x hx ρ hr => ?_).mono ?_
  · subst hr
    obtain ⟨q, hq, rfl⟩ := List.mem_map.mp hx
    refine ⟨_, rfl, ?_⟩
    simp [hnp, hpz, wipeR]
    refine (comp_map (fun ρ => ρ = [some (bookOf top ps rs), some (.tup (dI ws)), some (.tup (ps.map fun p => D.str (nameOf p))), some (.str (nameOf q)), none]) (fun x y => ∃ q' ∈ ps, x = .str (nameOf q') ∧ y = meanD rs ws (nameOf q) (nameOf q')) rfl (fun _ _ => rfl) fun x hx ρ hr => ?_).mono ?_
    · subst hr
      obtain ⟨q', hq', rfl⟩ := List.mem_map.mp hx
      refine ⟨_, rfl, ?_⟩
      simp [e_llent]
      refine sat_call (mean_of_spec (top := top) (n := nameOf q) (o := nameOf q') h hw (List.mem_map_of_mem hq)) (by simp [takeArgs, hpp, hrp, dI_pure]) ?_
      rintro r os e
      cases e
      simp [putArgs, leftR, takeArgs, hpp, hrp, dI_pure, wipeR]
      exact ⟨q', hq', rfl, rfl⟩
    · rintro ⟨ys, ρ⟩ ⟨h1, e'⟩
      simp only at h1 e'
      subst e'
      have e4 := each_rows (g := fun x => meanD rs ws (nameOf q) x) (P := fun q => q ∈ ps) h1
      subst e4
      simp [backR, unR, row_pure, wipeR]
      exact ⟨q, hq, rfl, rfl⟩
  · rintro ⟨ys, ρ⟩ ⟨h1, e'⟩
    simp only at h1 e'
    subst e'
    have e4 := each_rows (g := fun x => rowD ps rs ws x) (P := fun q => q ∈ ps) h1
    subst e4
    have hrw : D.pures (ps.map fun q => rowD ps rs ws (nameOf q)) = true := pures_all.mpr fun d hd => by
      obtain ⟨c, _, rfl⟩ := List.mem_map.mp hd
      exact row_pure
    simp [backR, unR, hrw, outsL, hpp, hrp, dI_pure]
end DV
set_option Elab.async false
set_option linter.all false
set_option maxRecDepth 100000
set_option maxHeartbeats 4000000
namespace DV
open PySem PySem.Spec PyProof.Rows L2
/-! ### builds as trees: a row of them, their rules in preorder -/
inductive TrL (N : Nat) : List D → List Nat → Prop
  | nil : TrL N [] []
  | cons {k : Nat} {ps : List D} {l1 : List Nat} {ds : List D} {l2 : List Nat} : k < N → ps.length ≤ 3 → TrL N ps l1 → TrL N ds l2 → TrL N (.tup [.int (k : Nat), .tup ps] :: ds) (k :: (l1 ++ l2))
section
variable {N : Nat} {ds es : List D} {l l1 l2 : List Nat}
theorem TrL.app (h : TrL N ds l1) (k : TrL N es l2) : TrL N (ds ++ es) (l1 ++ l2) := by
  induction h with
  | nil => exact k
  | cons h1 h2 h3 h4 ih1 ih2 =>
    rw [List.cons_append, List.cons_append, List.append_assoc]
    exact .cons h1 h2 h3 ih2
theorem TrL.pures (h : TrL N ds l) : D.pures ds = true := by
  induction h with
  | nil => rfl
  | cons h1 h2 h3 h4 ih1 ih2 => simp [ih1, ih2]
theorem TrL.len (h : TrL N ds l) : ds.length ≤ l.length := by
  induction h with
  | nil => exact Nat.le_refl _
  | cons h1 h2 h3 h4 ih1 ih2 => simp; omega
theorem TrL.lt (h : TrL N ds l) : ∀ k ∈ l, k < N := by
  induction h with
  | nil => intro k hk; cases hk
  | cons h1 h2 h3 h4 ih1 ih2 =>
    intro k hk
    rcases List.mem_cons.mp hk with z | z
    · rw [z]; exact h1
    · rcases List.mem_append.mp z with z | z
      · exact ih1 k z
      · exact ih2 k z
theorem TrL.split (h : TrL N ds l) : ∀ m, ∃ l1 l2, l = l1 ++ l2 ∧ TrL N (ds.take m) l1 ∧ TrL N (ds.drop m) l2 := by
  induction h with
  | nil => intro m; exact ⟨[], [], rfl, by simpa using TrL.nil, by simpa using TrL.nil⟩
  | @cons k ps l1 ds l2 h1 h2 h3 h4 ih1 ih2 =>
    intro m
    cases m with
    | zero => exact ⟨[], _, rfl, .nil, .cons h1 h2 h3 h4⟩
    | succ m =>
      obtain ⟨a, b, e, ha, hb⟩ := ih2 m
      refine ⟨k :: (l1 ++ a), b, by rw [e]; simp, .cons h1 h2 h3 ha, hb⟩
end
def rowsD (rows : List (Nat × Nat)) : List D := rows.map fun p => D.tup [.int (p.1 : Nat), .int (p.2 : Nat)]
theorem rowsD_pure {rows : List (Nat × Nat)} : D.pures (rowsD rows) = true := pures_all.mpr fun d hd => by
  obtain ⟨c, _, rfl⟩ := List.mem_map.mp hd
  rfl
/-- the rows close w open places -/
def bal : Nat → List (Nat × Nat) → Prop
  | w, [] => w = 0
  | w, p :: r => 0 < w ∧ bal (w - 1 + p.2) r
theorem bal_uniq : ∀ {r : List (Nat × Nat)} {w w' : Nat}, bal w r → bal w' r → w = w'
  | [], w, w', h, h' => by rw [show w = 0 from h, show w' = 0 from h']
  | p :: r, w, w', ⟨h1, h2⟩, ⟨h1', h2'⟩ => by
    have := bal_uniq h2 h2'
    omega
theorem bal_split : ∀ {pre suf : List (Nat × Nat)} {w : Nat}, bal w (pre ++ suf) → ∃ w', bal w' suf
  | [], suf, w, h => ⟨w, h⟩
  | p :: pre, suf, w, h => bal_split h.2
noncomputable def JOp : Rho → Res (D × Rho) := (gComp (gRange1 (gVar 5)) [6] (bName 6) gYes (gMut 1 oPop gNil))
noncomputable def JOb : Rho → Res (Fl × Rho) := (gSeq (gAsg (bTup 2 (bCons (bName 4) (bCons (bName 5) bNil))) (gCp (gOp2 oGet (gVar 0) (gOp2 (oInt2 fSub) (gOp2 (oInt2 fSub) (gOp1 oLen (gVar 0)) (gC (.int 1))) (gVar 2)))))
    (gSeq (gSet 3 JOp)
    (gDrop (gMut 1 oAppend (gCons (gTup (gCons (gMove 4) (gCons (gOp1 oTuple (gVar 3)) gNil))) gNil)))))
theorem QjoinedF_eq : QjoinedF = gFn 1 7 [0] (gSeq (gSet 1 (gLst gNil))
    (gSeq (gFor (gRange1 (gOp1 oLen (gVar 0))) (bName 2) JOb)
    (gRet (gCp (gOp2 oGet (gVar 1) (gC (.int 0))))))) := rfl
abbrev JR (rows : List (Nat × Nat)) (fs : List D) (o2 o3 o4 o5 : Option D) : Rho := [some (.lst (rowsD rows)), some (.lst fs.reverse), o2, o3, o4, o5, none]
theorem jop_spec {rows : List (Nat × Nat)} {fs : List D} {o2 o3 o4 : Option D} {m : Nat} (hm : m ≤ fs.length) (hm2 : m ≤ 1000) : Sat (JOp (JR rows fs o2 o3 o4 (some (.int m)))) fun p => p = (.lst (fs.take m), JR rows (fs.drop m) o2 o3 o4 (some (.int m))) := by
  have e3 : sizeLine = 16777216 := by rw [sizeLine_eq]
  have hz : (rangeD 0 m).length ≤ sizeLine := by rw [rangeD_len]; omega
  unfold JOp JR
  simp [rg1_len (show m ≤ 10000000 by omega), hz, wipeR]
  obtain ⟨I, hI⟩ : ∃ I : List D → List D → Rho → Prop, ∀ acc rest ρ, I acc rest ρ ↔ ∃ gs, acc ++ gs = fs ∧ acc.length + rest.length = m ∧ ρ = JR rows gs o2 o3 o4 (some (.int m)) := ⟨_, fun _ _ _ => Iff.rfl⟩
  refine compL_inv I (fun _ _ _ _ => rfl) ?_ (acc := []) ((hI _ _ _).mpr ⟨fs, rfl, by simp [rangeD_len], rfl⟩) ?_
  · intro acc x rest ρ hρ
    obtain ⟨gs, hf, hl, rfl⟩ := (hI _ _ _).mp hρ
    cases gs with
    | nil => rw [List.append_nil] at hf; rw [hf] at hl; simp at hl; omega
    | cons g gs =>
      refine ⟨_, rfl, ?_⟩
      simp [e_mut, pop_end, wipeR]
      exact (hI _ _ _).mpr ⟨gs, by rw [← hf, List.append_assoc]; rfl, by simp at hl ⊢; omega, rfl⟩
  · intro ys ρ hρ
    obtain ⟨gs, hf, hl, rfl⟩ := (hI _ _ _).mp hρ
    simp at hf hl
    subst hl
    subst hf
    simp [backR, unR]
theorem joined_spec {rows : List (Nat × Nat)} {N : Nat} (hb : bal 1 rows) (hr : ∀ p ∈ rows, p.1 < N ∧ p.2 ≤ 3) (hl : rows.length ≤ 100000) :
    Sat (QjoinedF [.lst (rowsD rows)]) fun p => ∃ t, p = (t, [some (.lst (rowsD rows))]) ∧ TrL N [t] (rows.map (·.1)) := by
  have e3 : sizeLine = 16777216 := by rw [sizeLine_eq]
  have hrl : (rowsD rows).length = rows.length := by unfold rowsD; rw [List.length_map]
  rw [QjoinedF_eq, e_fn]
  simp [hrl, rg1_len (show rows.length ≤ 10000000 by omega)]
  obtain ⟨I, hI⟩ : ∃ I : List D → Rho → Prop, ∀ rest ρ, I rest ρ ↔ ∃ pre suf fs o2 o3 o4 o5, pre ++ suf = rows ∧ rest = (List.range' suf.length pre.length).map (fun (k : Nat) => D.int k) ∧ bal fs.length suf ∧ TrL N fs (suf.map (·.1)) ∧ ρ = JR rows fs o2 o3 o4 o5 := ⟨_, fun _ _ => Iff.rfl⟩
  refine (forL_inv (Q := fun p => ∃ fs o2 o3 o4 o5, bal fs.length rows ∧ TrL N fs (rows.map (·.1)) ∧ p = (.next, JR rows fs o2 o3 o4 o5)) I (fun _ _ _ => rfl) ?_ ?_ ((hI _ _).mpr ⟨rows, [], [], none, none, none, none, by simp, ?_, rfl, .nil, rfl⟩)).mono ?_
  · intro x rest ρ hρ
    obtain ⟨pre, suf, fs, o2, o3, o4, o5, hps, hr2, hbs, ht, rfl⟩ := (hI _ _).mp hρ
    rcases List.eq_nil_or_concat pre with z | ⟨pre', p, z⟩
    · subst z; cases hr2
    · rw [List.concat_eq_append] at z
      subst z
      rw [List.length_append, List.length_singleton, List.range'_succ] at hr2
      cases hr2
      have hpr := hr p (by rw [← hps]; simp)
      have hrows : rows = pre' ++ (p :: suf) := by rw [← hps]; simp
      obtain ⟨w', hw0, hw'⟩ : ∃ w', bal w' (p :: suf) := bal_split (w := 1) (pre := pre') (by rw [← hrows]; exact hb)
      have hu := bal_uniq hw' hbs
      have hle : p.2 ≤ fs.length := by omega
      obtain ⟨l1, l2, hls, ht1, ht2⟩ := ht.split p.2
      have hat : atI (rowsD rows) ((rows.length : Int) - 1 - (suf.length : Nat)) = some (.tup [.int (p.1 : Nat), .int (p.2 : Nat)]) := by
        have e1 : ((rows.length : Int) - 1 - (suf.length : Nat)) = (pre'.length : Nat) := by
          rw [hrows]; simp; omega
        rw [e1, atI_nat]
        unfold rowsD
        rw [hrows]
        simp
      have htl : (fs.take p.2).length ≤ 3 := by rw [List.length_take]; omega
      have hpur := ht1.pures
      have hsz : (fs.drop p.2).reverse.length < sizeLine := by
        have h1 := ht.len
        have h2 : suf.length ≤ rows.length := by rw [hrows]; simp; omega
        simp at h1 ⊢
        omega
      refine ⟨_, rfl, ?_⟩
      unfold JOb
      simp [hrl, fSub, hat]
      refine (jop_spec (m := p.2) hle (by omega)).mono ?_
      rintro _ rfl
      simp [e_mut, e_move, hpur]
      simp at hsz
      rw [if_pos (by omega)]
      simp
      refine (hI _ _).mpr ⟨pre', p :: suf, .tup [.int (p.1 : Nat), .tup (fs.take p.2)] :: fs.drop p.2, some (.int (suf.length : Nat)), some (.lst (fs.take p.2)), some (.int (p.1 : Nat)), some (.int (p.2 : Nat)), by rw [hrows], ?_, ?_, ?_, ?_⟩
      rotate_left 3
      · simp [JR]
      · rfl
      · refine ⟨by simp, ?_⟩
        have : (D.tup [.int (p.1 : Nat), .tup (fs.take p.2)] :: fs.drop p.2).length - 1 + p.2 = fs.length := by simp; omega
        rw [this]
        exact hbs
      · rw [List.map_cons, hls]
        exact .cons hpr.1 htl ht1 ht2
  · intro ρ hρ
    obtain ⟨pre, suf, fs, o2, o3, o4, o5, hps, hr2, hbs, ht, rfl⟩ := (hI _ _).mp hρ
    have hp : pre = [] := by
      have := congrArg List.length hr2
      simp at this
      exact List.eq_nil_of_length_eq_zero this.symm
    subst hp
    rw [List.nil_append] at hps
    subst hps
    exact ⟨fs, _, _, _, _, hbs, ht, rfl⟩
  · unfold rangeD
    rw [List.length_nil, ← List.range_eq_range']
    apply List.map_congr_left
    intro k _
    rw [Int.zero_add]
  · rintro _ ⟨fs, o2, o3, o4, o5, hbs, ht, rfl⟩
    have hl1 := bal_uniq hbs hb
    match fs, hl1, ht with
    | [t], _, ht =>
      have hp := ht.pures
      simp at hp
      simp [hp, outsL]
      exact ht
end DV
set_option Elab.async false
set_option linter.all false
set_option maxRecDepth 100000
set_option maxHeartbeats 4000000
namespace DV
open PySem PySem.Spec PyProof.Rows L2
section
variable {ρ : Rho} {g : Rho → Res (D × Rho)} {gs : Rho → Res (List D × Rho)} {i : Nat} {op : List D → List D → Option (D × List D)}
def mutSM (i : Nat) (c k : D) (ρ : Rho) (r : D × List D) : Res (D × Rho) := if r.1.pure = true then .ok (r.1, ρ.set i (some (sset c k (.lst r.2)))) else .stuck
def mutSL (i : Nat) (c k : D) (op : List D → List D → Option (D × List D)) (xs : List D) (q : List D × Rho) : Res (D × Rho) := if D.pures q.1 = true then (Res.of (op xs q.1)).bind (mutSM i c k q.2) else .stuck
def mutSK (i : Nat) (c : D) (op : List D → List D → Option (D × List D)) (gs : Rho → Res (List D × Rho)) (p : D × Rho) : Res (D × Rho) := match oGet c p.1 with
  | some (.lst xs) => if isBox c = true then (gs p.2).bind (mutSL i c p.1 op xs) else .stuck
  | _ => .stuck
theorem e_mutS {c : D} (hi : ρ[i]? = some (some c)) : gMutS i g op gs ρ = (g ρ).bind (mutSK i c op gs) := by
  unfold gMutS slotD
  rw [hi]
  rfl
theorem mutSK_ok {below xs : List D} {a : Nat} (hx : below[a]? = some (.lst xs)) : mutSK i (.lst below) op gs (.int (a : Nat), ρ) = (gs ρ).bind (mutSL i (.lst below) (.int (a : Nat)) op xs) := by
  unfold mutSK
  simp only [get_l, atI_nat, hx]
  rfl
@[simp] theorem mutSL_ok {c k : D} {xs ds : List D} : mutSL i c k op xs (ds, ρ) = if D.pures ds = true then (Res.of (op xs ds)).bind (mutSM i c k ρ) else .stuck := rfl
@[simp] theorem mutSM_ok {c k d : D} {ys : List D} : mutSM i c k ρ (d, ys) = if d.pure = true then .ok (d, ρ.set i (some (sset c k (.lst ys)))) else .stuck := rfl
theorem sset_nat {bs : List D} {a : Nat} {d : D} (h : a < bs.length) : sset (.lst bs) (.int (a : Nat)) d = .lst (bs.set a d) := by
  unfold sset
  simp only
  rw [ixN_pos (by omega) (by omega)]
  simp
end
/-! ### the nodes of a build in preorder -/
def abI : Option Nat → Int
  | none => -1
  | some n => (n : Nat)
def wD (p : D × Option Nat) : D := .tup [p.1, .int (abI p.2)]
def NodeR (nd : D) (k : Nat) : Prop := ∃ ps, nd = .tup [.int (k : Nat), .tup ps] ∧ D.pures ps = true
def BelOk (M : Nat) (below : List D) : Prop := ∀ b ∈ below, ∃ xs, b = .lst xs ∧ xs.length ≤ M
theorem BelOk.add {M : Nat} {bs : List D} (h : BelOk M bs) : BelOk M (bs ++ [.lst []]) := fun b hb => by
  rcases List.mem_append.mp hb with z | z
  · exact h b z
  · exact ⟨[], List.mem_singleton.mp z, Nat.zero_le _⟩
theorem BelOk.set {M a : Nat} {bs xs : List D} {d : D} (h : BelOk M bs) (hx : bs[a]? = some (.lst xs)) : BelOk (M + 1) (bs.set a (.lst (xs ++ [d]))) := fun b hb => by
  rcases List.mem_or_eq_of_mem_set hb with z | z
  · obtain ⟨ys, e, hl⟩ := h b z
    exact ⟨ys, e, by omega⟩
  · obtain ⟨ys, e, hl⟩ := h _ (List.mem_of_getElem? hx)
    cases e
    exact ⟨_, z, by simp; exact hl⟩
theorem BelOk.up {M M' : Nat} {bs : List D} (h : BelOk M bs) (hm : M ≤ M') : BelOk M' bs := fun b hb => by
  obtain ⟨xs, e, hl⟩ := h b hb
  exact ⟨xs, e, by omega⟩
theorem atI_m1 {a b : D} : atI [a, b] (-1) = some b := by
  unfold atI ixN
  simp
noncomputable def PFi : Rho → Res (Fl × Rho) := (gDrop (gMut 1 oAppend (gCons (gTup (gCons (gCp (gOp2 oGet (gVar 5) (gCp (gVar 6)))) (gCons (gMove 4) gNil))) gNil)))
noncomputable def PFa : Rho → Res (Fl × Rho) := (gIfS (gTest (gOp2 (oCmp fGe) (gCp (gVar 8)) (gC (.int 0)))) (gDrop (gMutS 3 (gCp (gVar 8)) oAppend (gCons (gCp (gVar 4)) gNil))) gNext)
noncomputable def PFb : Rho → Res (Fl × Rho) := (gSeq (gAsg (bTup 2 (bCons (bName 7) (bCons (bName 8) bNil))) (gMut 1 oPop gNil))
    (gSeq (gSet 4 (gOp1 oLen (gVar 2)))
    (gSeq (gDrop (gMut 2 oAppend (gCons (gMove 7) gNil)))
    (gSeq (gDrop (gMut 3 oAppend (gCons (gLst gNil) gNil)))
    (gSeq PFa
    (gSeq (gSet 5 (gIf (gTest (gOp1 (oIsN false) (gVar 7))) (gTup gNil) (gCp (gOp2 oGet (gVar 7) (gOp1 oNeg (gC (.int 1)))))))
    (gFor (gRange3 (gOp2 (oInt2 fSub) (gOp1 oLen (gVar 5)) (gC (.int 1))) (gOp1 oNeg (gC (.int 1))) (gOp1 oNeg (gC (.int 1)))) (bName 6) PFi)))))))
theorem Qp_flatF_eq : Qp_flatF = gFn 1 9 [0] (gSeq (gPar 2 3 (gCons (gLst gNil) (gCons (gLst gNil) gNil)))
    (gSeq (gSet 1 (gLst (gCons (gTup (gCons (gCp (gVar 0)) (gCons (gOp1 oNeg (gC (.int 1))) gNil))) gNil)))
    (gSeq (gWhile (gTest (gOp2 (oCmp fGt) (gOp1 oLen (gVar 1)) (gC (.int 0)))) PFb)
    (gRet (gTup (gCons (gMove 2) (gCons (gMove 3) gNil))))))) := rfl
abbrev PR (t : D) (ws : List (D × Option Nat)) (nodes below : List D) (o4 o5 o6 o7 o8 : Option D) : Rho := [some t, some (.lst (ws.map wD).reverse), some (.lst nodes), some (.lst below), o4, o5, o6, o7, o8]
theorem pfa_spec {t : D} {ws : List (D × Option Nat)} {nodes below : List D} {n M : Nat} {o5 o6 o7 : Option D} {a : Option Nat} (ha : ∀ x, a = some x → x < below.length) (hb : BelOk M below) (hM : M ≤ 1000000) {Q : Fl × Rho → Prop}
    (hQ : ∀ below', below'.length = below.length → BelOk (M + 1) below' → Q (.next, PR t ws nodes below' (some (.int (n : Nat))) o5 o6 o7 (some (.int (abI a))))) : Sat (PFa (PR t ws nodes below (some (.int (n : Nat))) o5 o6 o7 (some (.int (abI a))))) Q := by
  have e3 : sizeLine = 16777216 := by rw [sizeLine_eq]
  unfold PFa PR
  cases a with
  | none =>
    simp [abI, fGe]
    exact hQ below rfl (hb.up (by omega))
  | some x =>
    have hx := ha x rfl
    obtain ⟨xs, e, hl⟩ := hb below[x] (List.getElem_mem hx)
    have hg : below[x]? = some (.lst xs) := by rw [List.getElem?_eq_getElem hx, e]
    have hz : xs.length < sizeLine := by omega
    simp [abI, fGe, e_mutS (c := D.lst below), mutSK_ok hg, hz, sset_nat hx]
    exact hQ _ (by simp) (hb.set hg)
theorem pfi_spec {t : D} {ws : List (D × Option Nat)} {nodes below ps : List D} {n j : Nat} {o7 o8 : Option D} {p : D} (hp : ps[j]? = some p) (hpp : p.pure = true) (hw : ws.length ≤ 1000000) :
    Sat (PFi (PR t ws nodes below (some (.int (n : Nat))) (some (.tup ps)) (some (.int (j : Nat))) o7 o8)) fun r => r = (.next, PR t ((p, some n) :: ws) nodes below (some (.int (n : Nat))) (some (.tup ps)) (some (.int (j : Nat))) o7 o8) := by
  have e3 : sizeLine = 16777216 := by rw [sizeLine_eq]
  have hz : ws.length < sizeLine := by omega
  unfold PFi PR
  simp [e_mut, e_move, hp, hpp, hz]
  rfl
theorem pfb_spec {N : Nat} {t : D} {ws : List (D × Option Nat)} {nodes below ps : List D} {k : Nat} {a : Option Nat} {o4 o5 o6 o7 o8 : Option D} (hps : D.pures ps = true) (hpl : ps.length ≤ 3) (hbl : below.length = nodes.length) (ha : ∀ x, a = some x → x < nodes.length) (hb : BelOk nodes.length below) (hn : nodes.length ≤ 100000) (hw : ws.length ≤ 100000) {Q : Fl × Rho → Prop}
    (hQ : ∀ below' o4 o5 o6 o7 o8, below'.length = nodes.length + 1 → BelOk (nodes.length + 1) below' → Q (.next, PR t (ps.map (fun p => (p, some nodes.length)) ++ ws) (nodes ++ [.tup [.int (k : Nat), .tup ps]]) below' o4 o5 o6 o7 o8)) :
    Sat (PFb (PR t ((.tup [.int (k : Nat), .tup ps], a) :: ws) nodes below o4 o5 o6 o7 o8)) Q := by
  have e3 : sizeLine = 16777216 := by rw [sizeLine_eq]
  have hz1 : nodes.length < sizeLine := by omega
  have hz2 : below.length < sizeLine := by omega
  unfold PFb
  simp [e_mut, pop_end, wD, e_move, hps, hz1, hz2]
  refine pfa_spec (M := nodes.length) ?_ ?_ (by omega) fun below' hl' hb' => ?_
  · intro x hx
    have := ha x hx
    simp
    omega
  · exact hb.add
  simp at hl'
  simp [atI_m1, hps, fSub]
  rw [rg3_ok (by omega) (by omega) (by omega) (by omega)]
  simp
  obtain ⟨I, hI⟩ : ∃ I : List D → Rho → Prop, ∀ rest ρ, I rest ρ ↔ ∃ i o6, i ≤ ps.length ∧ rest = (List.range' i (ps.length - i)).map (fun (k : Nat) => D.int ((ps.length : Int) - 1 + (k : Nat) * -1)) ∧ ρ = PR t ((ps.drop (ps.length - i)).map (fun p => (p, some nodes.length)) ++ ws) (nodes ++ [.tup [.int (k : Nat), .tup ps]]) below' (some (.int (nodes.length : Nat))) (some (.tup ps)) o6 (some (.tup [.int (k : Nat), .tup ps])) (some (.int (abI a))) := ⟨_, fun _ _ => Iff.rfl⟩
  refine (forL_inv (Q := fun p => ∃ o6, p = (.next, PR t (ps.map (fun p => (p, some nodes.length)) ++ ws) (nodes ++ [.tup [.int (k : Nat), .tup ps]]) below' (some (.int (nodes.length : Nat))) (some (.tup ps)) o6 (some (.tup [.int (k : Nat), .tup ps])) (some (.int (abI a))))) I (fun _ _ _ => rfl) ?_ ?_ ((hI _ _).mpr ⟨0, o6, Nat.zero_le _, ?_, ?_⟩)).mono ?_
  · intro x rest ρ hρ
    obtain ⟨i, o6, hi, hr, rfl⟩ := (hI _ _).mp hρ
    obtain ⟨j, hj⟩ : ∃ j, ps.length - i = j := ⟨_, rfl⟩
    cases j with
    | zero => rw [hj] at hr; cases hr
    | succ j =>
      rw [hj, List.range'_succ, List.map_cons] at hr
      cases hr
      have ex : ((ps.length : Int) - 1 + (i : Nat) * -1) = (j : Nat) := by omega
      have hjl : j < ps.length := by omega
      have hg : ps[j]? = some ps[j] := List.getElem?_eq_getElem hjl
      have hpp := pures_mem hps (List.getElem_mem hjl)
      rw [ex]
      refine ⟨_, rfl, ?_⟩
      rw [hj]
      refine (pfi_spec (t := t) (n := nodes.length) (j := j) (ps := ps) hg hpp (by simp; omega)).mono ?_
      rintro _ rfl
      refine (hI _ _).mpr ⟨i + 1, some (.int (j : Nat)), by omega, by rw [show ps.length - (i + 1) = j by omega], ?_⟩
      rw [show ps.length - (i + 1) = j by omega, List.drop_eq_getElem_cons hjl]
      rfl
  · intro ρ hρ
    obtain ⟨i, o6, hi, hr, rfl⟩ := (hI _ _).mp hρ
    have hi2 : i = ps.length := by
      have := congrArg List.length hr
      simp at this
      omega
    subst hi2
    simp
  · unfold downD
    rw [Nat.sub_zero, ← List.range_eq_range']
  · simp
  · rintro _ ⟨o6, rfl⟩
    simp
    exact hQ below' _ _ _ _ _ (by omega) hb'
theorem flat_spec {N : Nat} {t : D} {L : List Nat} (h : TrL N [t] L) (hL : L.length ≤ 100000) : Sat (Qp_flatF [t]) fun p => ∃ nodes below, p = (.tup [.lst nodes, .lst below], [some t]) ∧ PySem.W.EachIs NodeR nodes L := by
  have e3 : sizeLine = 16777216 := by rw [sizeLine_eq]
  have htp := h.pures
  simp at htp
  rw [Qp_flatF_eq, e_fn]
  simp [htp]
  obtain ⟨I, hI⟩ : ∃ I : Nat → Rho → Prop, ∀ n ρ, I n ρ ↔ ∃ ws done l nodes below o4 o5 o6 o7 o8, done ++ l = L ∧ l.length = n ∧ TrL N (ws.map (·.1)) l ∧ (∀ p ∈ ws, ∀ a, p.2 = some a → a < nodes.length) ∧ below.length = nodes.length ∧ BelOk nodes.length below ∧ PySem.W.EachIs NodeR nodes done ∧ ρ = PR t ws nodes below o4 o5 o6 o7 o8 := ⟨_, fun _ _ => Iff.rfl⟩
  refine (while_sat (Q := fun p => ∃ nodes below o4 o5 o6 o7 o8, p = (.next, PR t [] nodes below o4 o5 o6 o7 o8) ∧ PySem.W.EachIs NodeR nodes L) I (fun n ρ hρ => ?_) ((hI _ _).mpr ⟨[(t, none)], [], L, [], [], none, none, none, none, none, rfl, rfl, by simpa using h, ?_, rfl, (fun _ hb => nomatch hb), .nil, rfl⟩)).mono ?_
  · obtain ⟨ws, done, l, nodes, below, o4, o5, o6, o7, o8, hdl, hln, ht, ha, hbl, hb, hnd, rfl⟩ := (hI _ _).mp hρ
    have hnl := hnd.length
    have hdL : done.length + l.length = L.length := by rw [← hdl, List.length_append]
    have hwl := ht.len
    rw [List.length_map] at hwl
    cases ws with
    | nil =>
      simp [fGt]
      cases ht
      rw [List.append_nil] at hdl
      subst hdl
      exact hnd
    | cons w ws =>
      obtain ⟨nd, a⟩ := w
      rw [List.length_cons] at hwl
      rw [List.map_cons] at ht
      simp [fGt]
      cases ht with
      | @cons k ps l1 _ l2 h1 h2 h3 h4 =>
        refine pfb_spec (N := N) h3.pures h2 hbl (fun x hx => ha _ List.mem_cons_self x hx) hb (by omega) (by omega) fun below' o4 o5 o6 o7 o8 hl' hb' => ?_
        simp
        simp at hln
        refine ⟨l1.length + l2.length, by omega, (hI _ _).mpr ⟨_, done ++ [k], l1 ++ l2, _, below', o4, o5, o6, o7, o8, by rw [← hdl]; simp, by simp, ?_, ?_, by simp; exact hl', ?_, ?_, rfl⟩⟩
        · rw [List.map_append, List.map_map]
          have : ((fun x : D × Option Nat => x.1) ∘ fun p : D => (p, some nodes.length)) = id := rfl
          rw [this, List.map_id]
          exact h3.app h4
        · intro p hp x hx
          rw [List.length_append, List.length_singleton]
          rcases List.mem_append.mp hp with z | z
          · obtain ⟨c, _, rfl⟩ := List.mem_map.mp z
            cases hx
            omega
          · have := ha p (List.mem_cons_of_mem _ z) x hx
            omega
        · rw [List.length_append, List.length_singleton]
          exact hb'
        · exact each_app ⟨ps, rfl, h3.pures⟩ hnd
  · intro p hp x hx
    rw [List.mem_singleton.mp hp] at hx
    cases hx
  · rintro _ ⟨nodes, below, o4, o5, o6, o7, o8, rfl, hnd⟩
    simp [e_move, outsL, htp]
    exact hnd
end DV
set_option Elab.async false
set_option linter.all false
set_option maxRecDepth 100000
set_option maxHeartbeats 4000000
namespace DV
open PySem PySem.Spec PyProof.Rows L2
noncomputable def LFc : Rho → Res (D × Rho) := (gComp (gItems (gOp1 oRev (gCall QpartsF (lLent 5 lNil)))) [7] (bName 7) gYes (gTup (gCons (gCp (gVar 7)) (gCons (gOp1 oLen (gVar 3)) gNil))))
noncomputable def LFa : Rho → Res (Fl × Rho) := (gIfS (gTest (gOp2 (oCmp fGe) (gCp (gVar 6)) (gC (.int 0)))) (gDrop (gMutS 4 (gCp (gVar 6)) oAppend (gCons (gOp1 oLen (gVar 3)) gNil))) gNext)
noncomputable def LFb : Rho → Res (Fl × Rho) := (gSeq (gIfS (gTest (gOp2 (oEq false) (gOp1 oLen (gVar 1)) (gC (.int 0)))) (gRet (gLst (gCons (gMove 3) (gCons (gMove 4) gNil)))) gNext)
    (gSeq (gAsg (bTup 2 (bCons (bName 5) (bCons (bName 6) bNil))) (gMut 1 oPop gNil))
    (gSeq LFa
    (gSeq (gDrop (gMut 1 oExtend (gCons LFc gNil)))
    (gSeq (gDrop (gMut 3 oAppend (gCons (gMove 5) gNil)))
    (gDrop (gMut 4 oAppend (gCons (gLst gNil) gNil))))))))
theorem QflatF_eq : QflatF = gFn 1 8 [0] (gSeq (gAsg (bTup 2 (bCons (bName 3) (bCons (bName 4) bNil))) (gTup (gCons (gLst gNil) (gCons (gLst gNil) gNil))))
    (gSeq (gSet 1 (gLst (gCons (gTup (gCons (gCp (gVar 0)) (gCons (gOp1 oNeg (gC (.int 1))) gNil))) gNil)))
    (gSeq (gFor (gRange1 (gC (.int 5000))) (bName 2) LFb)
    (gRet (gLst (gCons (gMove 3) (gCons (gMove 4) gNil))))))) := rfl
abbrev LR (t : D) (ws : List (D × Option Nat)) (nodes below : List D) (o2 o5 o6 : Option D) : Rho := [some t, some (.lst (ws.map wD).reverse), o2, some (.lst nodes), some (.lst below), o5, o6, none]
theorem parts_spec {k : Nat} {ps : List D} (h : D.pures ps = true) : Sat (QpartsF [.tup [.int (k : Nat), .tup ps]]) fun p => p = (.lst ps, [some (.tup [.int (k : Nat), .tup ps])]) := by
  have hin : ∀ {i : Int}, oIn false (.int i) (.tup [.str "least", .str "rest"]) = some (.bl false) := fun {i} => by
    unfold oIn
    simp [D.dict, D.items, D.atom]
  unfold QpartsF
  rw [e_fn]
  simp [h, hin, atI_m1, outsL]
theorem lfa_spec {t : D} {ws : List (D × Option Nat)} {nodes below : List D} {M : Nat} {o2 o5 : Option D} {a : Option Nat} (ha : ∀ x, a = some x → x < below.length) (hb : BelOk M below) (hM : M ≤ 1000000) {Q : Fl × Rho → Prop}
    (hQ : ∀ below', below'.length = below.length → BelOk (M + 1) below' → Q (.next, LR t ws nodes below' o2 o5 (some (.int (abI a))))) : Sat (LFa (LR t ws nodes below o2 o5 (some (.int (abI a))))) Q := by
  have e3 : sizeLine = 16777216 := by rw [sizeLine_eq]
  unfold LFa LR
  cases a with
  | none =>
    simp [abI, fGe]
    exact hQ below rfl (hb.up (by omega))
  | some x =>
    have hx := ha x rfl
    obtain ⟨xs, e, hl⟩ := hb below[x] (List.getElem_mem hx)
    have hg : below[x]? = some (.lst xs) := by rw [List.getElem?_eq_getElem hx, e]
    have hz : xs.length < sizeLine := by omega
    simp [abI, fGe, e_mutS (c := D.lst below), mutSK_ok hg, hz, sset_nat hx]
    exact hQ _ (by simp) (hb.set hg)
theorem lfc_spec {t : D} {ws : List (D × Option Nat)} {nodes below ps : List D} {k : Nat} {o2 o6 : Option D} (hps : D.pures ps = true) (hpl : ps.length ≤ 3) :
    Sat (LFc (LR t ws nodes below o2 (some (.tup [.int (k : Nat), .tup ps])) o6)) fun p => p = (.lst (ps.reverse.map fun p => wD (p, some nodes.length)), LR t ws nodes below o2 (some (.tup [.int (k : Nat), .tup ps])) o6) := by
  have e3 : sizeLine = 16777216 := by rw [sizeLine_eq]
  have hz : ps.length ≤ sizeLine := by omega
  have hpr : D.pures ps.reverse = true := pures_all.mpr fun d hd => pures_mem hps (List.mem_reverse.mp hd)
  unfold LFc LR
  simp [e_llent, hps]
  refine sat_call (parts_spec (k := k) hps) (by simp [takeArgs, hps]) ?_
  rintro r os e
  cases e
  simp [putArgs, leftR, takeArgs, hps, itemsK_ok (show (D.lst ps.reverse).items = some ps.reverse from rfl) hpr, hz, wipeR]
  refine (comp_map (fun ρ => ρ = LR t ws nodes below o2 (some (.tup [.int (k : Nat), .tup ps])) o6) (fun x y => y = wD (x, some nodes.length)) rfl (fun _ _ => rfl) fun x hx ρ hr => ?_).mono ?_
  · subst hr
    have hxp := pures_mem hpr hx
    refine ⟨_, rfl, ?_⟩
    simp [hxp, wipeR, wD, abI]
  · rintro ⟨ys, ρ⟩ ⟨h1, e'⟩
    simp only at h1 e'
    subst e'
    have e' := each_eq (f := fun x => wD (x, some nodes.length)) h1
    subst e'
    simp [backR, unR]
theorem lfb_spec {t : D} {ws : List (D × Option Nat)} {nodes below ps : List D} {k : Nat} {a : Option Nat} {o2 o5 o6 : Option D} (hps : D.pures ps = true) (hpl : ps.length ≤ 3) (hbl : below.length = nodes.length) (ha : ∀ x, a = some x → x < nodes.length) (hb : BelOk nodes.length below) (hn : nodes.length ≤ 100000) (hw : ws.length ≤ 100000) {Q : Fl × Rho → Prop}
    (hQ : ∀ below' o5 o6, below'.length = nodes.length + 1 → BelOk (nodes.length + 1) below' → Q (.next, LR t (ps.map (fun p => (p, some nodes.length)) ++ ws) (nodes ++ [.tup [.int (k : Nat), .tup ps]]) below' o2 o5 o6)) :
    Sat (LFb (LR t ((.tup [.int (k : Nat), .tup ps], a) :: ws) nodes below o2 o5 o6)) Q := by
  have e3 : sizeLine = 16777216 := by rw [sizeLine_eq]
  have hz1 : nodes.length < sizeLine := by omega
  have hz2 : below.length < sizeLine := by omega
  have hz3 : ws.length + ps.length ≤ sizeLine := by omega
  have hwp : D.pures (ps.reverse.map fun p => wD (p, some nodes.length)) = true := pures_all.mpr fun d hd => by
    obtain ⟨c, hc, rfl⟩ := List.mem_map.mp hd
    have := pures_mem hps (List.mem_reverse.mp hc)
    simp [wD, this]
  unfold LFb
  simp [e_mut, pop_end, wD]
  rw [if_neg (by omega)]
  simp [e_mut, pop_end]
  refine lfa_spec (M := nodes.length) ?_ ?_ (by omega) fun below' hl' hb' => ?_
  · intro x hx
    have := ha x hx
    omega
  · exact hb
  simp [e_mut]
  refine (lfc_spec hps hpl).mono ?_
  rintro _ rfl
  have hz4 : below'.length < sizeLine := by omega
  simp at hwp
  simp [e_mut, e_move, hps, hz1, hz3, hz4, hwp]
  have he : (ws.map wD).reverse ++ (ps.map fun p => wD (p, some nodes.length)).reverse = ((ps.map (fun p => (p, some nodes.length)) ++ ws).map wD).reverse := by
    rw [List.map_append, List.reverse_append, List.map_map]
    rfl
  rw [he]
  exact hQ _ _ _ (by simp; omega) hb'.add
theorem lflat_spec {N : Nat} {t : D} {L : List Nat} (h : TrL N [t] L) (hL : L.length ≤ 4000) : Sat (QflatF [t]) fun p => ∃ nodes below, p = (.lst [.lst nodes, .lst below], [some t]) ∧ PySem.W.EachIs NodeR nodes L := by
  have e3 : sizeLine = 16777216 := by rw [sizeLine_eq]
  have htp := h.pures
  simp at htp
  rw [QflatF_eq, e_fn]
  simp [htp, rg1_ok]
  obtain ⟨I, hI⟩ : ∃ I : List D → Rho → Prop, ∀ rest ρ, I rest ρ ↔ ∃ ws done l nodes below o2 o5 o6, done ++ l = L ∧ l.length < rest.length ∧ TrL N (ws.map (·.1)) l ∧ (∀ p ∈ ws, ∀ a, p.2 = some a → a < nodes.length) ∧ below.length = nodes.length ∧ BelOk nodes.length below ∧ PySem.W.EachIs NodeR nodes done ∧ ρ = LR t ws nodes below o2 o5 o6 := ⟨_, fun _ _ => Iff.rfl⟩
  obtain ⟨Q, hQ⟩ : ∃ Q : Fl × Rho → Prop, ∀ p, Q p ↔ ∃ nodes below r, p = (.ret (.lst [.lst nodes, .lst below]), some t :: r) ∧ PySem.W.EachIs NodeR nodes L := ⟨_, fun _ => Iff.rfl⟩
  refine (forL_inv (Q := Q) I (fun _ _ _ => rfl) ?_ ?_ ((hI _ _).mpr ⟨[(t, none)], [], L, [], [], none, none, none, rfl, by rw [rangeD_len]; omega, by simpa using h, ?_, rfl, (fun _ hb => nomatch hb), .nil, rfl⟩)).mono ?_
  · intro x rest ρ hρ
    obtain ⟨ws, done, l, nodes, below, o2, o5, o6, hdl, hln, ht, ha, hbl, hb, hnd, rfl⟩ := (hI _ _).mp hρ
    have hnl := hnd.length
    have hdL : done.length + l.length = L.length := by rw [← hdl, List.length_append]
    have hwl := ht.len
    rw [List.length_map] at hwl
    refine ⟨_, rfl, ?_⟩
    cases ws with
    | nil =>
      unfold LFb
      simp [e_move]
      cases ht
      rw [List.append_nil] at hdl
      subst hdl
      exact (hQ _).mpr ⟨nodes, below, _, rfl, hnd⟩
    | cons w ws =>
      obtain ⟨nd, a⟩ := w
      rw [List.length_cons] at hwl
      rw [List.map_cons] at ht
      cases ht with
      | @cons k ps l1 _ l2 h1 h2 h3 h4 =>
        refine lfb_spec (o2 := some x) h3.pures h2 hbl (fun x hx => ha _ List.mem_cons_self x hx) hb (by omega) (by omega) fun below' o5 o6 hl' hb' => ?_
        simp at hln
        refine (hI _ _).mpr ⟨_, done ++ [k], l1 ++ l2, _, below', _, o5, o6, by rw [← hdl]; simp, by simp; omega, ?_, ?_, by simp; exact hl', ?_, ?_, rfl⟩
        · rw [List.map_append, List.map_map]
          have : ((fun x : D × Option Nat => x.1) ∘ fun p : D => (p, some nodes.length)) = id := rfl
          rw [this, List.map_id]
          exact h3.app h4
        · intro p hp x hx
          rw [List.length_append, List.length_singleton]
          rcases List.mem_append.mp hp with z | z
          · obtain ⟨c, _, rfl⟩ := List.mem_map.mp z
            cases hx
            omega
          · have := ha p (List.mem_cons_of_mem _ z) x hx
            omega
        · rw [List.length_append, List.length_singleton]
          exact hb'
        · exact each_app ⟨ps, rfl, h3.pures⟩ hnd
  · intro ρ hρ
    obtain ⟨ws, done, l, nodes, below, o2, o5, o6, hdl, hln, ht, ha, hbl, hb, hnd, rfl⟩ := (hI _ _).mp hρ
    exact absurd hln (Nat.not_lt_zero _)
  · intro p hp x hx
    rw [List.mem_singleton.mp hp] at hx
    cases hx
  · intro p hp
    obtain ⟨nodes, below, r, rfl, hnd⟩ := (hQ p).mp hp
    simp [outsL, htp]
    exact hnd
end DV
set_option Elab.async false
set_option linter.all false
set_option maxRecDepth 100000
set_option maxHeartbeats 4000000
namespace DV
open PySem PySem.Spec PyProof.Rows L2
/-! ### the chance of a build -/
def prodI (l : List Int) : Int := l.foldr (· * ·) 1
theorem prodI_app {l : List Int} {a : Int} : prodI (l ++ [a]) = prodI l * a := by
  unfold prodI
  induction l with
  | nil => simp
  | cons x l ih => rw [List.cons_append, List.foldr_cons, List.foldr_cons, ih, Int.mul_assoc]
theorem prodI_pos {l : List Int} (h : ∀ x ∈ l, 0 < x) : 0 < prodI l := by
  unfold prodI
  induction l with
  | nil => decide
  | cons x l ih =>
    rw [List.foldr_cons]
    exact Int.mul_pos (h x List.mem_cons_self) (ih fun y hy => h y (List.mem_cons_of_mem _ hy))
theorem prodI_le {l : List Int} (h : ∀ x ∈ l, 0 < x ∧ x ≤ 128) : (prodI l).natAbs ≤ 2 ^ (7 * l.length) := by
  unfold prodI
  induction l with
  | nil => exact Nat.le_refl _
  | cons x l ih =>
    rw [List.foldr_cons, Int.natAbs_mul, List.length_cons, Nat.mul_succ, Nat.pow_add, Nat.mul_comm]
    exact Nat.mul_le_mul (ih fun y hy => h y (List.mem_cons_of_mem _ hy)) (by have := h x List.mem_cons_self; show _ ≤ 128; omega)
def pH (ws : List Int) (l : List Nat) : Int := prodI (l.map (wt ws))
def pS (rs : List D) (ws : List Int) (l : List Nat) : Int := prodI (l.map fun k => sumW rs ws (rName rs k))
theorem pH_add {ws : List Int} {l : List Nat} {k : Nat} : pH ws (l ++ [k]) = pH ws l * wt ws k := by
  unfold pH
  rw [List.map_append]
  exact prodI_app
theorem pS_add {rs : List D} {ws : List Int} {l : List Nat} {k : Nat} : pS rs ws (l ++ [k]) = pS rs ws l * sumW rs ws (rName rs k) := by
  unfold pS
  rw [List.map_append]
  exact prodI_app
theorem sumW_pos {rs : List D} {ws : List Int} {k : Nat} (hw : WOk rs ws) (hl : rs.length ≤ 450) (hk : k < rs.length) : 0 < sumW rs ws (rName rs k) ∧ sumW rs ws (rName rs k) ≤ 44550 := by
  have h := sumW_le (n := rName rs k) hw hl
  have hpos : 0 < (ixs rs (rName rs k)).length := List.length_pos_of_mem (mem_ixs.mpr ⟨hk, rfl⟩)
  omega
theorem pH_pos {rs : List D} {ws : List Int} {l : List Nat} (hw : WOk rs ws) (h : ∀ k ∈ l, k < rs.length) : 0 < pH ws l := prodI_pos fun x hx => by
  obtain ⟨k, hk, rfl⟩ := List.mem_map.mp hx
  have := (wt_get hw (h k hk)).2
  omega
theorem pH_le {rs : List D} {ws : List Int} {l : List Nat} (hw : WOk rs ws) (h : ∀ k ∈ l, k < rs.length) : (pH ws l).natAbs ≤ 2 ^ (7 * l.length) := by
  have := prodI_le (l := l.map (wt ws)) fun x hx => by
    obtain ⟨k, hk, rfl⟩ := List.mem_map.mp hx
    have := (wt_get hw (h k hk)).2
    omega
  rw [List.length_map] at this
  exact this
theorem pS_pos {rs : List D} {ws : List Int} {l : List Nat} (hw : WOk rs ws) (hl : rs.length ≤ 450) (h : ∀ k ∈ l, k < rs.length) : 0 < pS rs ws l := prodI_pos fun x hx => by
  obtain ⟨k, hk, rfl⟩ := List.mem_map.mp hx
  exact (sumW_pos hw hl (h k hk)).1
theorem gcd_logN {n d : Int} (h : 0 < n) {e : Nat} (he : n.natAbs ≤ 2 ^ e) (h9 : e < 9000) : ((Nat.gcd n.natAbs d.natAbs : Nat) : Int).natAbs.log2 < 9000 := by
  have h1 : Nat.gcd n.natAbs d.natAbs ≤ 2 ^ e := Nat.le_trans (Nat.gcd_le_left _ (by omega)) he
  show (Nat.gcd n.natAbs d.natAbs).log2 < 9000
  refine Nat.lt_of_le_of_lt (log_le h1) ?_
  rw [Nat.log2_two_pow]
  exact h9
noncomputable def BCb : Rho → Res (Fl × Rho) := (gSet 3 (gCall Qp_timesF (lLent 3 (lOwn (gCall Qp_rule_chanceF (lLent 0 (lLent 1 (lOwn (gCp (gOp2 oGet (gVar 4) (gC (.int 0)))) lNil)))) lNil))))
theorem Qp_build_chanceF_eq : Qp_build_chanceF = gFn 3 5 [0, 1, 2] (gSeq (gSet 3 (gC (.tup ([1, 1].map .int))))
    (gSeq (gFor (gItems (gOp2 oGet (gCall Qp_flatF (lLent 2 lNil)) (gC (.int 0)))) (bName 4) BCb)
    (gRet (gMove 3)))) := rfl
theorem nodes_pure : ∀ {nodes : List D} {L : List Nat}, PySem.W.EachIs NodeR nodes L → D.pures nodes = true
  | _, _, .nil => rfl
  | _, _, .cons h t => by
    obtain ⟨ps, rfl, hp⟩ := h
    simp [hp, nodes_pure t]
theorem bcb_spec {top : Str} {ps rs qs : List D} {bad : List Str} {ws : List Int} {l : List Nat} {k : Nat} {t : D} (h : BookP ps rs bad) (hw : WOk rs ws) (hl : ∀ k ∈ l, k < rs.length) (hk : k < rs.length) (hll : l.length ≤ 1000) (hq : D.pures qs = true) :
    Sat (BCb [some (bookOf top ps rs), some (.tup (dI ws)), some t, some (nf (pH ws l) (pS rs ws l)), some (.tup [.int (k : Nat), .tup qs])]) fun p => p = (.next, [some (bookOf top ps rs), some (.tup (dI ws)), some t, some (nf (pH ws (l ++ [k])) (pS rs ws (l ++ [k]))), some (.tup [.int (k : Nat), .tup qs])]) := by
  have hpp := h.pp
  have hrp := h.rp
  have hH := pH_pos hw hl
  have hHl := pH_le hw hl
  have hS := pS_pos hw h.r1 hl
  have hs := sumW_pos hw h.r1 hk
  have hwk := (wt_get hw hk).2
  unfold BCb
  simp [e_llent, hq]
  refine sat_call (rule_chance_spec (top := top) (k := k) h hw hk) (by simp [takeArgs, hpp, hrp, dI_pure]) ?_
  rintro r os e
  cases e
  simp [putArgs, leftR, takeArgs, hpp, hrp, dI_pure, e_llent, nf_fr]
  rw [pH_add, pS_add]
  generalize pH ws l = H at *
  generalize pS rs ws l = S at *
  generalize sumW rs ws (rName rs k) = s at *
  generalize wt ws k = v at *
  have b1 := nN_le (n := v) (d := s) (by omega) hs.1
  have b2 := nN_nonneg (n := v) (d := s) (by omega) hs.1
  have b3 := nD_le (n := v) hs.1
  have b4 := nD_pos (n := v) hs.1
  have b5 := nD_pos (n := H) hS
  have b6 := nN_nonneg (n := H) (d := S) (by omega) hS
  have b7 := nN_le (n := H) (d := S) (by omega) hS
  have b8 : 0 < nN H S := by
    rcases Int.lt_or_eq_of_le b6 with z | z
    · exact z
    · have := nN_mul (n := H) (d := S)
      rw [← z, Int.zero_mul] at this
      omega
  have b9 : 0 < nN v s := by
    rcases Int.lt_or_eq_of_le b2 with z | z
    · exact z
    · have := nN_mul (n := v) (d := s)
      rw [← z, Int.zero_mul] at this
      omega
  have b10 : (nN H S * nN v s).natAbs ≤ 2 ^ (7 * l.length + 7) := by
    rw [Int.natAbs_mul, Nat.pow_add]
    exact Nat.mul_le_mul (Nat.le_trans (by omega) hHl) (by show _ ≤ 128; omega)
  refine sat_call (times_spec (a := nN H S) (b := nD H S) (c := nN v s) (d := nD v s) b5 b4 b2 (by omega) (by omega) (gcd_logN (Int.mul_pos b8 b9) b10 (by omega))) (by simp [takeArgs]) ?_
  rintro r os e
  cases e
  have e5 : nf (nN H S * nN v s) (nD H S * nD v s) = nf (H * v) (S * s) := by
    rw [nf_times (a := 0) (b := 1) (by decide) hS _ _ b4, Int.mul_comm H, Int.mul_comm S, nf_times (a := 0) (b := 1) (by decide) hs.1 _ _ hS, Int.mul_comm v, Int.mul_comm s]
  rw [e5]
  simp [putArgs, leftR, takeArgs, hpp, hrp, dI_pure, e_llent, nf_fr]
theorem build_chance_spec {top : Str} {ps rs : List D} {bad : List Str} {ws : List Int} {t : D} {L : List Nat} (h : BookP ps rs bad) (hw : WOk rs ws) (ht : TrL rs.length [t] L) (hL : L.length ≤ 1000) :
    Sat (Qp_build_chanceF [bookOf top ps rs, .tup (dI ws), t]) fun p => p = (nf (pH ws L) (pS rs ws L), [some (bookOf top ps rs), some (.tup (dI ws)), some t]) := by
  have hpp := h.pp
  have hrp := h.rp
  have htp := ht.pures
  simp at htp
  rw [Qp_build_chanceF_eq, e_fn]
  simp [e_llent]
  refine sat_call (flat_spec ht (by omega)) (by simp [takeArgs, htp]) ?_
  rintro r os ⟨nodes, below, e, hn⟩
  cases e
  have hnp := nodes_pure hn
  simp [putArgs, leftR, takeArgs, htp, itemsK_ok (show (D.lst nodes).items = some nodes from rfl) hnp]
  obtain ⟨I, hI⟩ : ∃ I : List D → Rho → Prop, ∀ rest ρ, I rest ρ ↔ ∃ done l o4, done ++ l = L ∧ PySem.W.EachIs NodeR rest l ∧ ρ = [some (bookOf top ps rs), some (.tup (dI ws)), some t, some (nf (pH ws done) (pS rs ws done)), o4] := ⟨_, fun _ _ => Iff.rfl⟩
  refine (forL_inv (Q := fun p => ∃ o4, p = (.next, [some (bookOf top ps rs), some (.tup (dI ws)), some t, some (nf (pH ws L) (pS rs ws L)), o4])) I (fun _ _ _ => rfl) ?_ ?_ ((hI _ _).mpr ⟨[], L, none, rfl, hn, ?_⟩)).mono ?_
  · intro x rest ρ hρ
    obtain ⟨done, l, o4, hdl, hr, rfl⟩ := (hI _ _).mp hρ
    cases hr with
    | @cons _ k _ l hx hr =>
      obtain ⟨qs, rfl, hq⟩ := hx
      have hlt := ht.lt
      refine ⟨_, rfl, (bcb_spec h hw (fun k hk => hlt k (by rw [← hdl]; exact List.mem_append_left _ hk)) (hlt k (by rw [← hdl]; simp)) (by have := congrArg List.length hdl; simp at this; omega) hq).mono ?_⟩
      rintro _ rfl
      exact (hI _ _).mpr ⟨done ++ [k], l, _, by rw [← hdl]; simp, hr, rfl⟩
  · intro ρ hρ
    obtain ⟨done, l, o4, hdl, hr, rfl⟩ := (hI _ _).mp hρ
    cases hr
    rw [List.append_nil] at hdl
    subst hdl
    exact ⟨_, rfl⟩
  · show _ = [_, _, _, some (nf 1 1), _]
    rw [nf_one]
  · rintro _ ⟨o4, rfl⟩
    simp [e_move, outsL, hpp, hrp, dI_pure, nf_fr, htp]
noncomputable def DCb : Rho → Res (Fl × Rho) := (gSeq (gSet 5 (gOp2 (oInt2 fMul) (gCp (gVar 5)) (gOp2 oGet (gVar 1) (gCp (gOp2 oGet (gVar 4) (gC (.int 0)))))))
    (gSet 6 (gOp2 (oInt2 fMul) (gCp (gVar 6)) (gOp2 oGet (gVar 2) (gCp (gOp2 oGet (gOp2 oGet (gOp2 oGet (gVar 0) (gC (.int 2))) (gCp (gOp2 oGet (gVar 4) (gC (.int 0))))) (gC (.int 0))))))))
theorem Qdue_chanceF_eq : Qdue_chanceF = gFn 4 7 [0, 1, 2, 3] (gSeq (gAsg (bTup 2 (bCons (bName 5) (bCons (bName 6) bNil))) (gTup (gCons (gC (.int 1)) (gCons (gC (.int 1)) gNil))))
    (gSeq (gFor (gItems (gOp2 oGet (gCall QflatF (lLent 3 lNil)) (gC (.int 0)))) (bName 4) DCb)
    (gRet (gCall QfracF (lLent 5 (lLent 6 lNil)))))) := rfl
theorem dcb_spec {top : Str} {ps rs qs : List D} {bad : List Str} {ws : List Int} {m : SM} {l : List Nat} {k : Nat} {t : D} (h : BookP ps rs bad) (hw : WOk rs ws) (hm : SumOk rs ws (List.range rs.length) m) (hk : k < rs.length) (hq : D.pures qs = true) :
    Sat (DCb [some (bookOf top ps rs), some (.tup (dI ws)), some (dicS m), some t, some (.tup [.int (k : Nat), .tup qs]), some (.int (pH ws l)), some (.int (pS rs ws l))]) fun p => p = (.next, [some (bookOf top ps rs), some (.tup (dI ws)), some (dicS m), some t, some (.tup [.int (k : Nat), .tup qs]), some (.int (pH ws (l ++ [k]))), some (.int (pS rs ws (l ++ [k])))]) := by
  have hpp := h.pp
  have hrp := h.rp
  obtain ⟨mk, tt, sl, e, ht, hs, hn⟩ := rule_at hk h.ra
  have hsp := slots_ok hs
  have hsw := sumW_pos hw h.r1 hk
  have hgk := wt_get hw hk
  have hlk : look m (rName rs k) = some (sumW rs ws (rName rs k)) := look_sum hm (mem_ixs.mpr ⟨hk, rfl⟩)
  have m1 : fMul (pH ws l) (wt ws k) = some (pH ws l * wt ws k) := fMul_ok (.inr ⟨by omega, by omega⟩)
  have m2 : fMul (pS rs ws l) (sumW rs ws (rName rs k)) = some (pS rs ws l * sumW rs ws (rName rs k)) := fMul_ok (.inr ⟨by omega, by omega⟩)
  unfold DCb
  simp [hpp, hrp, e, ht, hsp, hq, hgk.1, hlk, m1, m2, pH_add, pS_add]
theorem due_chance_spec {top : Str} {ps rs : List D} {bad : List Str} {ws : List Int} {m : SM} {t : D} {L : List Nat} (h : BookP ps rs bad) (hw : WOk rs ws) (hm : SumOk rs ws (List.range rs.length) m) (ht : TrL rs.length [t] L) (hL : L.length ≤ 1000) :
    Sat (Qdue_chanceF [bookOf top ps rs, .tup (dI ws), dicS m, t]) fun p => p = (nf (pH ws L) (pS rs ws L), [some (bookOf top ps rs), some (.tup (dI ws)), some (dicS m), some t]) := by
  have hpp := h.pp
  have hrp := h.rp
  have htp := ht.pures
  simp at htp
  rw [Qdue_chanceF_eq, e_fn]
  simp [e_llent]
  refine sat_call (lflat_spec ht (by omega)) (by simp [takeArgs, htp]) ?_
  rintro r os ⟨nodes, below, e, hn⟩
  cases e
  have hnp := nodes_pure hn
  simp [putArgs, leftR, takeArgs, htp, itemsK_ok (show (D.lst nodes).items = some nodes from rfl) hnp]
  obtain ⟨I, hI⟩ : ∃ I : List D → Rho → Prop, ∀ rest ρ, I rest ρ ↔ ∃ done l o4, done ++ l = L ∧ PySem.W.EachIs NodeR rest l ∧ ρ = [some (bookOf top ps rs), some (.tup (dI ws)), some (dicS m), some t, o4, some (.int (pH ws done)), some (.int (pS rs ws done))] := ⟨_, fun _ _ => Iff.rfl⟩
  refine (forL_inv (Q := fun p => ∃ o4, p = (.next, [some (bookOf top ps rs), some (.tup (dI ws)), some (dicS m), some t, o4, some (.int (pH ws L)), some (.int (pS rs ws L))])) I (fun _ _ _ => rfl) ?_ ?_ ((hI _ _).mpr ⟨[], L, none, rfl, hn, rfl⟩)).mono ?_
  · intro x rest ρ hρ
    obtain ⟨done, l, o4, hdl, hr, rfl⟩ := (hI _ _).mp hρ
    cases hr with
    | @cons _ k _ l hx hr =>
      obtain ⟨qs, rfl, hq⟩ := hx
      have hlt := ht.lt
      refine ⟨_, rfl, (dcb_spec h hw hm (hlt k (by rw [← hdl]; simp)) hq).mono ?_⟩
      rintro _ rfl
      exact (hI _ _).mpr ⟨done ++ [k], l, _, by rw [← hdl]; simp, hr, rfl⟩
  · intro ρ hρ
    obtain ⟨done, l, o4, hdl, hr, rfl⟩ := (hI _ _).mp hρ
    cases hr
    rw [List.append_nil] at hdl
    subst hdl
    exact ⟨_, rfl⟩
  · rintro _ ⟨o4, rfl⟩
    have hlt := ht.lt
    have hH := pH_pos hw hlt
    have hHl := pH_le hw hlt
    have hS := pS_pos hw h.r1 hlt
    simp [e_llent]
    refine sat_call (frac_spec (n := pH ws L) (d := pS rs ws L) hS (gcd_logN hH hHl (by omega))) (by simp [takeArgs]) ?_
    rintro r os e
    cases e
    simp [putArgs, leftR, takeArgs, outsL, hpp, hrp, dI_pure, htp]
/-! ### rows -/
theorem eqD_fr {n d : Int} {b : Bool} : oEqD b (fr n d) (fr n d) = some (.bl (!b)) := by
  have h1 : (fr n d).dat = true := by simp [D.dat, D.dats]
  have h2 : PyData.eqv (fr n d).py (fr n d).py = true := SeqAt.eqv_refl_plain _ (dat_plain h1)
  have h3 : (fr n d).py.depth = 1 := by simp [D.py, D.pyL, PyData.depth, PyData.depthAll]
  unfold oEqD
  rw [if_pos ⟨h1, h1, by rw [h3]; decide⟩, h2]
  cases b <;> rfl
def NfD (d : D) : Prop := ∃ n m, 0 < m ∧ d = nf n m
noncomputable def IRc : Rho → Res (D × Rho) := (gComp (gRange1 (gOp1 oLen (gVar 1))) [2] (bName 2) gYes (gAndV (gCall Qis_fracF (lOwn (gCp (gOp2 oGet (gVar 0) (gCp (gVar 2)))) lNil)) (gOp2 (oEqD false) (gCp (gOp2 oGet (gVar 0) (gCp (gVar 2)))) (gOp2 oGet (gVar 1) (gCp (gVar 2))))))
theorem Qis_rowF_eq : Qis_rowF = gFn 2 3 [0, 1] (gSeq (gIfS (gOr (gNot (gTest (gOp1 (oIsi "tuple") (gVar 0)))) (gTest (gOp2 (oEq true) (gOp1 oLen (gVar 0)) (gOp1 oLen (gVar 1))))) (gRet (gC (.bl false))) gNext)
    (gRet (gOp1 oAll IRc))) := rfl
theorem bools_true {xs : List D} : D.bools (xs.map fun _ => D.bl true) = some (xs.map fun _ => true) := by
  induction xs with
  | nil => rfl
  | cons x xs ih =>
    rw [List.map_cons, List.map_cons, D.bools, ih]
    rfl
theorem is_row_spec {ds : List D} (h : ∀ d ∈ ds, NfD d) (hl : ds.length ≤ 1000) : Sat (Qis_rowF [.tup ds, .tup ds]) fun p => p = (.bl true, [some (.tup ds), some (.tup ds)]) := by
  have e3 : sizeLine = 16777216 := by rw [sizeLine_eq]
  have hp : D.pures ds = true := pures_all.mpr fun d hd => by
    obtain ⟨n, m, _, rfl⟩ := h d hd
    rfl
  have hz : (rangeD 0 ds.length).length ≤ sizeLine := by rw [rangeD_len]; omega
  rw [Qis_rowF_eq, e_fn]
  simp
  unfold IRc
  simp [rg1_len (show ds.length ≤ 10000000 by omega), hz, wipeR]
  refine (comp_map (fun ρ => ρ = [some (.tup ds), some (.tup ds), none]) (fun x y => y = .bl true) rfl (fun _ _ => rfl) fun x hx ρ hr => ?_).mono ?_
  · subst hr
    obtain ⟨k, hk, rfl⟩ := mem_rangeD hx
    have hg : ds[k]? = some ds[k] := List.getElem?_eq_getElem hk
    obtain ⟨n, m, hm, e⟩ := h ds[k] (List.getElem_mem hk)
    rw [e, nf_fr] at hg
    have hm2 := nD_pos (n := n) hm
    refine ⟨_, rfl, ?_⟩
    simp [hg, wipeR]
    refine sat_call (is_frac_spec (n := nN n m) (d := nD n m) (by omega) (n_cop hm)) (by simp [takeArgs]) ?_
    rintro r os e'
    cases e'
    simp [putArgs, leftR, takeArgs, hg, eqD_fr, wipeR]
  · rintro ⟨ys, ρ⟩ ⟨h1, e'⟩
    simp only at h1 e'
    subst e'
    have e' := each_eq (f := fun _ => .bl true) h1
    subst e'
    have ha : oAll (.lst ((rangeD 0 ds.length).map fun _ => D.bl true)) = some (.bl true) := by
      unfold oAll
      simp only [bools_true]
      simp
    simp [backR, unR] at ha ⊢
    simp [ha, outsL, hp]
end DV
set_option Elab.async false
set_option linter.all false
set_option maxRecDepth 100000
set_option maxHeartbeats 4000000
namespace DV
open PySem PySem.Spec PyProof.Rows L2
/-! ### the least steps: what the def computes -/
abbrev RL := Str × List Str
def allIn (m : SM) (ss : List Str) : Bool := ss.all fun s => (look m s).isSome
def sumV (m : SM) (ss : List Str) : Int := (ss.map fun s => (look m s).getD 0).sum
def stepL (m : SM) (r : RL) : SM := if allIn m r.2 = true then (match look m r.1 with
    | none => putS m r.1 (1 + sumV m r.2)
    | some v => if 1 + sumV m r.2 < v then putS m r.1 (1 + sumV m r.2) else m) else m
def passL (R : List RL) (m : SM) : SM := R.foldl stepL m
def leastL (R : List RL) : Nat → SM
  | 0 => []
  | n + 1 => passL R (leastL R n)
theorem stepL_len (m : SM) (r : RL) : (stepL m r).length ≤ m.length + 1 := by
  unfold stepL
  split
  · split
    · exact put_len _ _ _
    · split
      · exact put_len _ _ _
      · omega
  · omega
theorem passL_len (R : List RL) : ∀ m : SM, (passL R m).length ≤ m.length + R.length := by
  induction R with
  | nil => intro m; exact Nat.le_refl _
  | cons r R ih =>
    intro m
    have h1 := ih (stepL m r)
    have h2 := stepL_len m r
    rw [List.length_cons]
    show (passL R (stepL m r)).length ≤ _
    omega
theorem leastL_len (R : List RL) (n : Nat) : (leastL R n).length ≤ n * R.length := by
  induction n with
  | zero => exact Nat.zero_le _
  | succ n ih =>
    have h1 := passL_len R (leastL R n)
    rw [Nat.succ_mul]
    show (passL R (leastL R n)).length ≤ _
    omega
theorem bools_map {α : Type} {f : α → Bool} : ∀ {xs : List α}, D.bools (xs.map fun x => D.bl (f x)) = some (xs.map f)
  | [] => rfl
  | x :: xs => by
    rw [List.map_cons, List.map_cons, D.bools, bools_map]
    rfl
noncomputable def LSa : Rho → Res (D × Rho) := (gOp1 oAll (gComp (gItems (gCp (gOp2 oGet (gVar 3) (gC (.int 3))))) [5] (bName 5) gYes (gOp2 (oIn false) (gCp (gOp2 oGet (gVar 5) (gC (.int 0)))) (gVar 1))))
noncomputable def LSs : Rho → Res (D × Rho) := (gOp1 oSum (gComp (gItems (gCp (gOp2 oGet (gVar 3) (gC (.int 3))))) [5] (bName 5) gYes (gCp (gOp2 oGet (gVar 1) (gCp (gOp2 oGet (gVar 5) (gC (.int 0))))))))
noncomputable def LSu : Rho → Res (Fl × Rho) := (gIfS (gOr (gTest (gOp2 (oIn true) (gCp (gOp2 oGet (gVar 3) (gC (.int 0)))) (gVar 1))) (gTest (gOp2 (oCmp fLt) (gCp (gVar 4)) (gOp2 oGet (gVar 1) (gCp (gOp2 oGet (gVar 3) (gC (.int 0)))))))) (gStore 1 (gCp (gOp2 oGet (gVar 3) (gC (.int 0)))) (gMove 4)) gNext)
noncomputable def LSb : Rho → Res (Fl × Rho) := (gIfS (gTest LSa) (gSeq (gSet 4 (gOp2 oAdd (gC (.int 1)) LSs))
    LSu) gNext)
noncomputable def LSf : Rho → Res (Fl × Rho) := (gFor (gItems (gCp (gOp2 oGet (gVar 0) (gC (.int 2))))) (bName 3) LSb)
theorem QleastF_eq : QleastF = gFn 1 6 [0] (gSeq (gSet 1 (gC (.dic [] [])))
    (gSeq (gFor (gRange1 (gOp1 oLen (gOp2 oGet (gVar 0) (gC (.int 1))))) (bName 2) LSf)
    (gRet (gMove 1)))) := rfl
abbrev LSr (b : D) (m : SM) (o2 o4 : Option D) (r : D) : Rho := [some b, some (.lst []), o2, some r, o4, none]
theorem lsa_spec {b t : D} {m : SM} {o2 o4 : Option D} {n k : Str} {sl : List D} (ht : t.pure = true) (hs : ∀ s ∈ sl, SlotA s) (hl : sl.length ≤ 3) :
    Sat (LSa [some b, some (dicS m), o2, some (.tup [.str n, .str k, t, .tup sl]), o4, none]) fun p => p = (.bl (allIn m (sl.map nameOf)), [some b, some (dicS m), o2, some (.tup [.str n, .str k, t, .tup sl]), o4, none]) := by
  have e3 : sizeLine = 16777216 := by rw [sizeLine_eq]
  have hsp := slots_ok hs
  have hz : sl.length ≤ sizeLine := by omega
  unfold LSa
  simp [ht, hsp, itemsK_ok (show (D.tup sl).items = some sl from rfl) hsp, hz, wipeR]
  refine (comp_map (fun ρ => ρ = [some b, some (dicS m), o2, some (.tup [.str n, .str k, t, .tup sl]), o4, none]) (fun x y => y = .bl (look m (nameOf x)).isSome) rfl (fun _ _ => rfl) fun x hx ρ hr => ?_).mono ?_
  · subst hr
    obtain ⟨x1, y1, rfl, hy1⟩ := hs x hx
    refine ⟨_, rfl, ?_⟩
    simp [hy1, wipeR]
    rfl
  · rintro ⟨ys, ρ⟩ ⟨h1, e'⟩
    simp only at h1 e'
    subst e'
    have e' := each_eq (f := fun x => .bl (look m (nameOf x)).isSome) h1
    subst e'
    have ha : oAll (.lst (sl.map fun x => D.bl (look m (nameOf x)).isSome)) = some (.bl (allIn m (sl.map nameOf))) := by
      unfold oAll allIn
      simp only [bools_map]
      rw [List.all_map]
      simp
      rfl
    simp [backR, unR, ha]
theorem lss_spec {b t : D} {m : SM} {o2 o4 : Option D} {n k : Str} {sl : List D} (ht : t.pure = true) (hs : ∀ s ∈ sl, SlotA s) (hl : sl.length ≤ 3) (ha : allIn m (sl.map nameOf) = true) :
    Sat (LSs [some b, some (dicS m), o2, some (.tup [.str n, .str k, t, .tup sl]), o4, none]) fun p => p = (.int (sumV m (sl.map nameOf)), [some b, some (dicS m), o2, some (.tup [.str n, .str k, t, .tup sl]), o4, none]) := by
  have e3 : sizeLine = 16777216 := by rw [sizeLine_eq]
  have hsp := slots_ok hs
  have hz : sl.length ≤ sizeLine := by omega
  unfold LSs
  simp [ht, hsp, itemsK_ok (show (D.tup sl).items = some sl from rfl) hsp, hz, wipeR]
  refine (comp_map (fun ρ => ρ = [some b, some (dicS m), o2, some (.tup [.str n, .str k, t, .tup sl]), o4, none]) (fun x y => y = .int ((look m (nameOf x)).getD 0)) rfl (fun _ _ => rfl) fun x hx ρ hr => ?_).mono ?_
  · subst hr
    have hin := List.all_eq_true.mp ha (nameOf x) (List.mem_map_of_mem hx)
    obtain ⟨v, hv⟩ := Option.isSome_iff_exists.mp hin
    rw [hv]
    obtain ⟨x1, y1, rfl, hy1⟩ := hs x hx
    have hv2 : look m x1 = some v := hv
    refine ⟨_, rfl, ?_⟩
    simp [hy1, wipeR, hv2]
  · rintro ⟨ys, ρ⟩ ⟨h1, e'⟩
    simp only at h1 e'
    subst e'
    have e' := each_eq (f := fun x => .int ((look m (nameOf x)).getD 0)) h1
    subst e'
    have hsum : oSum (.lst (sl.map fun x => D.int ((look m (nameOf x)).getD 0))) = some (.int (sumV m (sl.map nameOf))) := by
      have e5 : (sl.map fun x => D.int ((look m (nameOf x)).getD 0)) = dI ((sl.map nameOf).map fun s => (look m s).getD 0) := by
        unfold dI
        rw [List.map_map, List.map_map]
        rfl
      rw [e5]
      unfold oSum sumV
      simp only [ints_dI]
      rfl
    simp [backR, unR, hsum]
theorem lsb_spec {b t : D} {m : SM} {o2 o4 : Option D} {n k : Str} {sl : List D} (ht : t.pure = true) (hs : ∀ s ∈ sl, SlotA s) (hl : sl.length ≤ 3) (hm : m.length ≤ 10000) :
    Sat (LSb [some b, some (dicS m), o2, some (.tup [.str n, .str k, t, .tup sl]), o4, none]) fun p => ∃ o4, p = (.next, [some b, some (dicS (stepL m (n, sl.map nameOf))), o2, some (.tup [.str n, .str k, t, .tup sl]), o4, none]) := by
  have e3 : sizeLine = 16777216 := by rw [sizeLine_eq]
  have hsp := slots_ok hs
  have hsz : m.length < sizeLine := by omega
  unfold LSb
  simp
  refine (lsa_spec ht hs hl).mono ?_
  rintro _ rfl
  unfold stepL
  by_cases ha : allIn m (sl.map nameOf) = true
  · simp [ha]
    refine (lss_spec ht hs hl ha).mono ?_
    rintro _ rfl
    unfold LSu
    cases hl1 : look m n with
    | none =>
      simp [ht, hsp, hl1, e_move, sput_dicS hsz]
    | some v =>
      by_cases hlt : 1 + sumV m (sl.map nameOf) < v
      · simp [ht, hsp, hl1, e_move, sput_dicS hsz, fLt, hlt]
      · simp [ht, hsp, hl1, e_move, sput_dicS hsz, fLt, hlt]
  · simp [ha]
theorem lsf_spec {top : Str} {ps rs : List D} {bad : List Str} {m : SM} {o2 o3 o4 : Option D} (h : BookP ps rs bad) (hm : m.length ≤ 8000) {Q : Fl × Rho → Prop} (hQ : ∀ o3 o4, Q (.next, [some (bookOf top ps rs), some (dicS (passL (rs.map ruleOf) m)), o2, o3, o4, none])) :
    Sat (LSf [some (bookOf top ps rs), some (dicS m), o2, o3, o4, none]) Q := by
  have hpp := h.pp
  have hrp := h.rp
  have hrl := h.r1
  unfold LSf
  simp [hpp, hrp, itemsK_ok (show (D.tup rs).items = some rs from rfl) hrp]
  obtain ⟨I, hI⟩ : ∃ I : List D → Rho → Prop, ∀ rest ρ, I rest ρ ↔ ∃ done m' o3 o4, done ++ rest = rs ∧ m' = passL (done.map ruleOf) m ∧ ρ = [some (bookOf top ps rs), some (dicS m'), o2, o3, o4, none] := ⟨_, fun _ _ => Iff.rfl⟩
  refine (forL_inv (Q := fun p => ∃ o3 o4, p = (.next, [some (bookOf top ps rs), some (dicS (passL (rs.map ruleOf) m)), o2, o3, o4, none])) I (fun _ _ _ => rfl) ?_ ?_ ((hI _ _).mpr ⟨[], m, o3, o4, rfl, rfl, rfl⟩)).mono ?_
  · intro x rest ρ hρ
    obtain ⟨done, m', o3, o4, hd, hm', rfl⟩ := (hI _ _).mp hρ
    have hx : x ∈ rs := by rw [← hd]; exact List.mem_append_right _ List.mem_cons_self
    have hml : m'.length ≤ 10000 := by
      have h1 := passL_len (done.map ruleOf) m
      have h2 := congrArg List.length hd
      rw [← hm', List.length_map] at h1
      rw [List.length_append] at h2
      omega
    have hrx := h.rl x hx
    obtain ⟨n, k, t, sl, rfl, ht, hs⟩ := h.ra x hx
    have hro : ruleOf (.tup [.str n, .str k, t, .tup sl]) = (n, sl.map nameOf) := rfl
    rw [hro] at hrx
    refine ⟨_, rfl, ?_⟩
    refine (lsb_spec ht hs (by simpa using hrx) hml).mono ?_
    rintro _ ⟨o4, rfl⟩
    refine (hI _ _).mpr ⟨done ++ [.tup [.str n, .str k, t, .tup sl]], _, _, o4, by rw [← hd, List.append_assoc]; rfl, ?_, rfl⟩
    rw [List.map_append, List.map_cons, List.map_nil, hro]
    unfold passL
    rw [List.foldl_append]
    unfold passL at hm'
    rw [← hm']
    rfl
  · intro ρ hρ
    obtain ⟨done, m', o3, o4, hd, hm', rfl⟩ := (hI _ _).mp hρ
    rw [List.append_nil] at hd
    subst hd
    subst hm'
    exact ⟨_, _, rfl⟩
  · rintro _ ⟨o3, o4, rfl⟩
    simp
    exact hQ _ _
theorem least_spec {top : Str} {ps rs : List D} {bad : List Str} (h : BookP ps rs bad) : Sat (QleastF [bookOf top ps rs]) fun p => p = (dicS (leastL (rs.map ruleOf) ps.length), [some (bookOf top ps rs)]) := by
  have hpp := h.pp
  have hrp := h.rp
  have hrl := h.r1
  have hpl := h.p1
  rw [QleastF_eq, e_fn]
  simp [hpp, hrp, rg1_len (show ps.length ≤ 10000000 by omega), dicS_nil]
  obtain ⟨I, hI⟩ : ∃ I : List D → Rho → Prop, ∀ rest ρ, I rest ρ ↔ ∃ i o2 o3 o4, i + rest.length = ps.length ∧ ρ = [some (bookOf top ps rs), some (dicS (leastL (rs.map ruleOf) i)), o2, o3, o4, none] := ⟨_, fun _ _ => Iff.rfl⟩
  refine (forL_inv (Q := fun p => ∃ o2 o3 o4, p = (.next, [some (bookOf top ps rs), some (dicS (leastL (rs.map ruleOf) ps.length)), o2, o3, o4, none])) I (fun _ _ _ => rfl) ?_ ?_ ((hI _ _).mpr ⟨0, none, none, none, by rw [rangeD_len, Nat.zero_add], rfl⟩)).mono ?_
  · intro x rest ρ hρ
    obtain ⟨i, o2, o3, o4, hi, rfl⟩ := (hI _ _).mp hρ
    rw [List.length_cons] at hi
    have hml : (leastL (rs.map ruleOf) i).length ≤ 8000 := by
      have h1 := leastL_len (rs.map ruleOf) i
      rw [List.length_map] at h1
      have h2 : i * rs.length ≤ 16 * 450 := Nat.mul_le_mul (by omega) hrl
      omega
    exact ⟨_, rfl, lsf_spec (o2 := some x) (o3 := o3) (o4 := o4) h hml fun o3 o4 => (hI _ _).mpr ⟨i + 1, _, o3, o4, by omega, rfl⟩⟩
  · intro ρ hρ
    obtain ⟨i, o2, o3, o4, hi, rfl⟩ := (hI _ _).mp hρ
    have : i = ps.length := by simpa using hi
    subst this
    exact ⟨_, _, _, rfl⟩
  · rintro _ ⟨o2, o3, o4, rfl⟩
    simp [e_move, outsL, hpp, hrp]
end DV
set_option Elab.async false
set_option linter.all false
set_option maxRecDepth 100000
set_option maxHeartbeats 4000000
namespace DV
open PySem PySem.Spec PyProof.Rows L2
/-! ### the least steps: what holds of them -/
def keysS (m : SM) : List Str := m.map (·.1)
theorem look_mem : ∀ {m : SM} {n : Str}, (look m n).isSome = true ↔ n ∈ keysS m
  | [], n => by simp [look, keysS]
  | p :: m, n => by
    have ih := look_mem (m := m) (n := n)
    unfold keysS at ih ⊢
    by_cases h : p.1 = n
    · simp [look, h]
    · simp only [look, if_neg h, ih, List.map_cons, List.mem_cons]
      exact ⟨.inr, fun z => z.resolve_left fun e => h e.symm⟩
theorem keys_put_some : ∀ {m : SM} {n : Str} {v : Int}, (look m n).isSome = true → keysS (putS m n v) = keysS m
  | [], n, v, h => by cases h
  | p :: m, n, v, h => by
    by_cases hp : p.1 = n
    · simp [putS, hp, keysS]
    · simp only [look, if_neg hp] at h
      have ih := keys_put_some (v := v) h
      unfold keysS at ih ⊢
      simp [putS, hp, ih]
theorem keys_put_none {m : SM} {n : Str} {v : Int} (h : look m n = none) : keysS (putS m n v) = keysS m ++ [n] := by
  rw [put_none m n v h]
  unfold keysS
  simp
/-- more names, no greater numbers -/
def LeM (m m' : SM) : Prop := ∀ s u, look m s = some u → ∃ u', look m' s = some u' ∧ u' ≤ u
theorem LeM.refl {m : SM} : LeM m m := fun s u h => ⟨u, h, Int.le_refl _⟩
theorem LeM.trans {a b c : SM} (h : LeM a b) (k : LeM b c) : LeM a c := fun s u hs => by
  obtain ⟨u1, h1, l1⟩ := h s u hs
  obtain ⟨u2, h2, l2⟩ := k s u1 h1
  exact ⟨u2, h2, by omega⟩
theorem LeM.all {m m' : SM} (h : LeM m m') {ss : List Str} (ha : allIn m ss = true) : allIn m' ss = true ∧ sumV m' ss ≤ sumV m ss := by
  unfold allIn sumV at *
  induction ss with
  | nil => exact ⟨rfl, Int.le_refl _⟩
  | cons s ss ih =>
    rw [List.all_cons, Bool.and_eq_true] at ha
    obtain ⟨i1, i2⟩ := ih ha.2
    obtain ⟨u, hu⟩ := Option.isSome_iff_exists.mp ha.1
    obtain ⟨u', hu', hle⟩ := h s u hu
    refine ⟨by rw [List.all_cons, hu', i1]; rfl, ?_⟩
    simp only [List.map_cons, List.sum_cons, hu, hu', Option.getD_some]
    omega
theorem step_cases (m : SM) (r : RL) : stepL m r = m ∧ (allIn m r.2 = true → ∃ v, look m r.1 = some v ∧ v ≤ 1 + sumV m r.2) ∨
    allIn m r.2 = true ∧ stepL m r = putS m r.1 (1 + sumV m r.2) ∧ (look m r.1 = none ∨ ∃ v, look m r.1 = some v ∧ 1 + sumV m r.2 < v) := by
  unfold stepL
  by_cases ha : allIn m r.2 = true
  · rw [if_pos ha]
    cases hl : look m r.1 with
    | none => exact .inr ⟨ha, rfl, .inl rfl⟩
    | some v =>
      by_cases hlt : 1 + sumV m r.2 < v
      · simp only [if_pos hlt]
        exact .inr ⟨ha, trivial, .inr ⟨v, rfl, hlt⟩⟩
      · simp only [if_neg hlt]
        exact .inl ⟨trivial, fun _ => ⟨v, rfl, by omega⟩⟩
  · rw [if_neg ha]
    exact .inl ⟨rfl, fun z => absurd z ha⟩
theorem step_le (m : SM) (r : RL) : LeM m (stepL m r) := by
  rcases step_cases m r with ⟨e, _⟩ | ⟨ha, e, h⟩
  · rw [e]; exact LeM.refl
  · rw [e]
    intro s u hs
    rw [look_put]
    by_cases hn : r.1 = s
    · rw [if_pos hn]
      subst hn
      rcases h with h | ⟨v, h, hlt⟩
      · rw [h] at hs; cases hs
      · rw [h] at hs; cases hs; exact ⟨_, rfl, by omega⟩
    · rw [if_neg hn]; exact ⟨u, hs, Int.le_refl _⟩
/-- each number is what a rule gives, or more -/
def GoodM (R : List RL) (m : SM) : Prop := ∀ n v, look m n = some v → 1 ≤ v ∧ ∃ r ∈ R, r.1 = n ∧ allIn m r.2 = true ∧ 1 + sumV m r.2 ≤ v
theorem sumV_nonneg {R : List RL} {m : SM} (h : GoodM R m) {ss : List Str} : 0 ≤ sumV m ss := by
  unfold sumV
  induction ss with
  | nil => exact Int.le_refl _
  | cons s ss ih =>
    rw [List.map_cons, List.sum_cons]
    cases hl : look m s with
    | none => simp; exact ih
    | some v =>
      have := (h s v hl).1
      simp
      omega
theorem GoodM.step {R : List RL} {m : SM} {r : RL} (h : GoodM R m) (hr : r ∈ R) : GoodM R (stepL m r) := by
  have hle := step_le m r
  rcases step_cases m r with ⟨e, _⟩ | ⟨ha, e, h1⟩
  · rw [e]; exact h
  · intro n v hv
    rw [e, look_put] at hv
    by_cases hn : r.1 = n
    · rw [if_pos hn] at hv
      cases hv
      have h2 := sumV_nonneg h (ss := r.2)
      obtain ⟨a1, a2⟩ := hle.all ha
      exact ⟨by omega, r, hr, hn, a1, by omega⟩
    · rw [if_neg hn] at hv
      obtain ⟨h2, r', hr', e', a, b⟩ := h n v hv
      obtain ⟨a1, a2⟩ := hle.all a
      exact ⟨h2, r', hr', e', a1, by omega⟩
def cB : Nat → Int
  | 0 => 1
  | n + 1 => 1 + 3 * cB n
theorem cB_pos : ∀ n, 1 ≤ cB n
  | 0 => by decide
  | n + 1 => by have := cB_pos n; unfold cB; omega
theorem cB_mono : ∀ {i j : Nat}, i ≤ j → cB i ≤ cB j
  | i, 0, h => by rw [Nat.le_zero.mp h]; exact Int.le_refl _
  | i, j + 1, h => by
    rcases Nat.lt_or_eq_of_le h with z | z
    · have := cB_mono (i := i) (j := j) (by omega)
      have h2 := cB_pos j
      show _ ≤ 1 + 3 * cB j
      omega
    · rw [z]; exact Int.le_refl _
/-- the bad names in the order in which they came -/
def badK (bad : List Str) (m : SM) : List Str := (keysS m).filter fun n => decide (n ∈ bad)
section
variable {R : List RL} {ns bad : List Str}
/-- what a rule asks for the i-th bad name -/
def SlotB (ns bad β : List Str) (i : Nat) (ss : List Str) : Prop := ∀ s ∈ ss, s ∈ ns ∧ (s ∈ bad → s ∈ β.take i)
/-- behind t passes -/
structure JB (ns bad : List Str) (t : Nat) (m : SM) : Prop where
  g : 1 ≤ t → ∀ n ∈ ns, n ∉ bad → ∃ v, look m n = some v ∧ v ≤ 1
  b : ∀ i n, i + 2 ≤ t → (badK bad m)[i]? = some n → ∃ v, look m n = some v ∧ v ≤ cB (i + 1)
theorem sum_bound {m : SM} {c : Int} : ∀ {ss : List Str}, (∀ s ∈ ss, ∃ v, look m s = some v ∧ v ≤ c) → allIn m ss = true ∧ sumV m ss ≤ ss.length * c
  | [], _ => ⟨rfl, by simp [sumV]⟩
  | s :: ss, h => by
    obtain ⟨v, hv, hc⟩ := h s List.mem_cons_self
    obtain ⟨i1, i2⟩ := sum_bound (ss := ss) fun s hs => h s (List.mem_cons_of_mem _ hs)
    unfold allIn sumV at *
    refine ⟨by rw [List.all_cons, hv, i1]; rfl, ?_⟩
    rw [List.map_cons, List.sum_cons, hv, List.length_cons]
    simp only [Option.getD_some]
    rw [Int.natCast_succ, Int.add_mul, Int.one_mul]
    omega
theorem JB.calc {t i : Nat} {m : SM} (h : JB ns bad t m) (hi : i + 1 ≤ t) {ss : List Str} (hs : SlotB ns bad (badK bad m) i ss) (hl : ss.length ≤ 3) : allIn m ss = true ∧ 1 + sumV m ss ≤ cB (i + 1) := by
  obtain ⟨a, b⟩ := sum_bound (m := m) (c := cB i) (ss := ss) fun s hss => by
    obtain ⟨h1, h2⟩ := hs s hss
    by_cases hb : s ∈ bad
    · obtain ⟨j, hj, e⟩ := List.mem_take_iff_getElem.mp (h2 hb)
      obtain ⟨v, hv, hc⟩ := h.b j s (by omega) (by rw [List.getElem?_eq_getElem (by omega), e])
      exact ⟨v, hv, Int.le_trans hc (cB_mono (by omega))⟩
    · obtain ⟨v, hv, hc⟩ := h.g (by omega) s h1 hb
      exact ⟨v, hv, Int.le_trans hc (cB_pos i)⟩
  refine ⟨a, ?_⟩
  have h3 : (ss.length : Int) * cB i ≤ 3 * cB i := Int.mul_le_mul_of_nonneg_right (by omega) (by have := cB_pos i; omega)
  show _ ≤ 1 + 3 * cB i
  omega
/-- within pass t + 1, the rules done behind it -/
structure PB (R : List RL) (ns bad : List Str) (t : Nat) (done : List RL) (m : SM) : Prop where
  gm : GoodM R m
  nd : (keysS m).Nodup
  sb : ∀ n ∈ keysS m, n ∈ ns
  jb : JB ns bad t m
  or : ∀ i n, (badK bad m)[i]? = some n → ∃ r ∈ R, r.1 = n ∧ SlotB ns bad (badK bad m) i r.2
  e1 : ∀ r ∈ done, r.2 = [] → ∃ v, look m r.1 = some v ∧ v ≤ 1
  e2 : ∀ i n, i + 1 = t → (badK bad m)[i]? = some n → ∀ r ∈ done, r.1 = n → SlotB ns bad (badK bad m) i r.2 → ∃ v, look m n = some v ∧ v ≤ cB (i + 1)
theorem slotB_app {β : List Str} {n : Str} {i : Nat} {ss : List Str} (hi : i ≤ β.length) : SlotB ns bad (β ++ [n]) i ss ↔ SlotB ns bad β i ss := by
  unfold SlotB
  rw [List.take_append_of_le_length hi]
theorem PB.step {t : Nat} {done : List RL} {m : SM} {r : RL} (hR : ∀ r ∈ R, r.1 ∈ ns ∧ r.2.length ≤ 3) (hr : r ∈ R) (h : PB R ns bad t done m) : PB R ns bad t (done ++ [r]) (stepL m r) := by
  have hgm := h.gm.step hr
  have hle := step_le m r
  have hrn := hR r hr
  -- what was bounded stays so
  have up : ∀ {n : Str} {c : Int}, (∃ v, look m n = some v ∧ v ≤ c) → ∃ v, look (stepL m r) n = some v ∧ v ≤ c := fun ⟨v, hv, hc⟩ => by
    obtain ⟨u, hu, hul⟩ := hle _ _ hv
    exact ⟨u, hu, by omega⟩
  -- the rule itself
  have own : ∀ {c : Int}, allIn m r.2 = true → 1 + sumV m r.2 ≤ c → ∃ v, look (stepL m r) r.1 = some v ∧ v ≤ c := fun {c} ha hc => by
    rcases step_cases m r with ⟨e, h1⟩ | ⟨_, e, _⟩
    · obtain ⟨v, hv, hvl⟩ := h1 ha
      rw [e]
      exact ⟨v, hv, by omega⟩
    · rw [e, look_put, if_pos rfl]
      exact ⟨_, rfl, hc⟩
  have ee1 : ∀ r' ∈ done ++ [r], r'.2 = [] → ∃ v, look (stepL m r) r'.1 = some v ∧ v ≤ 1 := fun r' hr' he => by
    rcases List.mem_append.mp hr' with z | z
    · exact up (h.e1 r' z he)
    · rw [List.mem_singleton.mp z] at he ⊢
      exact own (by rw [he]; rfl) (by rw [he]; show 1 + 0 ≤ (1 : Int); decide)
  -- the keys
  have keys : keysS (stepL m r) = keysS m ∨ look m r.1 = none ∧ allIn m r.2 = true ∧ keysS (stepL m r) = keysS m ++ [r.1] ∧ look (stepL m r) r.1 = some (1 + sumV m r.2) := by
    rcases step_cases m r with ⟨e, _⟩ | ⟨ha, e, h1⟩
    · rw [e]; exact .inl rfl
    · rcases h1 with h1 | ⟨v, h1, _⟩
      · rw [e]; exact .inr ⟨h1, ha, keys_put_none h1, by rw [look_put, if_pos rfl]⟩
      · rw [e]; exact .inl (keys_put_some (by rw [h1]; rfl))
  rcases keys with hk | ⟨hnone, ha, hk, hlk⟩
  · have hb : badK bad (stepL m r) = badK bad m := by unfold badK; rw [hk]
    refine ⟨hgm, by rw [hk]; exact h.nd, by rw [hk]; exact h.sb, ⟨fun ht n hn hnb => up (h.jb.g ht n hn hnb), fun i n hi hg => ?_⟩, by rw [hb]; exact h.or, ee1, fun i n hi hg r' hr' he hsl => ?_⟩
    · rw [hb] at hg
      exact up (h.jb.b i n hi hg)
    · rw [hb] at hg hsl
      rcases List.mem_append.mp hr' with z | z
      · exact up (h.e2 i n hi hg r' z he hsl)
      · rw [List.mem_singleton.mp z] at he hsl
        obtain ⟨a, b⟩ := h.jb.calc (by omega) hsl hrn.2
        rw [← he]
        exact own a b
  · have hnk : r.1 ∉ keysS m := fun z => by
      have := look_mem.mpr z
      rw [hnone] at this
      cases this
    have hnd : (keysS (stepL m r)).Nodup := by
      rw [hk]
      exact List.nodup_append.mpr ⟨h.nd, by simp, fun a ha b hb => by rw [List.mem_singleton.mp hb]; exact fun e => hnk (e ▸ ha)⟩
    have hsb : ∀ n ∈ keysS (stepL m r), n ∈ ns := fun n hn => by
      rw [hk] at hn
      rcases List.mem_append.mp hn with z | z
      · exact h.sb n z
      · rw [List.mem_singleton.mp z]; exact hrn.1
    have slots : SlotB ns bad (badK bad m) (badK bad m).length r.2 := fun s hs => by
      have hin := look_mem.mp (List.all_eq_true.mp ha s hs)
      refine ⟨h.sb s hin, fun hb => ?_⟩
      rw [List.take_length]
      exact List.mem_filter.mpr ⟨hin, decide_eq_true hb⟩
    by_cases hbad : r.1 ∈ bad
    · have hb : badK bad (stepL m r) = badK bad m ++ [r.1] := by
        unfold badK
        rw [hk, List.filter_append]
        simp [hbad]
      have atI : ∀ {i n}, (badK bad (stepL m r))[i]? = some n → (badK bad m)[i]? = some n ∧ i < (badK bad m).length ∨ i = (badK bad m).length ∧ n = r.1 := fun {i n} hg => by
        rw [hb] at hg
        by_cases hi : i < (badK bad m).length
        · rw [List.getElem?_append_left hi] at hg
          exact .inl ⟨hg, hi⟩
        · rw [List.getElem?_append_right (by omega)] at hg
          obtain ⟨hlt, _⟩ := List.getElem?_eq_some_iff.mp hg
          simp at hlt
          have : i = (badK bad m).length := by omega
          subst this
          simp at hg
          exact .inr ⟨rfl, hg.symm⟩
      refine ⟨hgm, hnd, hsb, ⟨fun ht n hn hnb => up (h.jb.g ht n hn hnb), fun i n hi hg => ?_⟩, fun i n hg => ?_, ee1, fun i n hi hg r' hr' he hsl => ?_⟩
      · rcases atI hg with ⟨hg, _⟩ | ⟨rfl, rfl⟩
        · exact up (h.jb.b i n hi hg)
        · exact ⟨_, hlk, (h.jb.calc (by omega) slots hrn.2).2⟩
      · rcases atI hg with ⟨hg, hlt⟩ | ⟨rfl, rfl⟩
        · obtain ⟨r', hr', e', hs'⟩ := h.or i n hg
          exact ⟨r', hr', e', by rw [hb]; exact (slotB_app (by omega)).mpr hs'⟩
        · exact ⟨r, hr, rfl, by rw [hb]; exact (slotB_app (Nat.le_refl _)).mpr slots⟩
      · rcases atI hg with ⟨hg, hlt⟩ | ⟨rfl, rfl⟩
        · rw [hb, slotB_app (by omega)] at hsl
          rcases List.mem_append.mp hr' with z | z
          · exact up (h.e2 i n hi hg r' z he hsl)
          · rw [List.mem_singleton.mp z] at he hsl
            obtain ⟨a, b⟩ := h.jb.calc (by omega) hsl hrn.2
            rw [← he]
            exact own a b
        · exact ⟨_, hlk, (h.jb.calc (by omega) slots hrn.2).2⟩
    · have hb : badK bad (stepL m r) = badK bad m := by
        unfold badK
        rw [hk, List.filter_append]
        simp [hbad]
      refine ⟨hgm, hnd, hsb, ⟨fun ht n hn hnb => up (h.jb.g ht n hn hnb), fun i n hi hg => ?_⟩, by rw [hb]; exact h.or, ee1, fun i n hi hg r' hr' he hsl => ?_⟩
      · rw [hb] at hg
        exact up (h.jb.b i n hi hg)
      · rw [hb] at hg hsl
        rcases List.mem_append.mp hr' with z | z
        · exact up (h.e2 i n hi hg r' z he hsl)
        · rw [List.mem_singleton.mp z] at he hsl
          obtain ⟨a, b⟩ := h.jb.calc (by omega) hsl hrn.2
          rw [← he]
          exact own a b
/-- between the passes -/
structure QB (R : List RL) (ns bad : List Str) (t : Nat) (m : SM) : Prop where
  gm : GoodM R m
  nd : (keysS m).Nodup
  sb : ∀ n ∈ keysS m, n ∈ ns
  jb : JB ns bad t m
  or : ∀ i n, (badK bad m)[i]? = some n → ∃ r ∈ R, r.1 = n ∧ SlotB ns bad (badK bad m) i r.2
theorem PB.steps {t : Nat} (hR : ∀ r ∈ R, r.1 ∈ ns ∧ r.2.length ≤ 3) : ∀ {rest done : List RL} {m : SM}, (∀ r ∈ rest, r ∈ R) → PB R ns bad t done m → PB R ns bad t (done ++ rest) (passL rest m)
  | [], done, m, _, h => by rw [List.append_nil]; exact h
  | r :: rest, done, m, hs, h => by
    have h1 := h.step hR (hs r List.mem_cons_self)
    have h2 := PB.steps hR (rest := rest) (fun x hx => hs x (List.mem_cons_of_mem _ hx)) h1
    rw [List.append_assoc] at h2
    exact h2
theorem QB.pass {t : Nat} {m : SM} (hR : ∀ r ∈ R, r.1 ∈ ns ∧ r.2.length ≤ 3) (hG : ∀ n ∈ ns, n ∉ bad → (n, []) ∈ R) (h : QB R ns bad t m) : QB R ns bad (t + 1) (passL R m) := by
  have h1 := PB.steps (t := t) (rest := R) (done := []) hR (fun _ z => z) ⟨h.gm, h.nd, h.sb, h.jb, h.or, (fun _ z => nomatch z), fun _ _ _ _ _ z => nomatch z⟩
  rw [List.nil_append] at h1
  refine ⟨h1.gm, h1.nd, h1.sb, ⟨fun _ n hn hb => h1.e1 (n, []) (hG n hn hb) rfl, fun i n hi hg => ?_⟩, h1.or⟩
  by_cases hi2 : i + 2 ≤ t
  · exact h1.jb.b i n hi2 hg
  · obtain ⟨r, hr, e, hs⟩ := h1.or i n hg
    exact h1.e2 i n (by omega) hg r hr e hs
theorem QB.all {t : Nat} (hR : ∀ r ∈ R, r.1 ∈ ns ∧ r.2.length ≤ 3) (hG : ∀ n ∈ ns, n ∉ bad → (n, []) ∈ R) (h : QB R ns bad t []) : ∀ k, QB R ns bad (t + k) (leastL R k)
  | 0 => h
  | k + 1 => (QB.all hR hG h k).pass hR hG
theorem nodup_le : ∀ {l l' : List Str}, l.Nodup → (∀ x ∈ l, x ∈ l') → l.length ≤ l'.length
  | [], l', _, _ => Nat.zero_le _
  | a :: l, l', hn, hs => by
    have ha := hs a List.mem_cons_self
    rw [List.nodup_cons] at hn
    have h1 := nodup_le (l := l) (l' := l'.erase a) hn.2 fun x hx => (List.mem_erase_of_ne (fun e => hn.1 (by rw [← e]; exact hx))).mpr (hs x (List.mem_cons_of_mem _ hx))
    rw [List.length_erase_of_mem ha] at h1
    have : 0 < l'.length := List.length_pos_of_mem ha
    rw [List.length_cons]
    omega
theorem QB.bound {t : Nat} {m : SM} (h : QB R ns bad t m) (ht : 1 ≤ t) (hb : bad.length ≤ 3) (hl : (badK bad m).length + 1 ≤ t) {n : Str} {v : Int} (hv : look m n = some v) : v ≤ 40 := by
  have hk := look_mem.mp (show (look m n).isSome = true by rw [hv]; rfl)
  have hnd : (badK bad m).Nodup := h.nd.filter _
  have hlen : (badK bad m).length ≤ bad.length := nodup_le hnd fun x hx => of_decide_eq_true (List.mem_filter.mp hx).2
  by_cases hn : n ∈ bad
  · obtain ⟨i, hi, e⟩ := List.mem_iff_getElem.mp (show n ∈ badK bad m from List.mem_filter.mpr ⟨hk, decide_eq_true hn⟩)
    obtain ⟨u, hu, hc⟩ := h.jb.b i n (by omega) (by rw [List.getElem?_eq_getElem hi, e])
    rw [hv] at hu
    cases hu
    have : cB (i + 1) ≤ cB 3 := cB_mono (by omega)
    have h40 : cB 3 = 40 := by decide
    omega
  · obtain ⟨u, hu, hc⟩ := h.jb.g ht n (h.sb n hk) hn
    rw [hv] at hu
    cases hu
    omega
theorem least_ok (hR : ∀ r ∈ R, r.1 ∈ ns ∧ r.2.length ≤ 3) (hG : ∀ n ∈ ns, n ∉ bad → (n, []) ∈ R) (hb : bad.length ≤ 3) (hp : 0 < ns.length) :
    GoodM R (leastL R ns.length) ∧ ∀ n v, look (leastL R ns.length) n = some v → v ≤ 40 := by
  have g0 : GoodM R [] := fun n v h => nomatch h
  by_cases hg : ∃ n ∈ ns, n ∉ bad
  · obtain ⟨g, hg1, hg2⟩ := hg
    have h := QB.all (t := 0) hR hG ⟨g0, List.nodup_nil, (fun _ z => nomatch z), ⟨fun z => absurd z (by omega), fun _ _ z => absurd z (by omega)⟩, fun _ _ z => nomatch z⟩ ns.length
    rw [Nat.zero_add] at h
    refine ⟨h.gm, fun n v hv => h.bound (by omega) hb ?_ hv⟩
    have hnd : (badK bad (leastL R ns.length)).Nodup := h.nd.filter _
    exact nodup_le (l := g :: badK bad (leastL R ns.length)) (l' := ns) (List.nodup_cons.mpr ⟨fun z => hg2 (of_decide_eq_true (List.mem_filter.mp z).2), hnd⟩) fun x hx => by
      rcases List.mem_cons.mp hx with z | z
      · rw [z]; exact hg1
      · exact h.sb x (List.mem_filter.mp z).1
  · have h := QB.all (t := 1) hR hG ⟨g0, List.nodup_nil, (fun _ z => nomatch z), ⟨fun _ n hn hnb => absurd ⟨n, hn, hnb⟩ hg, fun _ _ z => absurd z (by omega)⟩, fun _ _ z => nomatch z⟩ ns.length
    refine ⟨h.gm, fun n v hv => h.bound (by omega) hb ?_ hv⟩
    have hnd : (badK bad (leastL R ns.length)).Nodup := h.nd.filter _
    have := nodup_le hnd fun x hx => h.sb x (List.mem_filter.mp hx).1
    omega
end
end DV
set_option Elab.async false
set_option linter.all false
set_option maxRecDepth 100000
set_option maxHeartbeats 4000000
namespace DV
open PySem PySem.Spec PyProof.Rows L2
noncomputable def BUa : Rho → Res (D × Rho) := (gOp1 oAll (gComp (gItemsV 12) [15] (bName 15) gYes (gOp2 (oIn false) (gCp (gOp2 oGet (gVar 15) (gC (.int 0)))) (gVar 4))))
noncomputable def BUs : Rho → Res (D × Rho) := (gOp1 oSum (gComp (gItemsV 12) [15] (bName 15) gYes (gCp (gOp2 oGet (gVar 4) (gCp (gOp2 oGet (gVar 15) (gC (.int 0))))))))
noncomputable def BUr : Rho → Res (Fl × Rho) := (gSeq (gSet 12 (gCp (gOp2 oGet (gOp2 oGet (gOp2 oGet (gVar 1) (gC (.int 2))) (gCp (gVar 11))) (gC (.int 3)))))
    (gIfS (gTest BUa) (gSeq (gSet 14 (gOp2 (oInt2 fSub) (gOp2 oAdd (gC (.int 1)) BUs) (gOp2 oGet (gVar 4) (gCp (gVar 9)))))
    (gIfS (gTest (gOp2 (oCmp fLe) (gCp (gVar 14)) (gVar 5))) (gDrop (gMut 10 oAppend (gCons (gTup (gCons (gMove 14) (gCons (gMove 11) gNil))) gNil))) gNext)) gNext))
noncomputable def BUw : Rho → Res (Fl × Rho) := (gDrop (gMut 7 oAppend (gCons (gCp (gOp2 oGet (gOp2 oGet (gVar 12) (gOp2 (oInt2 fSub) (gOp2 (oInt2 fSub) (gOp1 oLen (gVar 12)) (gC (.int 1))) (gVar 13))) (gC (.int 0)))) gNil)))
noncomputable def BUp : Rho → Res (Fl × Rho) := (gSeq (gAsg (bTup 2 (bCons (bName 14) (bCons (bName 11) bNil))) (gCall QpickF (lLent 0 (lLent 10 lNil))))
    (gSeq (gAugI 5 (fun a b => a - b) (gVar 14))
    (gSeq (gSet 12 (gCp (gOp2 oGet (gOp2 oGet (gOp2 oGet (gVar 1) (gC (.int 2))) (gCp (gVar 11))) (gC (.int 3)))))
    (gSeq (gDrop (gMut 6 oAppend (gCons (gTup (gCons (gMove 11) (gCons (gOp1 oLen (gVar 12)) gNil))) gNil)))
    (gFor (gRange1 (gOp1 oLen (gVar 12))) (bName 13) BUw)))))
noncomputable def BUf : Rho → Res (Fl × Rho) := (gFor (gItems (gCall QrulesF (lLent 1 (lLent 9 lNil)))) (bName 11) BUr)
noncomputable def BUb : Rho → Res (Fl × Rho) := (gSeq (gIfS (gTest (gOp2 (oEq false) (gOp1 oLen (gVar 7)) (gC (.int 0)))) (gRet (gCall QjoinedF (lLent 6 lNil))) gNext)
    (gSeq (gSet 9 (gMut 7 oPop gNil))
    (gSeq (gSet 10 (gLst gNil))
    (gSeq BUf
    BUp))))
noncomputable def BU1 : Rho → Res (Fl × Rho) := (gSeq (gSet 5 (gOp2 oMax2 (gC (.int 0)) (gOp2 (oInt2 fSub) (gCp (gVar 3)) (gOp2 oGet (gVar 4) (gCp (gVar 2))))))
    (gSeq (gSet 6 (gLst gNil))
    (gSeq (gSet 7 (gLst (gCons (gCp (gVar 2)) gNil)))
    (gSeq (gFor (gRange1 (gC (.int 4000))) (bName 8) BUb)
    (gRet (gC .non))))))
theorem QbuildF_eq : QbuildF = gFn 4 16 [0, 1, 2, 3] (gSeq (gSet 4 (gCall QleastF (lLent 1 lNil)))
    (gSeq (gIfS (gTest (gOp2 (oIn true) (gCp (gVar 2)) (gVar 4))) (gRet (gC .non)) gNext)
    BU1)) := rfl
abbrev BR (d b : D) (nm : Str) (most : Int) (m : SM) (spare : Int) (rows : List (Nat × Nat)) (ws : List Str) (o8 o9 o10 o11 o12 o13 o14 : Option D) : Rho :=
  [some d, some b, some (.str nm), some (.int most), some (dicS m), some (.int spare), some (.lst (rowsD rows)), some (.lst (ws.map D.str).reverse), o8, o9, o10, o11, o12, o13, o14, none]
section
variable {top : Str} {ps rs sl : List D} {bad : List Str} {d b : D} {nm due : Str} {most spare v : Int} {m : SM} {rows : List (Nat × Nat)} {ws : List Str} {o8 o9 o10 o11 o12 o13 o14 : Option D}
theorem bua_spec (hs : ∀ s ∈ sl, SlotA s) (hl : sl.length ≤ 3) :
    Sat (BUa (BR d b nm most m spare rows ws o8 o9 o10 o11 (some (.tup sl)) o13 o14)) fun p => p = (.bl (allIn m (sl.map nameOf)), BR d b nm most m spare rows ws o8 o9 o10 o11 (some (.tup sl)) o13 o14) := by
  have e3 : sizeLine = 16777216 := by rw [sizeLine_eq]
  have hsp := slots_ok hs
  have hz : sl.length ≤ sizeLine := by omega
  unfold BUa BR
  simp [hsp, hz, wipeR]
  refine (comp_map (fun ρ => ρ = BR d b nm most m spare rows ws o8 o9 o10 o11 (some (.tup sl)) o13 o14) (fun x y => y = .bl (look m (nameOf x)).isSome) (by simp) (fun _ _ => rfl) fun x hx ρ hr => ?_).mono ?_
  · subst hr
    obtain ⟨x1, y1, rfl, hy1⟩ := hs x hx
    refine ⟨_, rfl, ?_⟩
    simp [hy1, wipeR]
    rfl
  · rintro ⟨ys, ρ⟩ ⟨h1, e'⟩
    simp only at h1 e'
    subst e'
    have e' := each_eq (f := fun x => .bl (look m (nameOf x)).isSome) h1
    subst e'
    have ha : oAll (.lst (sl.map fun x => D.bl (look m (nameOf x)).isSome)) = some (.bl (allIn m (sl.map nameOf))) := by
      unfold oAll allIn
      simp only [bools_map]
      rw [List.all_map]
      simp
      rfl
    simp [backR, unR, ha]
theorem bus_spec (hs : ∀ s ∈ sl, SlotA s) (hl : sl.length ≤ 3) (ha : allIn m (sl.map nameOf) = true) :
    Sat (BUs (BR d b nm most m spare rows ws o8 o9 o10 o11 (some (.tup sl)) o13 o14)) fun p => p = (.int (sumV m (sl.map nameOf)), BR d b nm most m spare rows ws o8 o9 o10 o11 (some (.tup sl)) o13 o14) := by
  have e3 : sizeLine = 16777216 := by rw [sizeLine_eq]
  have hsp := slots_ok hs
  have hz : sl.length ≤ sizeLine := by omega
  unfold BUs BR
  simp [hsp, hz, wipeR]
  refine (comp_map (fun ρ => ρ = BR d b nm most m spare rows ws o8 o9 o10 o11 (some (.tup sl)) o13 o14) (fun x y => y = .int ((look m (nameOf x)).getD 0)) (by simp) (fun _ _ => rfl) fun x hx ρ hr => ?_).mono ?_
  · subst hr
    have hin := List.all_eq_true.mp ha (nameOf x) (List.mem_map_of_mem hx)
    obtain ⟨v, hv⟩ := Option.isSome_iff_exists.mp hin
    rw [hv]
    obtain ⟨x1, y1, rfl, hy1⟩ := hs x hx
    have hv2 : look m x1 = some v := hv
    refine ⟨_, rfl, ?_⟩
    simp [hy1, wipeR, hv2]
  · rintro ⟨ys, ρ⟩ ⟨h1, e'⟩
    simp only at h1 e'
    subst e'
    have e' := each_eq (f := fun x => .int ((look m (nameOf x)).getD 0)) h1
    subst e'
    have hsum : oSum (.lst (sl.map fun x => D.int ((look m (nameOf x)).getD 0))) = some (.int (sumV m (sl.map nameOf))) := by
      have e5 : (sl.map fun x => D.int ((look m (nameOf x)).getD 0)) = dI ((sl.map nameOf).map fun s => (look m s).getD 0) := by
        unfold dI
        rw [List.map_map, List.map_map]
        rfl
      rw [e5]
      unfold oSum sumV
      simp only [ints_dI]
      rfl
    simp [backR, unR, hsum]
/-- the open rules -/
def moreOf (rs : List D) (m : SM) (v : Int) (k : Nat) : Int := 1 + sumV m (rSlots rs k) - v
def isOpen (rs : List D) (m : SM) (v spare : Int) (k : Nat) : Bool := allIn m (rSlots rs k) && decide (moreOf rs m v k ≤ spare)
def openD (rs : List D) (m : SM) (v : Int) (l : List Nat) : List D := l.map fun k => D.tup [.int (moreOf rs m v k), .int (k : Nat)]
theorem openD_pure {l : List Nat} : D.pures (openD rs m v l) = true := pures_all.mpr fun d hd => by
  obtain ⟨c, _, rfl⟩ := List.mem_map.mp hd
  rfl
theorem bur_spec {k : Nat} {l : List Nat} (h : BookP ps rs bad) (hk : k < rs.length) (hv : look m due = some v) (hl : l.length ≤ 450) {Q : Fl × Rho → Prop}
    (hQ : ∀ o12 o14, Q (.next, BR d (bookOf top ps rs) nm most m spare rows ws o8 (some (.str due)) (some (.lst (openD rs m v (if isOpen rs m v spare k = true then l ++ [k] else l)))) (some (.int (k : Nat))) o12 o13 o14)) :
    Sat (BUr (BR d (bookOf top ps rs) nm most m spare rows ws o8 (some (.str due)) (some (.lst (openD rs m v l))) (some (.int (k : Nat))) o12 o13 o14)) Q := by
  have e3 : sizeLine = 16777216 := by rw [sizeLine_eq]
  have hpp := h.pp
  have hrp := h.rp
  obtain ⟨mk, t, sl, e, ht, hs, hn⟩ := rule_at hk h.ra
  have hsp := slots_ok hs
  have hsl : sl.length ≤ 3 := by
    have h2 : (rSlots rs k).length ≤ 3 := by
      unfold rSlots
      rw [List.getD_eq_getElem?_getD, List.getElem?_eq_getElem hk]
      exact h.rl _ (List.getElem_mem hk)
    rw [← hn, List.length_map] at h2
    exact h2
  have hz : (openD rs m v l).length < sizeLine := by unfold openD; rw [List.length_map]; omega
  unfold BUr
  simp [hpp, hrp, e, ht, hsp]
  refine (bua_spec hs hsl).mono ?_
  rintro _ rfl
  unfold isOpen at hQ
  by_cases ha : allIn m (rSlots rs k) = true
  · rw [ha] at hQ
    have ha2 := ha
    rw [← hn] at ha2
    simp [ha2]
    refine (bus_spec hs hsl ha2).mono ?_
    rintro _ rfl
    rw [hn]
    by_cases hle : moreOf rs m v k ≤ spare
    · have hle2 : 1 + sumV m (rSlots rs k) - v ≤ spare := hle
      simp [hv, fSub, fLe, hle2, e_mut, e_move, hz]
      simp [hle, openD] at hQ
      exact hQ _ _
    · have hle2 : ¬ 1 + sumV m (rSlots rs k) - v ≤ spare := hle
      simp [hv, fSub, fLe, hle2]
      simp [hle] at hQ
      exact hQ _ _
  · have ha2 : ¬ allIn m (sl.map nameOf) = true := by rw [hn]; exact ha
    simp [ha2]
    simp [ha] at hQ
    exact hQ _ _
theorem buf_spec (h : BookP ps rs bad) (hv : look m due = some v) {Q : Fl × Rho → Prop}
    (hQ : ∀ o11 o12 o14, Q (.next, BR d (bookOf top ps rs) nm most m spare rows ws o8 (some (.str due)) (some (.lst (openD rs m v ((ixs rs due).filter (isOpen rs m v spare))))) o11 o12 o13 o14)) :
    Sat (BUf (BR d (bookOf top ps rs) nm most m spare rows ws o8 (some (.str due)) (some (.lst [])) o11 o12 o13 o14)) Q := by
  have hpp := h.pp
  have hrp := h.rp
  have hrl := h.r1
  have hil := ixs_len (rs := rs) (n := due)
  unfold BUf
  simp [e_llent]
  refine sat_call (rules_spec (top := top) (n := due) h) (by simp [takeArgs, hpp, hrp]) ?_
  rintro r os e
  cases e
  simp [putArgs, leftR, takeArgs, hpp, hrp, itemsK_ok (show (D.lst (dNs (ixs rs due))).items = some (dNs (ixs rs due)) from rfl) dNs_pure]
  obtain ⟨I, hI⟩ : ∃ I : List D → Rho → Prop, ∀ rest ρ, I rest ρ ↔ ∃ done l o11 o12 o14, done ++ l = ixs rs due ∧ rest = dNs l ∧ ρ = BR d (bookOf top ps rs) nm most m spare rows ws o8 (some (.str due)) (some (.lst (openD rs m v (done.filter (isOpen rs m v spare))))) o11 o12 o13 o14 := ⟨_, fun _ _ => Iff.rfl⟩
  refine (forL_inv (Q := fun p => ∃ o11 o12 o14, p = (.next, BR d (bookOf top ps rs) nm most m spare rows ws o8 (some (.str due)) (some (.lst (openD rs m v ((ixs rs due).filter (isOpen rs m v spare))))) o11 o12 o13 o14)) I (fun _ _ _ => rfl) ?_ ?_ ((hI _ _).mpr ⟨[], ixs rs due, o11, o12, o14, rfl, rfl, rfl⟩)).mono ?_
  · intro x rest ρ hρ
    obtain ⟨done, l, o11, o12, o14, hl, hr, rfl⟩ := (hI _ _).mp hρ
    cases l with
    | nil => cases hr
    | cons k l =>
      cases hr
      have hk : k ∈ ixs rs due := by rw [← hl]; exact List.mem_append_right _ List.mem_cons_self
      obtain ⟨hk1, hk2⟩ := mem_ixs.mp hk
      have hdl : (done.filter (isOpen rs m v spare)).length ≤ 450 := by
        have h1 := List.length_filter_le (isOpen rs m v spare) done
        have h2 := congrArg List.length hl
        rw [List.length_append] at h2
        omega
      refine ⟨_, rfl, bur_spec h hk1 hv hdl fun o12 o14 => (hI _ _).mpr ⟨done ++ [k], l, some (.int (k : Nat)), o12, o14, by rw [← hl, List.append_assoc]; rfl, rfl, ?_⟩⟩
      rw [List.filter_append]
      by_cases ho : isOpen rs m v spare k = true <;> simp [ho]
  · intro ρ hρ
    obtain ⟨done, l, o11, o12, o14, hl, hr, rfl⟩ := (hI _ _).mp hρ
    cases l with
    | nil =>
      rw [List.append_nil] at hl
      subst hl
      exact ⟨_, _, _, rfl⟩
    | cons k l => cases hr
  · rintro _ ⟨o11, o12, o14, rfl⟩
    simp
    exact hQ _ _ _
end
end DV
set_option Elab.async false
set_option linter.all false
set_option maxRecDepth 100000
set_option maxHeartbeats 4000000
namespace DV
open PySem PySem.Spec PyProof.Rows L2
section
variable {top : Str} {ps rs sl : List D} {bad : List Str} {d b : D} {nm due : Str} {most spare v : Int} {m : SM} {rows : List (Nat × Nat)} {ws : List Str} {o8 o9 o10 o11 o12 o13 o14 : Option D}
theorem sumV_app {ss us : List Str} : sumV m (ss ++ us) = sumV m ss + sumV m us := by
  unfold sumV
  rw [List.map_append, List.sum_append]
theorem allIn_app {ss us : List Str} : allIn m (ss ++ us) = (allIn m ss && allIn m us) := by
  unfold allIn
  rw [List.all_append]
theorem bup_spec {l : List Nat} (h : BookP ps rs bad) (hd : IsD d) (h0 : 0 < l.length) (hl : l.length ≤ 450) (hlt : ∀ k ∈ l, k < rs.length) (hrl : rows.length ≤ 1000) (hwl : ws.length ≤ 1000) {Q : Fl × Rho → Prop}
    (hQ : ∀ d' k o11 o12 o13 o14, IsD d' → k ∈ l → Q (.next, BR d' (bookOf top ps rs) nm most m (spare - moreOf rs m v k) (rows ++ [(k, (rSlots rs k).length)]) (rSlots rs k ++ ws) o8 o9 (some (.lst (openD rs m v l))) o11 o12 o13 o14)) :
    Sat (BUp (BR d (bookOf top ps rs) nm most m spare rows ws o8 o9 (some (.lst (openD rs m v l))) o11 o12 o13 o14)) Q := by
  have e3 : sizeLine = 16777216 := by rw [sizeLine_eq]
  have hpp := h.pp
  have hrp := h.rp
  have hol : (openD rs m v l).length = l.length := by unfold openD; rw [List.length_map]
  unfold BUp
  simp [e_llent]
  refine sat_call (pick_spec (row := .lst (openD rs m v l)) hd ⟨.inl rfl, openD_pure⟩ (by omega) (by omega)) (by simp [takeArgs, isD_pure hd]) ?_
  rintro r os ⟨r', d', e, hr, hd'⟩
  cases e
  obtain ⟨k, hk, rfl⟩ := List.mem_map.mp hr
  have hkl := hlt k hk
  obtain ⟨mk, t, sl, e, ht, hs, hn⟩ := rule_at hkl h.ra
  have hsp := slots_ok hs
  have hsl : sl.length ≤ 3 := by
    have h2 : (rSlots rs k).length ≤ 3 := by
      unfold rSlots
      rw [List.getD_eq_getElem?_getD, List.getElem?_eq_getElem hkl]
      exact h.rl _ (List.getElem_mem hkl)
    rw [← hn, List.length_map] at h2
    exact h2
  have hz : (rowsD rows).length < sizeLine := by unfold rowsD; rw [List.length_map]; omega
  have hrow : rowsD rows ++ [.tup [.int (k : Nat), .int (sl.length : Nat)]] = rowsD (rows ++ [(k, (rSlots rs k).length)]) := by
    unfold rowsD
    rw [← hn]
    simp
  simp [putArgs, leftR, takeArgs, isD_pure hd, e_augI, hpp, hrp, e, ht, hsp, e_mut, e_move, hz, rg1_len (show sl.length ≤ 10000000 by omega), hrow]
  obtain ⟨I, hI⟩ : ∃ I : List D → Rho → Prop, ∀ rest ρ, I rest ρ ↔ ∃ i o13, i ≤ sl.length ∧ rest = (List.range' i (sl.length - i)).map (fun (k : Nat) => D.int (k : Nat)) ∧ ρ = BR d' (bookOf top ps rs) nm most m (spare - moreOf rs m v k) (rows ++ [(k, (rSlots rs k).length)]) ((sl.drop (sl.length - i)).map nameOf ++ ws) o8 o9 (some (.lst (openD rs m v l))) (some (.int (k : Nat))) (some (.tup sl)) o13 (some (.int (moreOf rs m v k))) := ⟨_, fun _ _ => Iff.rfl⟩
  refine forL_inv I (fun _ _ _ => rfl) ?_ ?_ ((hI _ _).mpr ⟨0, o13, Nat.zero_le _, ?_, ?_⟩)
  · intro x rest ρ hρ
    obtain ⟨i, o13, hi, hr, rfl⟩ := (hI _ _).mp hρ
    obtain ⟨j, hj⟩ : ∃ j, sl.length - i = j := ⟨_, rfl⟩
    cases j with
    | zero => rw [hj] at hr; cases hr
    | succ j =>
      rw [hj, List.range'_succ, List.map_cons] at hr
      cases hr
      have hjl : j < sl.length := by omega
      have hg : sl[j]? = some sl[j] := List.getElem?_eq_getElem hjl
      obtain ⟨x1, y1, ex, hy1⟩ := hs sl[j] (List.getElem_mem hjl)
      rw [ex] at hg
      have hx1 : nameOf sl[j] = x1 := by rw [ex]; rfl
      have hidx : atI sl ((sl.length : Int) - 1 - (i : Nat)) = some (.tup [.str x1, y1]) := by
        rw [show ((sl.length : Int) - 1 - (i : Nat)) = (j : Nat) by omega, atI_nat]
        exact hg
      have hz2 : ws.length + (sl.length - (sl.length - i)) < sizeLine := by omega
      rw [hj]
      refine ⟨_, rfl, ?_⟩
      unfold BUw
      simp [fSub, hidx, e_mut]
      rw [if_pos (by omega)]
      simp
      refine (hI _ _).mpr ⟨i + 1, some (.int (i : Nat)), by omega, by rw [show sl.length - (i + 1) = j by omega], ?_⟩
      rw [show sl.length - (i + 1) = j by omega, List.drop_eq_getElem_cons hjl, List.map_cons, hx1]
      simp
  · intro ρ hρ
    obtain ⟨i, o13, hi, hr, rfl⟩ := (hI _ _).mp hρ
    have hi2 : i = sl.length := by
      have := congrArg List.length hr
      simp at this
      omega
    subst hi2
    rw [Nat.sub_self, List.drop_zero, hn]
    exact hQ d' k _ _ _ _ hd' hk
  · unfold rangeD
    rw [Nat.sub_zero, ← List.range_eq_range']
    apply List.map_congr_left
    intro k _
    rw [Int.zero_add]
  · simp
/-- the walk of the build: what is spent, what is left -/
structure BInv (rs : List D) (m : SM) (T spare : Int) (rows : List (Nat × Nat)) (ws : List Str) : Prop where
  s0 : 0 ≤ spare
  wi : allIn m ws = true
  tt : (rows.length : Int) + sumV m ws + spare = T
  bl : ∀ suf, bal ws.length suf → bal 1 (rows ++ suf)
  rl : ∀ p ∈ rows, p.1 < rs.length ∧ p.2 ≤ 3
theorem sumV_ge {R : List RL} (h : GoodM R m) : ∀ {ss : List Str}, allIn m ss = true → (ss.length : Int) ≤ sumV m ss
  | [], _ => Int.le_refl _
  | s :: ss, ha => by
    unfold allIn at ha
    rw [List.all_cons, Bool.and_eq_true] at ha
    obtain ⟨u, hu⟩ := Option.isSome_iff_exists.mp ha.1
    have h1 := (h s u hu).1
    have ih := sumV_ge h (ss := ss) ha.2
    unfold sumV at *
    rw [List.map_cons, List.sum_cons, hu, List.length_cons]
    simp only [Option.getD_some]
    omega
theorem BInv.step {T : Int} {k : Nat} (h : BInv rs m T spare rows (due :: ws)) (hv : look m due = some v) (hk : k < rs.length) (ho : isOpen rs m v spare k = true) (h3 : (rSlots rs k).length ≤ 3) :
    BInv rs m T (spare - moreOf rs m v k) (rows ++ [(k, (rSlots rs k).length)]) (rSlots rs k ++ ws) := by
  unfold isOpen at ho
  rw [Bool.and_eq_true, decide_eq_true_iff] at ho
  have hwi := h.wi
  unfold allIn at hwi
  rw [List.all_cons, Bool.and_eq_true] at hwi
  have ht := h.tt
  have hsc : sumV m (due :: ws) = v + sumV m ws := by unfold sumV; rw [List.map_cons, List.sum_cons, hv]; rfl
  refine ⟨by omega, by rw [allIn_app, ho.1]; exact hwi.2, ?_, fun suf hs => ?_, fun p hp => ?_⟩
  · rw [sumV_app, List.length_append, List.length_singleton]
    unfold moreOf
    omega
  · rw [List.append_assoc]
    refine h.bl _ ⟨Nat.succ_pos _, ?_⟩
    rw [List.length_append] at hs
    rw [List.length_cons, Nat.add_sub_cancel, Nat.add_comm]
    exact hs
  · rcases List.mem_append.mp hp with z | z
    · exact h.rl p z
    · rw [List.mem_singleton.mp z]; exact ⟨hk, h3⟩
theorem open_pos {R : List RL} (hR : R = rs.map ruleOf) (hg : GoodM R m) (hv : look m due = some v) (h0 : 0 ≤ spare) : 0 < ((ixs rs due).filter (isOpen rs m v spare)).length := by
  subst hR
  obtain ⟨_, r, hr, e, ha, hle⟩ := hg due v hv
  obtain ⟨x, hx, rfl⟩ := List.mem_map.mp hr
  obtain ⟨k, hk, ek⟩ := List.mem_iff_getElem.mp hx
  have hgd : rs.getD k .non = x := by rw [List.getD_eq_getElem?_getD, List.getElem?_eq_getElem hk, ek]; rfl
  have hn : rName rs k = due := by unfold rName; rw [hgd]; exact e
  have hs : rSlots rs k = (ruleOf x).2 := by unfold rSlots; rw [hgd]
  refine List.length_pos_of_mem (a := k) (List.mem_filter.mpr ⟨mem_ixs.mpr ⟨hk, hn⟩, ?_⟩)
  unfold isOpen moreOf
  rw [hs, ha, Bool.true_and]
  exact decide_eq_true (by omega)
theorem build_spec {k0 : Nat} (h : BookP ps rs bad) (hd : IsD d) (hm0 : 0 ≤ most) (hm1 : most ≤ 60) {Q : D × List (Option D) → Prop}
    (hQ1 : ∀ d', IsD d' → Q (.non, [some d', some (bookOf top ps rs), some (.str nm), some (.int most)]))
    (hQ2 : ∀ d' t L, IsD d' → TrL rs.length [t] L → L.length ≤ 60 → Q (t, [some d', some (bookOf top ps rs), some (.str nm), some (.int most)])) :
    Sat (QbuildF [d, bookOf top ps rs, .str nm, .int most]) Q := by
  have e3 : sizeLine = 16777216 := by rw [sizeLine_eq]
  have hpp := h.pp
  have hrp := h.rp
  have hrl := h.r1
  obtain ⟨hgm, hle⟩ := least_ok (R := rs.map ruleOf) (ns := ps.map nameOf) (bad := bad) (fun r hr => by
    obtain ⟨x, hx, rfl⟩ := List.mem_map.mp hr
    exact ⟨h.rn x hx, h.rl x hx⟩) (fun n hn hb => by
    obtain ⟨r, hr, e⟩ := h.gd n hn hb
    exact List.mem_map.mpr ⟨r, hr, e⟩) h.bd (by rw [List.length_map]; exact h.p0)
  rw [List.length_map] at hgm hle
  rw [QbuildF_eq, e_fn]
  simp [e_llent]
  refine sat_call (least_spec (top := top) h) (by simp [takeArgs, hpp, hrp]) ?_
  rintro r os e
  cases e
  generalize leastL (rs.map ruleOf) ps.length = m at *
  simp [putArgs, leftR, takeArgs, hpp, hrp]
  cases hl0 : look m nm with
  | none =>
    simp [outsL, isD_pure hd, hpp, hrp]
    exact hQ1 d hd
  | some v0 =>
    have hv0 := (hgm nm v0 hl0).1
    have hv1 := hle nm v0 hl0
    have hmax : ∃ sp : Int, (if most - v0 > 0 then most - v0 else 0) = sp ∧ 0 ≤ sp ∧ v0 + sp ≤ 60 := ⟨_, rfl, by split <;> omega, by split <;> omega⟩
    obtain ⟨sp, hsp, hsp0, hsp1⟩ := hmax
    unfold BU1
    simp [hl0, fSub, rg1_ok]
    have hsp' : (if v0 < most then most - v0 else 0) = sp := by
      rw [← hsp]
      by_cases hc : v0 < most
      · rw [if_pos hc, if_pos (by omega)]
      · rw [if_neg hc, if_neg (by omega)]
    rw [hsp']
    obtain ⟨I, hI⟩ : ∃ I : List D → Rho → Prop, ∀ rest ρ, I rest ρ ↔ ∃ d' spare rows ws o8 o9 o10 o11 o12 o13 o14, IsD d' ∧ BInv rs m (v0 + sp) spare rows ws ∧ rows.length + rest.length = 4000 ∧ ρ = BR d' (bookOf top ps rs) nm most m spare rows ws o8 o9 o10 o11 o12 o13 o14 := ⟨_, fun _ _ => Iff.rfl⟩
    obtain ⟨Q', hQ'⟩ : ∃ Q' : Fl × Rho → Prop, ∀ p, Q' p ↔ ∃ d' t L r, p = (.ret t, some d' :: some (bookOf top ps rs) :: some (.str nm) :: some (.int most) :: r) ∧ IsD d' ∧ TrL rs.length [t] L ∧ L.length ≤ 60 := ⟨_, fun _ => Iff.rfl⟩
    refine (forL_inv (Q := Q') I (fun _ _ _ => rfl) ?_ ?_ ((hI _ _).mpr ⟨d, sp, [], [nm], none, none, none, none, none, none, none, hd, ⟨hsp0, ?_, ?_, fun suf hs => hs, fun _ z => nomatch z⟩, by rw [rangeD_len]; rfl, rfl⟩)).mono ?_
    · intro x rest ρ hρ
      obtain ⟨d', spare, rows, ws, o8, o9, o10, o11, o12, o13, o14, hd', hb, hlen, rfl⟩ := (hI _ _).mp hρ
      have hs0 := hb.s0
      have htt := hb.tt
      have hge := sumV_ge hgm hb.wi
      refine ⟨_, rfl, ?_⟩
      unfold BUb
      cases ws with
      | nil =>
        have hb1 := hb.bl [] rfl
        rw [List.append_nil] at hb1
        simp [e_llent]
        refine sat_call (joined_spec hb1 hb.rl (by omega)) (by simp [takeArgs]) ?_
        rintro r os ⟨t, e, ht⟩
        cases e
        have htp := ht.pures
        simp at htp
        simp [putArgs, leftR, takeArgs]
        exact (hQ' _).mpr ⟨d', r, rows.map (·.1), _, rfl, hd', ht, by rw [List.length_map]; simp [sumV] at htt; omega⟩
      | cons due ws =>
        have hwi := hb.wi
        unfold allIn at hwi
        rw [List.all_cons, Bool.and_eq_true] at hwi
        obtain ⟨v, hv⟩ := Option.isSome_iff_exists.mp hwi.1
        simp
        rw [if_neg (by omega)]
        simp [e_mut, pop_end]
        refine buf_spec h hv fun o11 o12 o14 => ?_
        simp
        have hfl : ((ixs rs due).filter (isOpen rs m v spare)).length ≤ 450 := Nat.le_trans (List.length_filter_le _ _) (Nat.le_trans ixs_len hrl)
        rw [List.length_cons] at hge
        refine bup_spec h hd' (open_pos rfl hgm hv hs0) hfl (fun k hk => (mem_ixs.mp (List.mem_filter.mp hk).1).1) (by omega) (by omega) fun d2 k o11 o12 o13 o14 hd2 hk => ?_
        obtain ⟨hk1, hk2⟩ := List.mem_filter.mp hk
        have hkl := (mem_ixs.mp hk1).1
        have h3 : (rSlots rs k).length ≤ 3 := by
          unfold rSlots
          rw [List.getD_eq_getElem?_getD, List.getElem?_eq_getElem hkl]
          exact h.rl _ (List.getElem_mem hkl)
        refine (hI _ _).mpr ⟨d2, _, _, _, _, _, _, _, _, _, _, hd2, hb.step hv hkl hk2 h3, ?_, rfl⟩
        rw [List.length_append, List.length_singleton]
        rw [List.length_cons] at hlen
        omega
    · intro ρ hρ
      obtain ⟨d', spare, rows, ws, o8, o9, o10, o11, o12, o13, o14, hd', hb, hlen, rfl⟩ := (hI _ _).mp hρ
      have hs0 := hb.s0
      have htt := hb.tt
      have hge := sumV_ge hgm hb.wi
      simp at hlen
      omega
    · unfold allIn
      rw [List.all_cons, hl0]
      rfl
    · unfold sumV
      rw [List.map_cons, hl0]
      simp
    · intro p hp
      obtain ⟨d', t, L, r, rfl, hd', ht, hL⟩ := (hQ' p).mp hp
      simp [outsL, isD_pure hd, hpp, hrp]
      exact hQ2 d' t L hd' ht hL
end
end DV
set_option Elab.async false
set_option linter.all false
set_option maxRecDepth 100000
set_option maxHeartbeats 4000000
namespace DV
open PySem PySem.Spec PyProof.Rows L2
def BuildsOk (N : Nat) (bs : List D) : Prop := ∀ b ∈ bs, ∃ L, TrL N [b] L ∧ L.length ≤ 60
theorem BuildsOk.pure {N : Nat} {bs : List D} (h : BuildsOk N bs) : D.pures bs = true := pures_all.mpr fun d hd => by
  obtain ⟨L, ht, _⟩ := h d hd
  have := ht.pures
  simpa using this
noncomputable def CBi : Rho → Res (Fl × Rho) := (gSeq (gSet 4 (gCall QbuildF (lLent 0 (lLent 1 (lOwn (gOp2 oGet (gCall QpickF (lLent 0 (lOwn (gCp (gOp2 oGet (gVar 1) (gC (.int 1)))) lNil))) (gC (.int 0))) (lLent 3 lNil))))))
    (gIfS (gTest (gOp1 (oIsN true) (gVar 4))) (gDrop (gMut 2 oAppend (gCons (gMove 4) gNil))) gNext))
theorem Qchance_buildsF_eq : Qchance_buildsF = gFn 2 5 [0, 1] (gSeq (gSet 2 (gLst gNil))
    (gSeq (gFor (gItems (gTup (gCons (gC (.int 1)) (gCons (gC (.int 4)) (gCons (gC (.int 15)) (gCons (gC (.int 60)) gNil)))))) (bName 3) CBi)
    (gRet (gMove 2)))) := rfl
theorem cbi_spec {top : Str} {ps rs bs : List D} {bad : List Str} {d : D} {most : Int} {o4 : Option D} (h : BookP ps rs bad) (hd : IsD d) (hb : BuildsOk rs.length bs) (hl : bs.length ≤ 100) (hm0 : 0 ≤ most) (hm1 : most ≤ 60) {Q : Fl × Rho → Prop}
    (hQ : ∀ d' bs' o4, IsD d' → BuildsOk rs.length bs' → bs'.length ≤ bs.length + 1 → Q (.next, [some d', some (bookOf top ps rs), some (.lst bs'), some (.int most), o4])) :
    Sat (CBi [some d, some (bookOf top ps rs), some (.lst bs), some (.int most), o4]) Q := by
  have e3 : sizeLine = 16777216 := by rw [sizeLine_eq]
  have hpp := h.pp
  have hrp := h.rp
  have hpl := h.p1
  have hz : bs.length < sizeLine := by omega
  unfold CBi
  simp [e_llent, hpp, hrp]
  refine sat_call (pick_spec (row := .tup ps) hd ⟨.inr rfl, hpp⟩ h.p0 (by omega)) (by simp [takeArgs, isD_pure hd, hpp]) ?_
  rintro r os ⟨r', d1, e, hr, hd1⟩
  cases e
  obtain ⟨er, _⟩ := pairA_eq (h.pa r hr)
  rw [er]
  simp [putArgs, leftR, takeArgs, isD_pure hd, hpp, hrp, e_llent]
  refine sat_call (build_spec (top := top) (nm := nameOf r) (Q := fun p => ∃ t d', p = (t, [some d', some (bookOf top ps rs), some (.str (nameOf r)), some (.int most)]) ∧ IsD d' ∧ (t = .non ∨ ∃ L, TrL rs.length [t] L ∧ L.length ≤ 60)) (k0 := 0) h hd1 hm0 hm1 (fun d' hd' => ⟨_, d', rfl, hd', .inl rfl⟩) fun d' t L hd' ht hL => ⟨t, d', rfl, hd', .inr ⟨L, ht, hL⟩⟩) (by simp [takeArgs, isD_pure hd1, hpp, hrp]) ?_
  rintro t os ⟨t', d2, e, hd2, ht⟩
  cases e
  rcases ht with rfl | ⟨L, ht, hL⟩
  · simp [putArgs, leftR, takeArgs, isD_pure hd1, hpp, hrp]
    exact hQ _ _ _ hd2 hb (Nat.le_succ _)
  · have htp := ht.pures
    simp at htp
    have hN : ∃ ks, t = .tup ks := by
      cases ht
      exact ⟨_, rfl⟩
    obtain ⟨ks, rfl⟩ := hN
    rw [p_tup] at htp
    simp [htp, putArgs, leftR, takeArgs, isD_pure hd1, hpp, hrp, e_mut, e_move]
    rw [if_pos hz]
    simp
    refine hQ _ _ _ hd2 (fun b hb2 => ?_) (by simp)
    rcases List.mem_append.mp hb2 with z | z
    · exact hb b z
    · rw [List.mem_singleton.mp z]; exact ⟨L, ht, hL⟩
theorem chance_builds_spec {top : Str} {ps rs : List D} {bad : List Str} {d : D} (h : BookP ps rs bad) (hd : IsD d) {Q : D × List (Option D) → Prop}
    (hQ : ∀ d' bs, IsD d' → BuildsOk rs.length bs → Q (.lst bs, [some d', some (bookOf top ps rs)])) : Sat (Qchance_buildsF [d, bookOf top ps rs]) Q := by
  have hpp := h.pp
  have hrp := h.rp
  rw [Qchance_buildsF_eq, e_fn]
  simp [itemsK_ok (show (D.tup [.int 1, .int 4, .int 15, .int 60]).items = some [.int 1, .int 4, .int 15, .int 60] from rfl) rfl]
  obtain ⟨I, hI⟩ : ∃ I : List D → Rho → Prop, ∀ rest ρ, I rest ρ ↔ ∃ d' bs o3 o4, (∀ x ∈ rest, ∃ i : Int, x = .int i ∧ 0 ≤ i ∧ i ≤ 60) ∧ IsD d' ∧ BuildsOk rs.length bs ∧ bs.length + rest.length ≤ 4 ∧ ρ = [some d', some (bookOf top ps rs), some (.lst bs), o3, o4] := ⟨_, fun _ _ => Iff.rfl⟩
  refine (forL_inv (Q := fun p => ∃ d' bs o3 o4, p = (.next, [some d', some (bookOf top ps rs), some (.lst bs), o3, o4]) ∧ IsD d' ∧ BuildsOk rs.length bs) I (fun _ _ _ => rfl) ?_ ?_ ((hI _ _).mpr ⟨d, [], none, none, ?_, hd, (fun _ z => nomatch z), Nat.le_refl _, rfl⟩)).mono ?_
  · intro x rest ρ hρ
    obtain ⟨d', bs, o3, o4, hx, hd', hb, hl, rfl⟩ := (hI _ _).mp hρ
    obtain ⟨i, rfl, h0, h1⟩ := hx x List.mem_cons_self
    rw [List.length_cons] at hl
    refine ⟨_, rfl, cbi_spec h hd' hb (by omega) h0 h1 fun d2 bs2 o4 hd2 hb2 hl2 => (hI _ _).mpr ⟨d2, bs2, some (.int i), o4, fun y hy => hx y (List.mem_cons_of_mem _ hy), hd2, hb2, by omega, rfl⟩⟩
  · intro ρ hρ
    obtain ⟨d', bs, o3, o4, hx, hd', hb, hl, rfl⟩ := (hI _ _).mp hρ
    exact ⟨d', bs, _, _, rfl, hd', hb⟩
  · intro x hx
    simp at hx
    rcases hx with rfl | rfl | rfl | rfl <;> exact ⟨_, rfl, by decide, by decide⟩
  · rintro _ ⟨d', bs, o3, o4, rfl, hd', hb⟩
    simp [e_move, outsL, isD_pure hd, hpp, hrp]
    exact hQ d' bs hd' hb
/-! ### what is asked -/
noncomputable def IAr : Rho → Res (Fl × Rho) := (gIfS (gNot (gTest (gCall Qis_rowF (lOwn (gCp (gOp2 oGet (gVar 4) (gCp (gVar 5)))) (lOwn (gCall Qdue_rowF (lLent 0 (lLent 1 (lLent 3 (lOwn (gCp (gOp2 oGet (gOp2 oGet (gOp2 oGet (gVar 0) (gC (.int 1))) (gCp (gVar 5))) (gC (.int 0)))) lNil))))) lNil))))) (gRet (gC (.bl false))) gNext)
noncomputable def IAb : Rho → Res (Fl × Rho) := (gSeq (gSet 7 (gCall Qp_build_chanceF (lLent 0 (lLent 1 (lLent 6 lNil)))))
    (gIfS (gOr (gNot (gTest (gCall Qis_fracF (lLent 7 lNil)))) (gTest (gOp2 (oEqD true) (gCp (gVar 7)) (gCall Qdue_chanceF (lLent 0 (lLent 1 (lLent 3 (lLent 6 lNil)))))))) (gRet (gC (.bl false))) gNext))
noncomputable def IA5 : Rho → Res (Fl × Rho) := (gSeq (gFor (gItemsV 2) (bName 6) IAb)
    (gRet (gC (.bl true))))
noncomputable def IA4 : Rho → Res (Fl × Rho) := (gSeq (gFor (gRange1 (gOp1 oLen (gOp2 oGet (gVar 0) (gC (.int 1))))) (bName 5) IAr)
    IA5)
theorem Qis_askedF_eq : Qis_askedF = gFn 3 8 [0, 1, 2] (gSeq (gSet 3 (gCall Qweight_sumsF (lLent 0 (lLent 1 lNil))))
    (gSeq (gSet 4 (gCall Qp_meansF (lLent 0 (lLent 1 lNil))))
    (gSeq (gIfS (gOr (gNot (gTest (gOp1 (oIsi "tuple") (gVar 4)))) (gTest (gOp2 (oEq true) (gOp1 oLen (gVar 4)) (gOp1 oLen (gOp2 oGet (gVar 0) (gC (.int 1))))))) (gRet (gC (.bl false))) gNext)
    IA4))) := rfl
section
variable {top : Str} {ps rs bs : List D} {bad : List Str} {ws : List Int} {m : SM} {b : D} {o5 o6 o7 : Option D}
abbrev AR (top : Str) (ps rs : List D) (ws : List Int) (b : D) (m : SM) (o5 o6 o7 : Option D) : Rho :=
  [some (bookOf top ps rs), some (.tup (dI ws)), some b, some (dicS m), some (.tup (ps.map fun q => rowD ps rs ws (nameOf q))), o5, o6, o7]
theorem rows_pure : D.pures (ps.map fun q => rowD ps rs ws (nameOf q)) = true := pures_all.mpr fun d hd => by
  obtain ⟨c, _, rfl⟩ := List.mem_map.mp hd
  exact row_pure
theorem iar_spec {k : Nat} (h : BookP ps rs bad) (hw : WOk rs ws) (hm : SumOk rs ws (List.range rs.length) m) (hk : k < ps.length) :
    Sat (IAr (AR top ps rs ws b m (some (.int (k : Nat))) o6 o7)) fun p => p = (.next, AR top ps rs ws b m (some (.int (k : Nat))) o6 o7) := by
  have hpp := h.pp
  have hrp := h.rp
  have hpl := h.p1
  have hg : ps[k]? = some ps[k] := List.getElem?_eq_getElem hk
  obtain ⟨ex, _⟩ := pairA_eq (h.pa ps[k] (List.getElem_mem hk))
  have hg2 : ps[k]? = some (.tup [.str (nameOf ps[k]), .int (numOf ps[k])]) := by rw [hg]; exact congrArg some ex
  have hrow : (rowD ps rs ws (nameOf ps[k])).pure = true := row_pure
  unfold IAr AR
  have hnm : ∀ {x : Str} {y : D}, nameOf (.tup [.str x, y]) = x := fun {_ _} => rfl
  simp [e_llent, hpp, hrp, hrow, hg2, hnm]
  refine sat_call (due_row_spec (top := top) (n := nameOf ps[k]) h hw hm) (by simp [takeArgs, hpp, hrp, dI_pure]) ?_
  rintro r os e
  cases e
  simp [putArgs, leftR, takeArgs, hpp, hrp, dI_pure, hrow]
  refine sat_call (is_row_spec (ds := ps.map fun q => meanD rs ws (nameOf ps[k]) (nameOf q)) (fun d hd => ?_) (by rw [List.length_map]; omega)) (by simp [takeArgs]; rfl) ?_
  · obtain ⟨c, _, rfl⟩ := List.mem_map.mp hd
    exact ⟨_, _, (den_pos hw h.r1).1, rfl⟩
  rintro r os e
  cases e
  simp [putArgs, leftR, takeArgs, hpp, hrp, dI_pure]
theorem iab_spec {t : D} {L : List Nat} (h : BookP ps rs bad) (hw : WOk rs ws) (hm : SumOk rs ws (List.range rs.length) m) (ht : TrL rs.length [t] L) (hL : L.length ≤ 60) :
    Sat (IAb (AR top ps rs ws b m o5 (some t) o7)) fun p => ∃ o7, p = (.next, AR top ps rs ws b m o5 (some t) o7) := by
  have hpp := h.pp
  have hrp := h.rp
  have htp := ht.pures
  simp at htp
  have hlt := ht.lt
  have hS := pS_pos hw h.r1 hlt
  have hS2 := nD_pos (n := pH ws L) hS
  unfold IAb AR
  simp [e_llent]
  refine sat_call (build_chance_spec (top := top) h hw ht (by omega)) (by simp [takeArgs, hpp, hrp, dI_pure, htp]) ?_
  rintro r os e
  cases e
  rw [nf_fr]
  simp [putArgs, leftR, takeArgs, hpp, hrp, dI_pure, htp, e_llent]
  refine sat_call (is_frac_spec (n := nN (pH ws L) (pS rs ws L)) (d := nD (pH ws L) (pS rs ws L)) (by omega) (n_cop hS)) (by simp [takeArgs]) ?_
  rintro r os e
  cases e
  simp [putArgs, leftR, takeArgs, hpp, hrp, dI_pure, htp, e_llent]
  refine sat_call (due_chance_spec (top := top) h hw hm ht (by omega)) (by simp [takeArgs, hpp, hrp, dI_pure, htp]) ?_
  rintro r os e
  cases e
  rw [nf_fr]
  simp [putArgs, leftR, takeArgs, hpp, hrp, dI_pure, htp, eqD_fr]
theorem is_asked_spec (h : BookP ps rs bad) (hw : WOk rs ws) (hb : BuildsOk rs.length bs) :
    Sat (Qis_askedF [bookOf top ps rs, .tup (dI ws), .lst bs]) fun p => p = (.bl true, [some (bookOf top ps rs), some (.tup (dI ws)), some (.lst bs)]) := by
  have e3 : sizeLine = 16777216 := by rw [sizeLine_eq]
  have hpp := h.pp
  have hrp := h.rp
  have hpl := h.p1
  have hbp := hb.pure
  rw [Qis_askedF_eq, e_fn]
  simp [e_llent]
  refine sat_call (weight_sums_spec (top := top) h hw) (by simp [takeArgs, hpp, hrp, dI_pure]) ?_
  rintro r os ⟨m, e, hm⟩
  cases e
  simp [putArgs, leftR, takeArgs, hpp, hrp, dI_pure, e_llent]
  refine sat_call (means_spec (top := top) h hw) (by simp [takeArgs, hpp, hrp, dI_pure]) ?_
  rintro r os e
  cases e
  simp [putArgs, leftR, takeArgs, hpp, hrp, dI_pure]
  unfold IA4
  simp [hpp, hrp, rg1_len (show ps.length ≤ 10000000 by omega)]
  obtain ⟨I, hI⟩ : ∃ I : List D → Rho → Prop, ∀ rest ρ, I rest ρ ↔ ∃ o5, (∀ x ∈ rest, ∃ k : Nat, x = .int k ∧ k < ps.length) ∧ ρ = AR top ps rs ws (.lst bs) m o5 none none := ⟨_, fun _ _ => Iff.rfl⟩
  refine (forL_inv (Q := fun p => ∃ o5, p = (.next, AR top ps rs ws (.lst bs) m o5 none none)) I (fun _ _ _ => rfl) ?_ ?_ ((hI _ _).mpr ⟨none, ?_, rfl⟩)).mono ?_
  · intro x rest ρ hρ
    obtain ⟨o5, hx, rfl⟩ := (hI _ _).mp hρ
    obtain ⟨k, rfl, hk⟩ := hx x List.mem_cons_self
    refine ⟨_, rfl, (iar_spec h hw hm hk).mono ?_⟩
    rintro _ rfl
    exact (hI _ _).mpr ⟨_, fun y hy => hx y (List.mem_cons_of_mem _ hy), rfl⟩
  · intro ρ hρ
    obtain ⟨o5, hx, rfl⟩ := (hI _ _).mp hρ
    exact ⟨_, rfl⟩
  · intro x hx
    obtain ⟨k, hk, rfl⟩ := mem_rangeD hx
    exact ⟨k, by rw [Int.zero_add], hk⟩
  · rintro _ ⟨o5, rfl⟩
    unfold IA5
    simp [hbp]
    obtain ⟨J, hJ⟩ : ∃ J : List D → Rho → Prop, ∀ rest ρ, J rest ρ ↔ ∃ o6 o7, (∀ x ∈ rest, x ∈ bs) ∧ ρ = AR top ps rs ws (.lck bs) m o5 o6 o7 := ⟨_, fun _ _ => Iff.rfl⟩
    refine (forL_inv (Q := fun p => ∃ o6 o7, p = (.next, AR top ps rs ws (.lck bs) m o5 o6 o7)) J (fun _ _ hh => by obtain ⟨_, _, _, e⟩ := (hJ _ _).mp hh; rw [e]; exact chk_lck rfl) ?_ ?_ ((hJ _ _).mpr ⟨none, none, fun _ z => z, rfl⟩)).mono ?_
    · intro x rest ρ hρ
      obtain ⟨o6, o7, hx, rfl⟩ := (hJ _ _).mp hρ
      obtain ⟨L, ht, hL⟩ := hb x (hx x List.mem_cons_self)
      refine ⟨_, rfl, (iab_spec (b := .lck bs) (o5 := o5) (o7 := o7) h hw hm ht hL).mono ?_⟩
      rintro _ ⟨o7, rfl⟩
      exact (hJ _ _).mpr ⟨_, _, fun y hy => hx y (List.mem_cons_of_mem _ hy), rfl⟩
    · intro ρ hρ
      obtain ⟨o6, o7, hx, rfl⟩ := (hJ _ _).mp hρ
      exact ⟨_, _, rfl⟩
    · rintro _ ⟨o6, o7, rfl⟩
      simp [fin_lck, outsL, hpp, hrp, dI_pure]
end
end DV
set_option Elab.async false
set_option linter.all false
set_option maxRecDepth 100000
set_option maxHeartbeats 4000000
namespace DV
open PySem PySem.Spec PyProof.Rows L2
noncomputable def LWt : Rho → Res (D × Rho) := (gOp1 oTuple (gComp (gItemsV 3) [9] (bName 9) gYes (gIf (gTest (gVar 5)) (gOp2 (oInt2 fMul) (gCp (gVar 9)) (gC (.int 3))) (gOp2 (oInt2 fSub) (gC (.int 100)) (gVar 9)))))
noncomputable def LWb : Rho → Res (Fl × Rho) := (gIfS (gNot (gTest (gCall Qis_askedF (lLent 2 (lLent 8 (lLent 7 lNil)))))) (gRet (gC (.bl false))) gNext)
noncomputable def LW8 : Rho → Res (Fl × Rho) := (gSeq (gFor (gItems (gTup (gCons (gMove 3) (gCons (gMove 4) (gCons (gMove 3) (gCons (gMove 6) gNil)))))) (bName 8) LWb)
    (gRet (gC (.bl true))))
noncomputable def LW7 : Rho → Res (Fl × Rho) := (gSeq (gSet 7 (gCall Qchance_buildsF (lLent 1 (lLent 2 lNil))))
    LW8)
noncomputable def LW6 : Rho → Res (Fl × Rho) := (gSeq (gSet 6 LWt)
    LW7)
noncomputable def LW5 : Rho → Res (Fl × Rho) := (gSeq (gSet 5 (gOp2 (oCmp fLe) (gOp1 oMax (gOp2 oAdd (gLst (gCons (gC (.int 0)) gNil)) (gOp1 oList (gVar 3)))) (gC (.int 33))))
    LW6)
theorem Qp_lawF_eq : Qp_lawF = gFn 1 10 [0] (gSeq (gSet 1 (gCall QbeginF (lLent 0 lNil)))
    (gSeq (gSet 2 (gCall Qchance_bookF (lLent 1 lNil)))
    (gSeq (gSet 3 (gCall Qchance_weightsF (lLent 1 (lLent 2 lNil))))
    (gSeq (gSet 4 (gCall Qchance_weightsF (lLent 1 (lLent 2 lNil))))
    LW5)))) := rfl
section
variable {top : Str} {ps rs bs : List D} {bad : List Str} {w1 w2 w3 : List Int} {s d : D} {o5 o6 o7 o8 : Option D}
theorem lwt_spec {low : Bool} (hw : WOk rs w1) (hl : rs.length ≤ 450) (hlow : low = true → ∀ w ∈ w1, w ≤ 33) {b : D} {o4 : Option D} :
    Sat (LWt [some s, some d, some b, some (.tup (dI w1)), o4, some (.bl low), o6, o7, o8, none]) fun p => ∃ w3, p = (.tup (dI w3), [some s, some d, some b, some (.tup (dI w1)), o4, some (.bl low), o6, o7, o8, none]) ∧ WOk rs w3 := by
  have e3 : sizeLine = 16777216 := by rw [sizeLine_eq]
  have hz : (dI w1).length ≤ sizeLine := by rw [dI_len, hw.1]; omega
  unfold LWt
  simp [dI_pure, hz, wipeR]
  refine (comp_map (fun ρ => ρ = [some s, some d, some b, some (.tup (dI w1)), o4, some (.bl low), o6, o7, o8, none]) (fun x y => ∃ u, y = D.int u ∧ 1 ≤ u ∧ u ≤ 99) rfl (fun _ _ => rfl) fun x hx ρ hr => ?_).mono ?_
  · subst hr
    obtain ⟨u, hu, rfl⟩ := List.mem_map.mp hx
    have h2 := hw.2 u hu
    have hm : fMul u 3 = some (u * 3) := fMul_ok (.inr ⟨by decide, by decide⟩)
    refine ⟨_, rfl, ?_⟩
    cases low with
    | true =>
      have := hlow rfl u hu
      simp [hm, wipeR]
      exact ⟨by omega, by omega⟩
    | false =>
      simp [fSub, wipeR]
      exact ⟨by omega, by omega⟩
  · rintro ⟨ys, ρ⟩ ⟨h1, e'⟩
    simp only at h1 e'
    subst e'
    obtain ⟨ws, rfl⟩ := ints_of (fun y hy => by obtain ⟨u, e, _⟩ := each_all (S := fun y => ∃ u, y = D.int u ∧ 1 ≤ u ∧ u ≤ 99) (fun _ _ h => h) h1 y hy; exact ⟨u, e⟩)
    have hw3 : WOk rs ws := ⟨by have := each_len h1; rw [dI_len, dI_len] at this; rw [this]; exact hw.1, fun w hw => by
      obtain ⟨u, e, h2⟩ := each_all (S := fun y => ∃ u, y = D.int u ∧ 1 ≤ u ∧ u ≤ 99) (fun _ _ h => h) h1 (.int w) (List.mem_map_of_mem hw)
      cases e
      exact h2⟩
    simp [backR, unR, dI_pure]
    exact ⟨ws, rfl, hw3⟩
theorem lw8_spec (h : BookP ps rs bad) (h1 : WOk rs w1) (h2 : WOk rs w2) (h3 : WOk rs w3) (hb : BuildsOk rs.length bs) {Q : Fl × Rho → Prop} (hQ : ∀ r, Q (.ret (.bl true), some s :: r)) :
    Sat (LW8 [some s, some d, some (bookOf top ps rs), some (.tup (dI w1)), some (.tup (dI w2)), o5, some (.tup (dI w3)), some (.lst bs), none, none]) Q := by
  have hpp := h.pp
  have hrp := h.rp
  unfold LW8
  simp [e_move, dI_pure, itemsK_ok (show (D.tup [.tup (dI w1), .tup (dI w2), .tup (dI w1), .tup (dI w3)]).items = some [.tup (dI w1), .tup (dI w2), .tup (dI w1), .tup (dI w3)] from rfl) (by simp [dI_pure])]
  obtain ⟨I, hI⟩ : ∃ I : List D → Rho → Prop, ∀ rest ρ, I rest ρ ↔ ∃ o8, (∀ x ∈ rest, ∃ w, x = .tup (dI w) ∧ WOk rs w) ∧ ρ = [some s, some d, some (bookOf top ps rs), some (.tup (dI w1)), some (.tup (dI w2)), o5, some (.tup (dI w3)), some (.lst bs), o8, none] := ⟨_, fun _ _ => Iff.rfl⟩
  refine (forL_inv (Q := fun p => ∃ o8, p = (.next, [some s, some d, some (bookOf top ps rs), some (.tup (dI w1)), some (.tup (dI w2)), o5, some (.tup (dI w3)), some (.lst bs), o8, none])) I (fun _ _ _ => rfl) ?_ ?_ ((hI _ _).mpr ⟨none, ?_, rfl⟩)).mono ?_
  · intro x rest ρ hρ
    obtain ⟨o8, hx, rfl⟩ := (hI _ _).mp hρ
    obtain ⟨w, rfl, hw⟩ := hx x List.mem_cons_self
    refine ⟨_, rfl, ?_⟩
    unfold LWb
    simp [e_llent]
    refine sat_call (is_asked_spec (top := top) h hw hb) (by simp [takeArgs, hpp, hrp, dI_pure]) ?_
    rintro r os e
    cases e
    simp [putArgs, leftR, takeArgs, hpp, hrp, dI_pure]
    exact (hI _ _).mpr ⟨_, fun y hy => hx y (List.mem_cons_of_mem _ hy), rfl⟩
  · intro ρ hρ
    obtain ⟨o8, hx, rfl⟩ := (hI _ _).mp hρ
    exact ⟨_, rfl⟩
  · intro x hx
    simp at hx
    rcases hx with rfl | rfl | rfl | rfl
    · exact ⟨_, rfl, h1⟩
    · exact ⟨_, rfl, h2⟩
    · exact ⟨_, rfl, h1⟩
    · exact ⟨_, rfl, h3⟩
  · rintro _ ⟨o8, rfl⟩
    simp
    exact hQ _
end
theorem law_spec {cs : List Int} (hl : cs.length ≤ 1000) : Sat (Qp_lawF [.fro (dI cs)]) fun p => p = (.bl true, [some (.fro (dI cs))]) := by
  have e3 : sizeLine = 16777216 := by rw [sizeLine_eq]
  have hcp : (D.fro (dI cs)).pure = true := dI_pure cs
  rw [Qp_lawF_eq, e_fn]
  simp [e_llent]
  refine sat_call (begin_spec (cs := cs) (by omega)) (by simp [takeArgs, hcp]) ?_
  rintro r os ⟨d, e, hd⟩
  cases e
  simp [putArgs, leftR, takeArgs, hcp, e_llent]
  refine sat_call (chance_book_spec hd (Q := fun p => ∃ b d', p = (b, [some d']) ∧ IsD d' ∧ BookD b) fun b d' h1 h2 => ⟨b, d', rfl, h1, h2⟩) (by simp [takeArgs, isD_pure hd]) ?_
  rintro r os ⟨b, d1, e, hd1, top, ps, rs, bad, eb, h⟩
  cases e
  subst eb
  have hpp := h.pp
  have hrp := h.rp
  have hrl := h.r1
  simp [putArgs, leftR, takeArgs, isD_pure hd, hpp, hrp, e_llent]
  refine sat_call (chance_weights_spec (top := top) h hd1 (Q := fun p => ∃ ws d', p = (.tup (dI ws), [some d', some (bookOf top ps rs)]) ∧ IsD d' ∧ WOk rs ws) fun b d' h1 h2 => ⟨b, d', rfl, h1, h2⟩) (by simp [takeArgs, isD_pure hd1, hpp, hrp]) ?_
  rintro r os ⟨w1, d2, e, hd2, hw1⟩
  cases e
  simp [putArgs, leftR, takeArgs, isD_pure hd1, hpp, hrp, e_llent]
  refine sat_call (chance_weights_spec (top := top) h hd2 (Q := fun p => ∃ ws d', p = (.tup (dI ws), [some d', some (bookOf top ps rs)]) ∧ IsD d' ∧ WOk rs ws) fun b d' h1 h2 => ⟨b, d', rfl, h1, h2⟩) (by simp [takeArgs, isD_pure hd2, hpp, hrp]) ?_
  rintro r os ⟨w2, d3, e, hd3, hw2⟩
  cases e
  simp [putArgs, leftR, takeArgs, isD_pure hd2, hpp, hrp, e_llent]
  have hmx : oMax (.lst (.int 0 :: dI w1)) = some (.int (maxL (0 :: w1))) := max_dI (ns := 0 :: w1) (by simp)
  have hz : 1 + (dI w1).length ≤ sizeLine := by rw [dI_len, hw1.1]; omega
  have hz2 : (dI w1).length + 1 ≤ sizeLine := by omega
  unfold LW5
  simp [dI_pure, hmx, hz, hz2, fLe]
  unfold LW6
  simp
  refine (lwt_spec (rs := rs) (low := decide (maxL (0 :: w1) ≤ 33)) hw1 hrl fun hlow w hw => ?_).mono ?_
  · have h1 := of_decide_eq_true hlow
    have h2 := maxL_le (z := w) (ns := 0 :: w1) (List.mem_cons_of_mem _ hw)
    omega
  rintro _ ⟨w3, rfl, hw3⟩
  unfold LW7
  simp [e_llent]
  refine sat_call (chance_builds_spec (top := top) h hd3 (Q := fun p => ∃ bs d', p = (.lst bs, [some d', some (bookOf top ps rs)]) ∧ IsD d' ∧ BuildsOk rs.length bs) fun d' bs h1 h2 => ⟨bs, d', rfl, h1, h2⟩) (by simp [takeArgs, isD_pure hd3, hpp, hrp]) ?_
  rintro r os ⟨bs, d4, e, hd4, hb⟩
  cases e
  simp [putArgs, leftR, takeArgs, isD_pure hd3, hpp, hrp]
  refine lw8_spec h hw1 hw2 hw3 hb fun r => ?_
  simp [outsL, hcp]
theorem law_true {cs : List Int} (hl : cs.length ≤ 1000) : Sat (Qp_lawF [.fro (cs.map D.int)]) fun p => p.1 = .bl true := (law_spec hl).mono fun p hp => by rw [hp]
end DV
set_option Elab.async false
set_option linter.all false
set_option maxRecDepth 100000
set_option maxHeartbeats 0
namespace DV
open PySem PySem.Spec PyProof.Rows L2
def hfn0 : List He.DefD := [dfd "is_number" (Qtop 6), dfd "is_between" (Qtop 7), dfd "arity_in" (Qtop 9), dfd "names_of" (Qtop 10), dfd "arity_of" (Qtop 11), dfd "rules_of" (Qtop 12), dfd "rule_at" (Qtop 13), dfd "slots_of" (Qtop 14), dfd "flat" (Qtop 16), dfd "frac" (Qtop 20), dfd "plus" (Qtop 21), dfd "times" (Qtop 22), dfd "rule_chance" (Qtop 24), dfd "build_chance" (Qtop 25), dfd "mean_of" (Qtop 26), dfd "means" (Qtop 27), dfd "_law_begin" (Qtop 29), dfd "_law_draw" (Qtop 30), dfd "_law_pick" (Qtop 31), dfd "_law_rare" (Qtop 32), dfd "_law_shuffled" (Qtop 33), dfd "_law_some" (Qtop 34), dfd "_law_is_int" (Qtop 35), dfd "_law_gcd" (Qtop 36), dfd "_law_frac" (Qtop 37)]
def hfn1 : List He.DefD := [dfd "_law_is_frac" (Qtop 38), dfd "_law_letters" (Qtop 39), dfd "_law_names" (Qtop 40), dfd "_law_ties" (Qtop 41), dfd "_law_marks" (Qtop 42), dfd "_law_rule" (Qtop 43), dfd "_law_book" (Qtop 44), dfd "_law_rules" (Qtop 45), dfd "_law_parts" (Qtop 46), dfd "_law_flat" (Qtop 47), dfd "_law_joined" (Qtop 48), dfd "_law_least" (Qtop 49), dfd "_law_build" (Qtop 50), dfd "_law_long_name" (Qtop 52), dfd "_law_long_book" (Qtop 53), dfd "_law_chance_book" (Qtop 51), dfd "_law_chance_weights" (Qtop 54), dfd "_law_weight_sums" (Qtop 55), dfd "_law_due_row" (Qtop 56), dfd "_law_due_chance" (Qtop 57), dfd "_law_is_row" (Qtop 58), dfd "_law_chance_builds" (Qtop 59), dfd "_law_is_asked" (Qtop 60), dfd "law" (Qtop 61)]
def hfn : List He.DefD := hfn0 ++ (hfn1)
def hfa0 : List He.Fa := [.glo "is_number", .glo "is_between", .glo "arity_in", .glo "names_of", .glo "arity_of", .glo "rules_of", .glo "rule_at", .glo "slots_of", .glo "flat", .glo "frac", .glo "plus", .glo "times", .glo "rule_chance", .glo "build_chance", .glo "mean_of", .glo "means", .glo "_law_begin", .glo "_law_draw", .glo "_law_pick", .glo "_law_rare", .glo "_law_shuffled", .glo "_law_some", .glo "_law_is_int", .glo "_law_gcd", .glo "_law_frac"]
def hfa1 : List He.Fa := [.glo "_law_is_frac", .glo "_law_letters", .glo "_law_names", .glo "_law_ties", .glo "_law_marks", .glo "_law_rule", .glo "_law_book", .glo "_law_rules", .glo "_law_parts", .glo "_law_flat", .glo "_law_joined", .glo "_law_least", .glo "_law_build", .glo "_law_long_name", .glo "_law_long_book", .glo "_law_chance_book", .glo "_law_chance_weights", .glo "_law_weight_sums", .glo "_law_due_row", .glo "_law_due_chance", .glo "_law_is_row", .glo "_law_chance_builds", .glo "_law_is_asked", .glo "law", .glo "ONE"]
def hfa2 : List He.Fa := [.glo "ZERO", .free "int", .free "len", .free "abs", .free "list", .free "range", .free "isinstance", .free "bool", .free "str", .free "sorted", .free "tuple", .free "max", .free "min", .free "sum", .free "all", .free "any", .free "set", .free "dict"]
def hfa : List He.Fa := hfa0 ++ (hfa1 ++ (hfa2))
def hex (K : PySem.W.Frag) : Bool := He.tupB K "ONE" ([1, 1].map .int) && (He.tupB K "ZERO" ([0, 1].map .int) && (He.eqO (PySem.W.nsIn K mainGlobals "gcd") (some (some (.builtin "math.gcd")))))
abbrev hR : PySem.W.OpenRow := PySem.W.OpenLaw.row PySem.Challenge.rw_everygrown_k87_chances_of_builds
abbrev hk : PySem.W.Hook := hookN 4 hfa hfn hex
def hob (s : PySem.W.SharedT) : He.AlD × Bool := obsN 4 hfa hfn hex (HandSHeadRun.getT s)
theorem hob_eq (s : PySem.W.SharedT) : hob s = hk.obs s.abs := obsN_eq (HandSHeadRun.getT_eq s)
def hloose0 : List PySem.Str := ["GrownError", "NoName", "NoRule", "is_number", "is_between", "arity_in", "names_of", "arity_of", "rules_of", "rule_at", "slots_of", "flat", "ZERO", "ONE", "frac", "plus", "times", "rule_chance", "build_chance", "mean_of", "means", "_law_begin", "_law_draw", "_law_pick", "_law_rare"]
def hloose1 : List PySem.Str := ["_law_shuffled", "_law_some", "_law_is_int", "_law_gcd", "_law_frac", "_law_is_frac", "_law_letters", "_law_names", "_law_ties", "_law_marks", "_law_rule", "_law_book", "_law_rules", "_law_parts", "_law_flat", "_law_joined", "_law_least", "_law_build", "_law_chance_book", "_law_long_name", "_law_long_book", "_law_chance_weights", "_law_weight_sums", "_law_due_row", "_law_due_chance"]
def hloose2 : List PySem.Str := ["_law_is_row", "_law_chance_builds", "_law_is_asked"]
def hloose : List PySem.Str := hloose0 ++ (hloose1 ++ (hloose2))
abbrev hview : Program := PySem.W.view hR.prog [0, 61]
theorem hrun (w : World) : HandSHeadRun.RunEqI hR hview hk hob 20000 hloose w := by
  unfold HandSHeadRun.RunEqI
  kernel_rfl
theorem e_law {P : Program} {w : World} [KFr w] {mg : Str → Option Value} {base : Heap} {f : Addr} {fd : FuncData} (B : Blt mg) (F : FunD (KFr.kfr w) "law" "law" (defArgs (Qtop 61)) (defBody (Qtop 61)) (defScope (Qtop 61)) [] [] f fd) (c__law_begin : Callee P w (KFr.kfr w) mg base 1 "_law_begin" ["script"] QbeginF) (c__law_chance_book : Callee P w (KFr.kfr w) mg base 7 "_law_chance_book" ["d"] Qchance_bookF) (c__law_chance_weights : Callee P w (KFr.kfr w) mg base 2 "_law_chance_weights" ["d", "book"] Qchance_weightsF) (c__law_chance_builds : Callee P w (KFr.kfr w) mg base 4 "_law_chance_builds" ["d", "book"] Qchance_buildsF) (c__law_is_asked : Callee P w (KFr.kfr w) mg base 7 "_law_is_asked" ["book", "weights", "builds"] Qis_askedF) : FnD P w (KFr.kfr w) mg base 8 f fd ["script"] Qp_lawF := by
  refine fnD_of F sc_law fun cdv A outer s H E hr => ?_
  have hu := hr.units
  have nd := sc_law.nd
  have tk := takes_of (X := cxOf (L2.CX P w) P w (KFr.kfr w) mg base ["script", "d", "book", "first", "second", "is_low", "third", "builds", "weights", "weight"] "law" (defScope (Qtop 61)) f cdv A outer s H E) rfl rfl rfl rfl
  exact (sss_cons (ss_set (i := 1) nd rfl (loc_by rfl) (nin_by rfl) (j_callC c__law_begin hr (by decide) rfl tk (jl_lent (i := 0) rfl (vis_by rfl) jl_nil) (lLent_len lNil_len)))
    (sss_cons (ss_set (i := 2) nd rfl (loc_by rfl) (nin_by rfl) (j_callC c__law_chance_book hr (by decide) rfl tk (jl_lent (i := 1) rfl (vis_by rfl) jl_nil) (lLent_len lNil_len)))
    (sss_cons (ss_set (i := 3) nd rfl (loc_by rfl) (nin_by rfl) (j_callC c__law_chance_weights hr (by decide) rfl tk (jl_lent (i := 1) rfl (vis_by rfl) (jl_lent (i := 2) rfl (vis_by rfl) jl_nil)) (lLent_len (lLent_len lNil_len))))
    (sss_cons (ss_set (i := 4) nd rfl (loc_by rfl) (nin_by rfl) (j_callC c__law_chance_weights hr (by decide) rfl tk (jl_lent (i := 1) rfl (vis_by rfl) (jl_lent (i := 2) rfl (vis_by rfl) jl_nil)) (lLent_len (lLent_len lNil_len))))
    (sss_cons (ss_set (i := 5) nd rfl (loc_by rfl) (nin_by rfl) (j_le (j_max rfl rfl B.max (j_add (j_lst (ja_cons j_int ja_nil)) (j_list rfl rfl B.list (j_var (i := 3) rfl (vis_by rfl))))) j_int))
    (sss_cons (ss_set (i := 6) nd rfl (loc_by rfl) (nin_by rfl) (j_tuple rfl B.tuple (j_lc (kp := [3]) (own := [("weight", 9)]) rfl nd (si_name (i := 3) rfl (vis_by rfl) (List.contains_iff_mem.mp rfl)) (blkOk_by rfl) (all_nin rfl) (fun _ _ _ _ _ => (sg_name (i := 9) nd rfl (loc_by rfl) (nin_by rfl))) (fun _ _ _ _ _ => PTs.yes) (fun _ _ _ _ _ => (j_ifExp (jt_val (j_var (i := 5) rfl (vis_by rfl))) (J.weak (j_mul (J.cp (j_var (i := 9) rfl (vis_by rfl))) j_int)) (J.weak (j_sub j_int (j_var (i := 9) rfl (vis_by rfl)))))))))
    (sss_cons (ss_set (i := 7) nd rfl (loc_by rfl) (nin_by rfl) (j_callC c__law_chance_builds hr (by decide) rfl tk (jl_lent (i := 1) rfl (vis_by rfl) (jl_lent (i := 2) rfl (vis_by rfl) jl_nil)) (lLent_len (lLent_len lNil_len))))
    (sss_cons (ss_for (kq := [0]) (passes_of rfl) rfl (si_items (j_tup (ja_cons (j_move (i := 3) rfl (vis_by rfl)) (ja_cons (j_move (i := 4) rfl (vis_by rfl)) (ja_cons (j_move (i := 3) rfl (vis_by rfl)) (ja_cons (j_move (i := 6) rfl (vis_by rfl)) ja_nil)))))) (sg_name (i := 8) nd rfl (loc_by rfl) (nin_by rfl)) (sss_one (ss_if (jt_not (jt_val (j_callC c__law_is_asked hr (by decide) rfl tk (jl_lent (i := 2) rfl (vis_by rfl) (jl_lent (i := 8) rfl (vis_by rfl) (jl_lent (i := 7) rfl (vis_by rfl) jl_nil))) (lLent_len (lLent_len (lLent_len lNil_len)))))) (sss_one (ss_ret j_bl)) sss_nil)) (all_in rfl))
    (sss_one (ss_ret j_bl))))))))))
theorem hcallee {P : Program} {w : World} [KFr w] {h base : Heap} {mg : Str → Option Value} (c : SaysN hfa hfn hex h (KFr.kfr w)) (X : (KFr.kfr w).In base) (G : base.Ns mainGlobals mg) {f : Addr} {fd : FuncData} (F : FunD (KFr.kfr w) "law" "law" (defArgs (Qtop 61)) (defBody (Qtop 61)) (defScope (Qtop 61)) [] [] f fd) : FnD P w (KFr.kfr w) mg base 8 f fd ["script"] Qp_lawF := by
  have B : Blt mg := ⟨He.free_ok X G (c.d.fact 51 (f := .free "int") rfl), He.free_ok X G (c.d.fact 52 (f := .free "len") rfl), He.free_ok X G (c.d.fact 53 (f := .free "abs") rfl), He.free_ok X G (c.d.fact 54 (f := .free "list") rfl), He.free_ok X G (c.d.fact 55 (f := .free "range") rfl), He.free_ok X G (c.d.fact 56 (f := .free "isinstance") rfl), He.free_ok X G (c.d.fact 57 (f := .free "bool") rfl), He.free_ok X G (c.d.fact 58 (f := .free "str") rfl), He.free_ok X G (c.d.fact 59 (f := .free "sorted") rfl), He.free_ok X G (c.d.fact 60 (f := .free "tuple") rfl), He.free_ok X G (c.d.fact 61 (f := .free "max") rfl), He.free_ok X G (c.d.fact 62 (f := .free "min") rfl), He.free_ok X G (c.d.fact 63 (f := .free "sum") rfl), He.free_ok X G (c.d.fact 64 (f := .free "all") rfl), He.free_ok X G (c.d.fact 65 (f := .free "any") rfl), He.free_ok X G (c.d.fact 66 (f := .free "set") rfl), He.free_ok X G (c.d.fact 67 (f := .free "dict") rfl)⟩
  have x0 : (He.tupB (KFr.kfr w) "ONE" ([1, 1].map .int)) = true := (He.ba c.x).1
  have x1 : (He.tupB (KFr.kfr w) "ZERO" ([0, 1].map .int)) = true := (He.ba (He.ba c.x).2).1
  have x2 : (He.eqO (PySem.W.nsIn (KFr.kfr w) mainGlobals "gcd") (some (some (.builtin "math.gcd")))) = true := (He.ba (He.ba c.x).2).2
  have k_ONE : TupC w mg "ONE" [1, 1] := c.tup X G 49 x0 rfl
  have k_ZERO : TupC w mg "ZERO" [0, 1] := c.tup X G 50 x1 rfl
  have k_gcd : mg "gcd" = some (.builtin "math.gcd") := PySem.W.mg_of X G (He.eqO_ok x2)
  have c_is_number := c_is_number (P := P) (base := base) B (c.said X G 0 0 rfl rfl) 
  have c_is_between := c_is_between (P := P) (base := base) B (c.said X G 1 1 rfl rfl) c_is_number
  have c_arity_in := c_arity_in (P := P) (base := base) B (c.said X G 2 2 rfl rfl) 
  have c_names_of := c_names_of (P := P) (base := base) B (c.said X G 3 3 rfl rfl) 
  have c_arity_of := c_arity_of (P := P) (base := base) B (c.said X G 4 4 rfl rfl) c_arity_in
  have c_rules_of := c_rules_of (P := P) (base := base) B (c.said X G 5 5 rfl rfl) c_arity_of
  have c_rule_at := c_rule_at (P := P) (base := base) B (c.said X G 6 6 rfl rfl) c_is_between
  have c_slots_of := c_slots_of (P := P) (base := base) B (c.said X G 7 7 rfl rfl) c_rule_at
  have c_flat := c_flat (P := P) (base := base) B (c.said X G 8 8 rfl rfl) 
  have c_frac := c_frac (P := P) (base := base) B (c.said X G 9 9 rfl rfl) k_gcd
  have c_plus := c_plus (P := P) (base := base) B (c.said X G 10 10 rfl rfl) c_frac
  have c_times := c_times (P := P) (base := base) B (c.said X G 11 11 rfl rfl) c_frac
  have c_rule_chance := c_rule_chance (P := P) (base := base) B (c.said X G 12 12 rfl rfl) c_rules_of c_frac
  have c_build_chance := c_build_chance (P := P) (base := base) B (c.said X G 13 13 rfl rfl) c_flat c_times c_rule_chance k_ONE
  have c_mean_of := c_mean_of (P := P) (base := base) B (c.said X G 14 14 rfl rfl) c_rules_of c_slots_of c_plus c_times c_frac c_rule_chance k_ZERO
  have c_means := c_means (P := P) (base := base) B (c.said X G 15 15 rfl rfl) c_names_of c_mean_of
  have c__law_begin := c__law_begin (P := P) (base := base) B (c.said X G 16 16 rfl rfl) 
  have c__law_draw := c__law_draw (P := P) (base := base) B (c.said X G 17 17 rfl rfl) 
  have c__law_pick := c__law_pick (P := P) (base := base) B (c.said X G 18 18 rfl rfl) c__law_draw
  have c__law_rare := c__law_rare (P := P) (base := base) B (c.said X G 19 19 rfl rfl) c__law_draw
  have c__law_shuffled := c__law_shuffled (P := P) (base := base) B (c.said X G 20 20 rfl rfl) c__law_draw
  have c__law_some := c__law_some (P := P) (base := base) B (c.said X G 21 21 rfl rfl) c__law_shuffled
  have c__law_is_int := c__law_is_int (P := P) (base := base) B (c.said X G 22 22 rfl rfl) 
  have c__law_gcd := c__law_gcd (P := P) (base := base) B (c.said X G 23 23 rfl rfl) 
  have c__law_frac := c__law_frac (P := P) (base := base) B (c.said X G 24 24 rfl rfl) c__law_gcd
  have c__law_is_frac := c__law_is_frac (P := P) (base := base) B (c.said X G 25 25 rfl rfl) c__law_is_int c__law_gcd
  have c__law_letters := c__law_letters (P := P) (base := base) B (c.said X G 26 26 rfl rfl) c__law_some
  have c__law_names := c__law_names (P := P) (base := base) B (c.said X G 27 27 rfl rfl) c__law_some c__law_draw
  have c__law_ties := c__law_ties (P := P) (base := base) B (c.said X G 28 28 rfl rfl) c__law_some c__law_pick
  have c__law_marks := c__law_marks (P := P) (base := base) B (c.said X G 29 29 rfl rfl) c__law_pick
  have c__law_rule := c__law_rule (P := P) (base := base) B (c.said X G 30 30 rfl rfl) c__law_some c__law_marks c__law_ties
  have c__law_book := c__law_book (P := P) (base := base) B (c.said X G 31 31 rfl rfl) c__law_names c__law_draw c__law_rule c__law_pick c__law_shuffled
  have c__law_rules := c__law_rules (P := P) (base := base) B (c.said X G 32 32 rfl rfl) 
  have c__law_parts := c__law_parts (P := P) (base := base) B (c.said X G 33 33 rfl rfl) 
  have c__law_flat := c__law_flat (P := P) (base := base) B (c.said X G 34 34 rfl rfl) c__law_parts
  have c__law_joined := c__law_joined (P := P) (base := base) B (c.said X G 35 35 rfl rfl) 
  have c__law_least := c__law_least (P := P) (base := base) B (c.said X G 36 36 rfl rfl) 
  have c__law_build := c__law_build (P := P) (base := base) B (c.said X G 37 37 rfl rfl) c__law_least c__law_joined c__law_rules c__law_pick
  have c__law_long_name := c__law_long_name (P := P) (base := base) B (c.said X G 38 38 rfl rfl) 
  have c__law_long_book := c__law_long_book (P := P) (base := base) B (c.said X G 39 39 rfl rfl) c__law_long_name
  have c__law_chance_book := c__law_chance_book (P := P) (base := base) B (c.said X G 40 40 rfl rfl) c__law_letters c__law_draw c__law_rare c__law_book c__law_long_book
  have c__law_chance_weights := c__law_chance_weights (P := P) (base := base) B (c.said X G 41 41 rfl rfl) c__law_draw c__law_rules
  have c__law_weight_sums := c__law_weight_sums (P := P) (base := base) B (c.said X G 42 42 rfl rfl) 
  have c__law_due_row := c__law_due_row (P := P) (base := base) B (c.said X G 43 43 rfl rfl) c__law_rules c__law_frac
  have c__law_due_chance := c__law_due_chance (P := P) (base := base) B (c.said X G 44 44 rfl rfl) c__law_flat c__law_frac
  have c__law_is_row := c__law_is_row (P := P) (base := base) B (c.said X G 45 45 rfl rfl) c__law_is_frac
  have c__law_chance_builds := c__law_chance_builds (P := P) (base := base) B (c.said X G 46 46 rfl rfl) c__law_build c__law_pick
  have c__law_is_asked := c__law_is_asked (P := P) (base := base) B (c.said X G 47 47 rfl rfl) c__law_weight_sums c_means c__law_is_row c__law_due_row c_build_chance c__law_is_frac c__law_due_chance
  exact e_law B F c__law_begin c__law_chance_book c__law_chance_weights c__law_chance_builds c__law_is_asked
theorem hbinds {K : PySem.W.Frag} {f : Addr} {fd : FuncData} (F : FunD K "law" "law" (defArgs (Qtop 61)) (defBody (Qtop 61)) (defScope (Qtop 61)) [] [] f fd) (s : Shared) (v : Value) : BindsTo s fd ⟨[v], []⟩ [("script", v)] :=
  FunD.bindsA (ps := ["script"]) F (fun _ _ _ _ _ _ us hl => (match us, hl with | [_], _ => rfl)) s [v] rfl
end DV
namespace DV
open PySem PySem.W PySem.Calls PyProof.Rows
theorem h1 : defOf hview hR.name = some (HandSHeadRun.topDef hR.prog 61, []) := by kernel_rfl
theorem h2 : hR.prog.theDef hR.name = some ((HandSHeadRun.topDef hR.prog 61).params, (HandSHeadRun.topDef hR.prog 61).body, (HandSHeadRun.topDef hR.prog 61).scope) := by kernel_rfl
theorem h3 : kwWritten? (HandSHeadRun.topDef hR.prog 61).params.kwonlyargs (HandSHeadRun.topDef hR.prog 61).params.kw_defaults = some [] := by kernel_rfl
theorem h4 : (!hR.writes || hR.records.isEmpty) = true := by rfl
theorem h5 : hR.wellSaid = true := by first | assumption | decide +kernel
theorem h6 : (chainsOk hview && opensWell hR.prog && (frees hR.toRowW && hR.within.isEmpty)) = true := by decide +kernel
theorem h7 : hR.prog.bare := ⟨rfl, rfl, rfl, rfl, rfl, by decide +kernel⟩
theorem h8 : hR.toRowW.promised := by w_witness2
theorem hwalk : WalkO hview hloose (XL hview []) hk.says hR.toRowW (HandSHeadRun.topDef hR.prog 61) [] (fun f vs => PySem.call f vs) := by
  refine DV.walk_D (l := PySem.Challenge.rw_everygrown_k87_chances_of_builds) (n := 63) (k := 8) (x := "script") (g := Qp_lawF) rfl (by decide) (by kernel_rfl) ⟨rfl, by decide, by decide⟩ (fun cs hl => law_true (Nat.le_trans hl (by decide))) ?F
  intro w mg fa h Y G hmg0
  obtain ⟨K, c⟩ := Y
  have hmg : mg ("law" : PySem.Str) = some (.ref fa) := by
    have e : (HandSHeadRun.topDef hR.prog 61).name = ("law" : PySem.Str) := by kernel_rfl
    rw [← e]
    exact hmg0
  letI iK : KFr w := ⟨K⟩
  obtain ⟨f, fd, hf, F⟩ := SaysN.said (K := K) c c.i G 48 48 (x := "law") (st := Qtop 61) rfl rfl
  have ef : f = fa := by
    rw [hmg] at hf
    injection hf with hf
    injection hf with hf
    exact hf.symm
  subst ef
  refine ⟨iK, fd, c.i, c.n, hbinds F, fun base X G2 => ?_⟩
  exact hcallee (P := PySem.Challenge.rw_everygrown_k87_chances_of_builds.prog) (base := base) (w := w) c X G2 F
theorem hrow : hR.Holds := HandSHeadRun.head_imp (r := hR) (q := hview) (H := hk) (ob := hob) (M := 20000) (loose := hloose) (kwd := []) hob_eq hrun h1 h2 h3 h4 h5 h6 h7 h8 hwalk
end DV
open PySem PySem.W PySem.Calls PyProof.Rows
set_option maxRecDepth 100000 in
set_option maxHeartbeats 0 in
theorem PySem.Challenge.cw_everygrown_k87_chances_of_builds_holds : PySem.Challenge.rw_everygrown_k87_chances_of_builds.Holds := by
  w_on; o_law
  exact DV.hrow
