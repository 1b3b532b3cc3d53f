import PyProof.Rows.All
import HandS.ForMost
import HandS.Exc
import HandS.ExcOwn
import HandS.TryOnly
import HandS.TryMany
import HandS.WordsExc
import HandS.Flow
import HandS.IsInst
import HandS.Property
import HandS.ClsMeth
import HandS.Wide
import HandS.HeadHook2
import HandS.Defaults
import KE.KOpsOwn
import KE.KDictKeyed
import KE.KDictWalk
import HandS.TupAny
import HandS.TupLe
import HandS.Strs
import HandS.Star
import HandS.CallSlots
import HandS.Head0
import HandS.Head1
import HandS.Head2
import HandS.HeadEnd
import HandS.HeadHook3
import HandS.EndBits
import HandS.Text
import HandS.RaiseMore
import HandS.Style
import PySem.Challenge.RW_totalsbeside_k06_whole_possible_truths_h
set_option Elab.async false
set_option linter.all false
set_option maxRecDepth 100000
set_option maxHeartbeats 2000000
set_option autoImplicit false
/-! The D layer, part 1: plain data, the frozen part of the heap, slots. -/
namespace DL
open PySem L2

abbrev Fg := PySem.W.Frag
/-- the known part and the world -/
structure KW where
  k : Fg
  w : World
instance : Coe KW Fg := ⟨KW.k⟩
abbrev kk (X : Cx) : KW := ⟨X.K, X.w⟩

/-- plain data; lck: a list that is read alone (the script, the module's own) -/
inductive D where
  | non | bl (b : Bool) | int (i : Int) | str (s : Str)
  | tup (xs : List D) | lst (xs : List D) | lck (xs : List D)
  | dct (ks vs : List D)
  | obj (C : String) (ns : List String) (vs : List D)
  deriving Inhabited

/-! ### keys of dicts -/
mutual
def nkD : D → Option PySem.NestedKey
  | .non => some .none
  | .int i => some (.num i)
  | .str s => some (.text s)
  | .tup ds => (nkL ds).map .tup
  | _ => none
def nkL : List D → Option (List PySem.NestedKey)
  | [] => some []
  | d :: ds => match nkD d, nkL ds with
    | some k, some l => some (k :: l)
    | _, _ => none
end
inductive Ents (w : World) : List DictEntry → List NestedKey → List V → List V → Prop
  | nil : Ents w [] [] [] []
  | cons {e : DictEntry} {es : List DictEntry} {k : NestedKey} {ks : List NestedKey} {kv v : V} {kvs vs : List V} : e.hash = k.hash w → RelV kv e.key → RelV v e.val → Ents w es ks kvs vs → Ents w (e :: es) (k :: ks) (kv :: kvs) (v :: vs)
/-- the object o is a dict with these keys and values -/
def DictObj (w : World) (o : Obj) (ks : List NestedKey) (kvs vs : List V) : Prop := o.ExactDict ∧ (∃ es ep, o.data = .dict es ep ∧ Ents w es.toList ks kvs vs) ∧ ks.Nodup
def DkΦ (w : World) (a : Addr) (ks : List NestedKey) (kvs vs : List V) : Heap → Prop := fun h => ∃ o, h.get? a = some o ∧ DictObj w o ks kvs vs
def KeysOk (ds : List D) (ks : List NestedKey) : Prop := nkL ds = some ks ∧ ks.length ≤ sizeLine

def fieldsV (ns : List String) (vs : List V) : List (Str × V) := (ns.map Str.ofString).zip vs

mutual
/-- the value v stands for the datum, by the frozen heap F -/
def Is (K : KW) (F : Hp) : D → V → Prop
  | .non, v => v = .non
  | .bl b, v => v = .bl b
  | .int i, v => v = .int i
  | .str s, v => v = .str s
  | .tup ds, v => ∃ a vs, v = .ref a ∧ SqT K F a vs ∧ IsL K F ds vs
  | .lst ds, v => ∃ a vs, v = .ref a ∧ F a = some (.lst vs) ∧ IsL K F ds vs
  | .lck ds, v => ∃ a vs, v = .ref a ∧ SqL K F a vs ∧ IsL K F ds vs
  | .dct ds es, v => ∃ a o u ks kvs us, v = .ref a ∧ F a = some (.frz o u) ∧ (a == sysModules) = false ∧ DictObj K.w o ks kvs us ∧ KeysOk ds ks ∧ IsL K F ds kvs ∧ IsL K F es us
  | .obj C ns ds, v => ∃ a dx vs, v = .ref a ∧ F a = some (.ins (He.ga K C) dx (fieldsV ns vs)) ∧ ns.length = ds.length ∧ IsL K F ds vs
def IsL (K : KW) (F : Hp) : List D → List V → Prop
  | [], vs => vs = []
  | d :: ds, vs => ∃ v r, vs = v :: r ∧ Is K F d v ∧ IsL K F ds r
end

section
variable {K : KW} {F F' : Hp}
theorem Rd.same {a : Addr} {u : HO} (e : Same F F') (h : Rd F a u) : Rd F' a u := by
  rcases h with h | ⟨o, h⟩
  · exact .inl (e _ _ h)
  · exact .inr ⟨o, e _ _ h⟩
theorem SqT.same {a : Addr} {xs : List V} (e : Same F F') (h : SqT K F a xs) : SqT K F' a xs := h.imp (Rd.same e) id
theorem SqL.same {a : Addr} {xs : List V} (e : Same F F') (h : SqL K F a xs) : SqL K F' a xs := h.imp (Rd.same e) id
mutual
theorem Is.mono (e : Same F F') : ∀ (d : D) (v : V), Is K F d v → Is K F' d v
  | .non, _, h => h
  | .bl _, _, h => h
  | .int _, _, h => h
  | .str _, _, h => h
  | .tup ds, _, ⟨a, vs, q, s, l⟩ => ⟨a, vs, q, SqT.same e s, IsL.mono e ds vs l⟩
  | .lst ds, _, ⟨a, vs, q, s, l⟩ => ⟨a, vs, q, e _ _ s, IsL.mono e ds vs l⟩
  | .lck ds, _, ⟨a, vs, q, s, l⟩ => ⟨a, vs, q, SqL.same e s, IsL.mono e ds vs l⟩
  | .dct ds es, _, ⟨a, o, u, ks, kvs, us, q, s, n, h, k, l, m⟩ => ⟨a, o, u, ks, kvs, us, q, e _ _ s, n, h, k, IsL.mono e ds kvs l, IsL.mono e es us m⟩
  | .obj _ _ ds, _, ⟨a, dx, vs, q, s, n, l⟩ => ⟨a, dx, vs, q, e _ _ s, n, IsL.mono e ds vs l⟩
theorem IsL.mono (e : Same F F') : ∀ (ds : List D) (vs : List V), IsL K F ds vs → IsL K F' ds vs
  | [], _, h => h
  | d :: ds, _, ⟨v, r, q, h, l⟩ => ⟨v, r, q, Is.mono e d v h, IsL.mono e ds r l⟩
end
theorem IsL.length : ∀ {ds : List D} {vs : List V}, IsL K F ds vs → vs.length = ds.length
  | [], _, h => by cases h; rfl
  | _ :: _, _, ⟨_, _, q, _, l⟩ => by subst q; simp [IsL.length l]
theorem IsL.get : ∀ {ds : List D} {vs : List V} {i : Nat} {d : D}, IsL K F ds vs → ds[i]? = some d → ∃ v, vs[i]? = some v ∧ Is K F d v
  | [], _, _, _, _, e => by simp at e
  | _ :: _, _, 0, _, ⟨v, r, q, h, _⟩, e => by subst q; simp at e; subst e; exact ⟨v, rfl, h⟩
  | _ :: _, _, i + 1, _, ⟨v, r, q, _, l⟩, e => by
    subst q
    obtain ⟨v', h1, h2⟩ := IsL.get (i := i) l (by simpa using e)
    exact ⟨v', by simpa using h1, h2⟩
theorem IsL.append : ∀ {ds es : List D} {vs ws : List V}, IsL K F ds vs → IsL K F es ws → IsL K F (ds ++ es) (vs ++ ws)
  | [], _, _, _, h, k => by cases h; exact k
  | _ :: _, _, _, _, ⟨v, r, q, h, l⟩, k => by subst q; exact ⟨v, _, rfl, h, IsL.append l k⟩
theorem IsL.take : ∀ {ds : List D} {vs : List V} (n : Nat), IsL K F ds vs → IsL K F (ds.take n) (vs.take n)
  | [], _, _, h => by cases h; simp [IsL]
  | _ :: _, _, 0, _ => by simp [IsL]
  | _ :: _, _, n + 1, ⟨v, r, q, h, l⟩ => by subst q; exact ⟨v, _, rfl, h, IsL.take n l⟩
theorem IsL.drop : ∀ {ds : List D} {vs : List V} (n : Nat), IsL K F ds vs → IsL K F (ds.drop n) (vs.drop n)
  | [], _, _, h => by cases h; simp [IsL]
  | _ :: _, _, 0, h => h
  | _ :: _, _, n + 1, ⟨v, r, q, _, l⟩ => by subst q; simpa using IsL.drop n l
theorem IsL.set : ∀ {ds : List D} {vs : List V} {d : D} {v : V} (i : Nat), IsL K F ds vs → Is K F d v → IsL K F (ds.set i d) (vs.set i v)
  | [], _, _, _, _, h, _ => by cases h; simp [IsL]
  | _ :: _, _, _, _, 0, ⟨v, r, q, _, l⟩, k => by subst q; exact ⟨_, _, rfl, k, l⟩
  | _ :: _, _, _, _, i + 1, ⟨v, r, q, h, l⟩, k => by subst q; exact ⟨_, _, rfl, h, IsL.set i l k⟩
theorem IsL.single {d : D} {v : V} (h : Is K F d v) : IsL K F [d] [v] := ⟨v, [], rfl, h, rfl⟩
theorem IsL.reverse {ds : List D} {vs : List V} (h : IsL K F ds vs) : IsL K F ds.reverse vs.reverse := by
  induction ds generalizing vs with
  | nil => cases h; exact rfl
  | cons d ds ih => obtain ⟨v, r, q, k, l⟩ := h; subst q; simpa using IsL.append (ih l) (IsL.single k)
end

/-! ### slots -/
/-- a slot: frozen data, or an object of one's own that may change (its parts are frozen); io: it was handed in -/
inductive Ent where
  | fz (d : D) | ow (io : Bool) (d : D)
abbrev En := List (Option Ent)

/-- the object at a holds d, its parts frozen -/
def OwAt (K : KW) (F H : Hp) (a : Addr) : D → Prop
  | .lst ds => ∃ vs, H a = some (.lst vs) ∧ IsL K F ds vs
  | .obj C ns ds => ∃ dx vs, H a = some (.ins (He.ga K C) dx (fieldsV ns vs)) ∧ ns.length = ds.length ∧ IsL K F ds vs
  | .dct ds es => ∃ ks kvs us, H a = some (.ext (DkΦ K.w a ks kvs us)) ∧ (a == sysModules) = false ∧ KeysOk ds ks ∧ IsL K F ds kvs ∧ IsL K F es us
  | _ => False

/-- the ghost: the frozen part and the heap at the entry; what must stay as it was (P); the objects handed in to be changed: slot, address -/
structure Gh where
  F0 : Hp
  H0 : Hp
  P : Addr → Prop
  io : List (Nat × Addr)

structure Rel (K : KW) (G : Gh) (F H : Hp) (σ : L2.St) (en : En) : Prop where
  le : Same F H
  f0 : Same G.F0 F
  pr : ∀ a, G.P a → H a = G.H0 a ∧ G.H0 a ≠ none ∧ (G.F0 a = none → F a = none)
  io : ∀ p ∈ G.io, H p.2 ≠ none ∧ F p.2 = none
  len : σ.length = en.length
  fz : ∀ (i : Nat) d, en[i]? = some (some (Ent.fz d)) → ∃ v, σ[i]? = some (some v) ∧ Is K F d v
  ow : ∀ (i : Nat) b d, en[i]? = some (some (Ent.ow b d)) → ∃ a, σ[i]? = some (some (V.ref a)) ∧ F a = none ∧ OwAt K F H a d ∧ ¬ G.P a ∧ (b = false → ∀ p ∈ G.io, p.2 ≠ a) ∧ (b = true → (i, a) ∈ G.io)
  sep : ∀ (i j : Nat) b c d e a, en[i]? = some (some (Ent.ow b d)) → en[j]? = some (some (Ent.ow c e)) → σ[i]? = some (some (V.ref a)) → σ[j]? = some (some (V.ref a)) → i = j

theorem OwAt.there {K : KW} {F H : Hp} {a : Addr} : ∀ {d : D}, OwAt K F H a d → H a ≠ none
  | .lst _, ⟨_, e, _⟩ => by rw [e]; simp
  | .obj _ _ _, ⟨_, _, e, _⟩ => by rw [e]; simp
  | .dct _ _, ⟨_, _, _, e, _⟩ => by rw [e]; simp
  | .non, h => h.elim
  | .bl _, h => h.elim
  | .int _, h => h.elim
  | .str _, h => h.elim
  | .tup _, h => h.elim
  | .lck _, h => h.elim
theorem OwAt.move {K : KW} {F H F' H' : Hp} {a : Addr} (e : Same F F') (h : H' a = H a) : ∀ {d : D}, OwAt K F H a d → OwAt K F' H' a d
  | .lst _, ⟨vs, k, l⟩ => ⟨vs, h.trans k, IsL.mono e _ _ l⟩
  | .obj _ _ _, ⟨dx, vs, k, n, l⟩ => ⟨dx, vs, h.trans k, n, IsL.mono e _ _ l⟩
  | .dct _ _, ⟨ks, kvs, us, k, n, ok, l, m⟩ => ⟨ks, kvs, us, h.trans k, n, ok, IsL.mono e _ _ l, IsL.mono e _ _ m⟩
  | .non, h => h.elim
  | .bl _, h => h.elim
  | .int _, h => h.elim
  | .str _, h => h.elim
  | .tup _, h => h.elim
  | .lck _, h => h.elim
/-! ### dicts are locked when they are frozen -/
inductive Lk (Φ : Hp → Prop) : Hp → Prop
  | done {H : Hp} : Φ H → Lk Φ H
  | lock {H : Hp} {a : Addr} {φ : Heap → Prop} : H a = some (.ext φ) → (∀ o, (∃ h : Heap, h.get? a = some o ∧ φ h) → Lk Φ (upd H a (.frz o (.ext φ)))) → Lk Φ H
theorem Lk.mono {Φ Ψ : Hp → Prop} {H : Hp} (h : Lk Φ H) (k : ∀ H, Φ H → Ψ H) : Lk Ψ H := by
  induction h with
  | done h => exact .done (k _ h)
  | lock e _ ih => exact .lock e ih
def tG (te : TE) : TE := fun σ H Q => te σ H fun v H' => Lk (Q v) H'
theorem lk_inv {X : Cx} {pins : List (Addr × Obj)} {σ : L2.St} {s : Shared} {Φ : Hp → Prop} {H : Hp} (h : Lk Φ H) : L2.Inv X pins σ H s → ∃ H', L2.Inv X pins σ H' s ∧ Φ H' := by
  induction h with
  | done h => exact fun I => ⟨_, I, h⟩
  | @lock H a φ e k ih =>
    intro I
    obtain ⟨p, ⟨o, g⟩, st⟩ := I.hok a _ e
    obtain ⟨od, I2⟩ := I.lock e trivial
    have g2 := (I2.hok a _ upd_same).1
    rw [g] at g2
    cases g2
    exact ih o ⟨_, g, p⟩ I2
theorem pe_G {X : Cx} {e : Expr} {te : TE} (h : PE X e te) : PE X e (tG te) := ⟨fun pins s σ H Q I q => thn (h.run pins s σ H _ I q) fun u s1 ⟨v, H1, I1, r, q1⟩ => by
  obtain ⟨H2, I2, q2⟩ := lk_inv q1 I1
  exact ⟨v, H2, I2, r, q2⟩⟩
/-- what an own object holds, frozen -/
theorem OwAt.freeze {K : KW} {F H : Hp} {a : Addr} {Φ : Hp → Prop} : ∀ {d : D}, F a = none → OwAt K F H a d → (∀ H2 u, (∀ b, b ≠ a → H2 b = H b) → H2 a = some u → Is K (upd F a u) d (.ref a) → Φ H2) → Lk Φ H
  | .lst ds, n, ⟨vs, k, l⟩, g => .done (g H _ (fun _ _ => rfl) k ⟨a, vs, rfl, upd_same, IsL.mono (fun b o e => by rw [upd_ne (ne_of_none e n)]; exact e) _ _ l⟩)
  | .obj C ns ds, n, ⟨dx, vs, k, m, l⟩, g => .done (g H _ (fun _ _ => rfl) k ⟨a, dx, vs, rfl, upd_same, m, IsL.mono (fun b o e => by rw [upd_ne (ne_of_none e n)]; exact e) _ _ l⟩)
  | .dct ds es, n, ⟨ks, kvs, us, k, m, ok, l, l2⟩, g => .lock k fun o ho => .done (g _ _ (fun b hb => upd_ne hb) upd_same (by
      obtain ⟨h, e1, o2, e2, d2⟩ := ho
      rw [e1] at e2
      cases e2
      have hs : Same F (upd F a (.frz o (.ext (DkΦ K.w a ks kvs us)))) := fun b o e => by rw [upd_ne (ne_of_none e n)]; exact e
      exact ⟨a, o, _, ks, kvs, us, rfl, upd_same, m, d2, ok, IsL.mono hs _ _ l, IsL.mono hs _ _ l2⟩))
  | .non, _, h, _ => h.elim
  | .bl _, _, h, _ => h.elim
  | .int _, _, h, _ => h.elim
  | .str _, _, h, _ => h.elim
  | .tup _, _, h, _ => h.elim
  | .lck _, _, h, _ => h.elim

section
variable {K : KW} {G : Gh} {F F' H H' : Hp} {σ : L2.St} {en en' : En} {i : Nat} {d : D}
theorem same_upd {F : Hp} {p : Addr} {o : HO} (h : F p = none) : Same F (upd F p o) := fun b u e => by rw [upd_ne (ne_of_none e h)]; exact e
theorem upd_mono {F H : Hp} {p : Addr} {o : HO} (e : Same F H) : Same (upd F p o) (upd H p o) := fun b u k => by
  by_cases h : b = p
  · subst h; rw [upd_same] at k ⊢; exact k
  · rw [upd_ne h] at k ⊢; exact e _ _ k
theorem Rel.free (R : Rel K G F H σ en) {p : Addr} (h : H p = none) : F p = none := R.le.free h
theorem Rel.free0 (R : Rel K G F H σ en) {p : Addr} (h : H p = none) : ¬ G.P p ∧ ∀ q ∈ G.io, q.2 ≠ p :=
  ⟨fun z => by
    obtain ⟨h1, h2, _⟩ := R.pr p z
    rw [h] at h1
    exact h2 h1.symm, fun q hq e => (R.io q hq).1 (by rw [e]; exact h)⟩
/-- THE STEP: the frozen part grows by what is new, all but the own objects at M stays; the slots go to en' -/
theorem Rel.step (R : Rel K G F H σ en) (M : Addr → Prop) (hF : Same F F') (hL : Same F' H') (hN : ∀ a, F a = none → F' a ≠ none → H a = none ∨ (¬ G.P a ∧ (∀ p ∈ G.io, p.2 ≠ a) ∧ ∀ (j : Nat) b e, en'[j]? = some (some (Ent.ow b e)) → σ[j]? ≠ some (some (V.ref a))))
    (hK : ∀ a o, H a = some o → ¬ M a → H' a = some o) (hM : ∀ a, M a → ¬ G.P a ∧ H' a ≠ none) (hlen : en'.length = en.length)
    (hfz : ∀ (i : Nat) d, en'[i]? = some (some (Ent.fz d)) → en[i]? = some (some (Ent.fz d)) ∨ ∃ v, σ[i]? = some (some v) ∧ Is K F' d v)
    (how : ∀ (i : Nat) b d, en'[i]? = some (some (Ent.ow b d)) → ∃ a e, σ[i]? = some (some (V.ref a)) ∧ en[i]? = some (some (Ent.ow b e)) ∧ OwAt K F' H' a d) : Rel K G F' H' σ en' where
  le := hL
  f0 := fun a o e => hF a o (R.f0 a o e)
  pr := fun a z => by
    obtain ⟨h1, h2, h3⟩ := R.pr a z
    refine ⟨?_, h2, fun h0 => ?_⟩
    · cases q : G.H0 a with
      | none => exact absurd q h2
      | some o => exact hK a o (by rw [h1, q]) fun m => (hM a m).1 z
    · cases q : F' a with
      | none => rfl
      | some o =>
        rcases hN a (h3 h0) (by rw [q]; simp) with y | ⟨y, _⟩
        · exact absurd z (R.free0 y).1
        · exact absurd z y
  io := fun p hp => by
    obtain ⟨h1, h2⟩ := R.io p hp
    constructor
    · by_cases m : M p.2
      · exact (hM _ m).2
      · cases q : H p.2 with
        | none => exact absurd q h1
        | some o => rw [hK _ _ q m]; simp
    · cases q : F' p.2 with
      | none => rfl
      | some o =>
        rcases hN p.2 h2 (by rw [q]; simp) with z | ⟨_, z, _⟩
        · exact absurd z h1
        · exact absurd rfl (z p hp)
  len := by rw [hlen]; exact R.len
  fz := fun i d e => by
    rcases hfz i d e with e | e
    · obtain ⟨v, h1, h2⟩ := R.fz i d e
      exact ⟨v, h1, Is.mono hF _ _ h2⟩
    · exact e
  ow := fun i b d e => by
    obtain ⟨a, e0, h1, h2, h3⟩ := how i b d e
    obtain ⟨a', k1, k2, k3, k4, k5⟩ := R.ow i b e0 h2
    rw [h1] at k1
    cases k1
    refine ⟨a, h1, ?_, h3, k4, k5⟩
    cases q : F' a with
    | none => rfl
    | some o =>
      rcases hN a k2 (by rw [q]; simp) with z | ⟨_, _, z⟩
      · exact absurd z k3.there
      · exact absurd h1 (z i b d e)
  sep := fun i j b c d e a h1 h2 h3 h4 => by
    obtain ⟨_, d0, _, k1, _⟩ := how i b d h1
    obtain ⟨_, e0, _, k2, _⟩ := how j c e h2
    exact R.sep i j b c d0 e0 a k1 k2 h3 h4
/-- from here on what is frozen now stays so -/
theorem Rel.fwd {F1 H1 : Hp} {σ1 : L2.St} {en1 : En} (R1 : Rel K G F1 H1 σ1 en1) (R : Rel K G F H σ en) (e : Same F1 F) : Rel K { G with F0 := F1 } F H σ en :=
  { R with
    f0 := e
    pr := fun a z => ⟨(R.pr a z).1, (R.pr a z).2.1, fun h => (R.pr a z).2.2 (R1.f0.free h)⟩ }
theorem Rel.bwd {F1 H1 : Hp} {σ1 : L2.St} {en1 : En} (R1 : Rel K G F1 H1 σ1 en1) (R : Rel K { G with F0 := F1 } F H σ en) : Rel K G F H σ en :=
  { R with
    f0 := R1.f0.trans R.f0
    pr := fun a z => ⟨(R.pr a z).1, (R.pr a z).2.1, fun h => (R.pr a z).2.2 ((R1.pr a z).2.2 h)⟩ }
theorem OwAt.new (h : Same F F') (k : ∀ a o, H a = some o → H' a = some o) {a : Addr} (x : OwAt K F H a d) : OwAt K F' H' a d :=
  x.move h (by
    cases q : H a with
    | none => exact absurd q x.there
    | some u => exact k _ _ q)
/-- a new object, frozen at once -/
theorem Rel.laid (R : Rel K G F H σ en) {p : Addr} {o : HO} (h : H p = none) : Rel K G (upd F p o) (upd H p o) σ en := by
  have hF := R.free h
  refine R.step (fun _ => False) (same_upd hF) (upd_mono R.le) (fun a h1 h2 => ?_) (fun a u e _ => same_upd h a u e) (fun _ z => z.elim) rfl (fun i d e => .inl e) fun i b d e => ?_
  · by_cases q : a = p
    · subst q; exact .inl h
    · rw [upd_ne q] at h2; exact absurd h1 h2
  · obtain ⟨a, h1, h2, h3, _⟩ := R.ow i b d e
    exact ⟨a, d, h1, e, h3.new (same_upd hF) (same_upd h)⟩
/-- the heap has grown -/
theorem Rel.grow (R : Rel K G F H σ en) (h : Same H H') : Rel K G F H' σ en := by
  refine R.step (fun _ => False) (Same.refl F) (R.le.trans h) (fun a h1 h2 => absurd h1 h2) (fun a u e _ => h _ _ e) (fun _ z => z.elim) rfl (fun i d e => .inl e) fun i b d e => ?_
  obtain ⟨a, h1, h2, h3, _⟩ := R.ow i b d e
  exact ⟨a, d, h1, e, h3.new (Same.refl F) h⟩
/-- a new object that is not frozen -/
theorem Rel.fresh (R : Rel K G F H σ en) {p : Addr} {o : HO} (h : H p = none) : Rel K G F (upd H p o) σ en := R.grow (same_upd h)

/-- an object of one's own that no slot holds yet -/
structure Tmp (K : KW) (G : Gh) (F H : Hp) (σ : L2.St) (en : En) (a : Addr) (d : D) : Prop where
  nf : F a = none
  at_ : OwAt K F H a d
  n0 : ¬ G.P a ∧ ∀ p ∈ G.io, p.2 ≠ a
  ns : ∀ (i : Nat) b e, en[i]? = some (some (Ent.ow b e)) → σ[i]? ≠ some (some (V.ref a))
theorem Tmp.of (R : Rel K G F H σ en) {p : Addr} {o : HO} (h : H p = none) (k : OwAt K F (upd H p o) p d) : Tmp K G F (upd H p o) σ en p d where
  nf := R.free h
  at_ := k
  n0 := R.free0 h
  ns := fun i b e h1 h2 => by
    obtain ⟨a, k1, _, k3, _⟩ := R.ow i b e h1
    rw [h2] at k1
    cases k1
    exact k3.there h
/-- such an object is frozen -/
theorem Tmp.freeze {a : Addr} {Φ : Hp → Prop} (R : Rel K G F H σ en) (T : Tmp K G F H σ en a d) (g : ∀ F2 H2, Same F F2 → Rel K G F2 H2 σ en → Is K F2 d (.ref a) → Φ H2) : Lk Φ H := by
  refine T.at_.freeze T.nf fun H2 u e1 e2 h7 => g _ H2 (same_upd T.nf) ?_ h7
  refine R.step (fun z => z = a) (same_upd T.nf) (fun b u' e => ?_) (fun b k1 k2 => ?_) (fun b u' e m => (e1 b m).trans e) (fun b z => by subst z; exact ⟨T.n0.1, by rw [e2]; simp⟩) rfl (fun j e k => .inl k) fun j b e k => ?_
  · by_cases q : b = a
    · subst q; rw [upd_same] at e; cases e; exact e2
    · rw [upd_ne q] at e; rw [e1 b q]; exact R.le _ _ e
  · by_cases q : b = a
    · subst q; exact .inr ⟨T.n0.1, T.n0.2, T.ns⟩
    · rw [upd_ne q] at k2; exact absurd k1 k2
  · obtain ⟨b', k1, k2, k3, _⟩ := R.ow j b e k
    exact ⟨b', e, k1, k, OwAt.move (same_upd T.nf) (e1 _ fun z => by subst z; exact T.ns j b e k k1) k3⟩
theorem get_lt {α : Type} {l : List α} {i : Nat} {x : α} (h : l[i]? = some x) : i < l.length := (List.getElem?_eq_some_iff.mp h).1
/-- an own slot given up -/
theorem Rel.drop (R : Rel K G F H σ en) (x : Option Ent) (hx : ∀ b e, x ≠ some (Ent.ow b e)) (hz : ∀ e, x = some (Ent.fz e) → ∃ v, σ[i]? = some (some v) ∧ Is K F e v) : Rel K G F H σ (en.set i x) := by
  refine R.step (fun _ => False) (Same.refl F) R.le (fun b k1 k2 => absurd k1 k2) (fun b u e _ => e) (fun _ z => z.elim) (by simp) (fun j e k => ?_) fun j b e k => ?_
  · by_cases z : j = i
    · subst z
      have hlt := get_lt k
      rw [List.length_set] at hlt
      rw [List.getElem?_set_self hlt] at k
      exact .inr (hz e (Option.some.inj k))
    · rw [List.getElem?_set_ne (fun q => z q.symm)] at k
      exact .inl k
  · by_cases z : j = i
    · subst z
      have hlt := get_lt k
      rw [List.length_set] at hlt
      rw [List.getElem?_set_self hlt] at k
      exact absurd (Option.some.inj k) (hx b e)
    · rw [List.getElem?_set_ne (fun q => z q.symm)] at k
      obtain ⟨b', k1, k2, k3, _⟩ := R.ow j b e k
      exact ⟨b', e, k1, k, k3⟩
/-- an own slot is frozen -/
theorem Rel.freeze {Φ : Hp → Prop} (R : Rel K G F H σ en) (h : en[i]? = some (some (Ent.ow false d))) (g : ∀ a F2 H2, σ[i]? = some (some (V.ref a)) → Same F F2 → Rel K G F2 H2 σ (en.set i (some (Ent.fz d))) → Is K F2 d (.ref a) → Φ H2) : Lk Φ H := by
  obtain ⟨a, h1, h2, h3, h4, h5, _⟩ := R.ow i false d h
  have hlt := get_lt h
  have R1 : Rel K G F H σ (en.set i none) := R.drop none (fun _ _ q => nomatch q) fun _ q => nomatch q
  have T : Tmp K G F H σ (en.set i none) a d := ⟨h2, h3, ⟨h4, h5 rfl⟩, fun j b e k1 k2 => by
    by_cases z : j = i
    · subst z
      rw [List.getElem?_set_self hlt] at k1
      cases k1
    · rw [List.getElem?_set_ne (fun q => z q.symm)] at k1
      exact z (R.sep j i b false e d a k1 h k2 h1)⟩
  refine T.freeze R1 fun F2 H2 k2 R2 k1 => g a F2 H2 h1 k2 ?_ k1
  have R3 := R2.drop (i := i) (some (Ent.fz d)) (fun _ _ q => nomatch q) fun e q => by
    cases q
    exact ⟨_, h1, k1⟩
  rwa [List.set_set] at R3
/-- an own object changes -/
theorem Rel.write (R : Rel K G F H σ en) {b : Bool} {a : Addr} {o : HO} {e : D} (h : en[i]? = some (some (Ent.ow b d))) (hs : σ[i]? = some (some (V.ref a))) (k : OwAt K F (upd H a o) a e) : Rel K G F (upd H a o) σ (en.set i (some (Ent.ow b e))) := by
  obtain ⟨a', h1, h2, h3, h4, _⟩ := R.ow i b d h
  rw [hs] at h1
  cases h1
  have hlt := get_lt h
  refine R.step (fun z => z = a) (Same.refl F) (fun c u q => ?_) (fun c k1 k2 => absurd k1 k2) (fun c u q m => by rw [upd_ne m]; exact q) (fun c z => by subst z; exact ⟨h4, by rw [upd_same]; simp⟩) (by simp) (fun j f q => ?_) fun j c f q => ?_
  · by_cases z : c = a
    · subst z; rw [h2] at q; cases q
    · rw [upd_ne z]; exact R.le _ _ q
  · by_cases z : j = i
    · subst z; rw [List.getElem?_set_self hlt] at q; cases q
    · rw [List.getElem?_set_ne (fun q => z q.symm)] at q; exact .inl q
  · by_cases z : j = i
    · subst z
      rw [List.getElem?_set_self hlt] at q
      cases q
      exact ⟨a, d, hs, h, k⟩
    · rw [List.getElem?_set_ne (fun q => z q.symm)] at q
      obtain ⟨a2, q1, q2, q3, _⟩ := R.ow j c f q
      refine ⟨a2, f, q1, q, q3.move (Same.refl F) (upd_ne fun z2 => ?_)⟩
      subst z2
      exact z (R.sep j i c b f d a2 q h q1 hs)
/-- a value goes into a slot -/
theorem Rel.put (R : Rel K G F H σ en) {v : V} (hv : Is K F d v) : Rel K G F H (σ.set i (some v)) (en.set i (some (Ent.fz d))) where
  le := R.le
  f0 := R.f0
  pr := R.pr
  io := R.io
  len := by rw [List.length_set, List.length_set]; exact R.len
  fz := fun j e k => by
    have hlt := get_lt k
    rw [List.length_set] at hlt
    by_cases z : j = i
    · subst z
      rw [List.getElem?_set_self hlt] at k
      cases k
      exact ⟨v, List.getElem?_set_self (by rw [R.len]; exact hlt), hv⟩
    · rw [List.getElem?_set_ne (fun q => z q.symm)] at k
      rw [List.getElem?_set_ne (fun q => z q.symm)]
      exact R.fz j e k
  ow := fun j b e k => by
    have hlt := get_lt k
    rw [List.length_set] at hlt
    by_cases z : j = i
    · subst z
      rw [List.getElem?_set_self hlt] at k
      cases k
    · rw [List.getElem?_set_ne (fun q => z q.symm)] at k
      rw [List.getElem?_set_ne (fun q => z q.symm)]
      exact R.ow j b e k
  sep := fun j l b c e f a k1 k2 k3 k4 => by
    have hlt := get_lt k1
    have hlt2 := get_lt k2
    rw [List.length_set] at hlt hlt2
    by_cases z : j = i
    · subst z; rw [List.getElem?_set_self hlt] at k1; cases k1
    · by_cases z2 : l = i
      · subst z2; rw [List.getElem?_set_self hlt2] at k2; cases k2
      · rw [List.getElem?_set_ne (fun q => z q.symm)] at k1 k3
        rw [List.getElem?_set_ne (fun q => z2 q.symm)] at k2 k4
        exact R.sep j l b c e f a k1 k2 k3 k4
/-- an object of one's own goes into a slot -/
theorem Rel.putO (R : Rel K G F H σ en) {a : Addr} (T : Tmp K G F H σ en a d) : Rel K G F H (σ.set i (some (.ref a))) (en.set i (some (Ent.ow false d))) where
  le := R.le
  f0 := R.f0
  pr := R.pr
  io := R.io
  len := by rw [List.length_set, List.length_set]; exact R.len
  fz := fun j e k => by
    have hlt := get_lt k
    rw [List.length_set] at hlt
    by_cases z : j = i
    · subst z
      rw [List.getElem?_set_self hlt] at k
      cases k
    · rw [List.getElem?_set_ne (fun q => z q.symm)] at k
      rw [List.getElem?_set_ne (fun q => z q.symm)]
      exact R.fz j e k
  ow := fun j b e k => by
    have hlt := get_lt k
    rw [List.length_set] at hlt
    by_cases z : j = i
    · subst z
      rw [List.getElem?_set_self hlt] at k
      cases k
      exact ⟨a, List.getElem?_set_self (by rw [R.len]; exact hlt), T.nf, T.at_, T.n0.1, fun _ => T.n0.2, fun q => nomatch q⟩
    · rw [List.getElem?_set_ne (fun q => z q.symm)] at k
      rw [List.getElem?_set_ne (fun q => z q.symm)]
      exact R.ow j b e k
  sep := fun j l b c e f a2 k1 k2 k3 k4 => by
    have hlt := get_lt k1
    have hlt2 := get_lt k2
    rw [List.length_set] at hlt hlt2
    by_cases z : j = i
    · by_cases z2 : l = i
      · rw [z, z2]
      · subst z
        rw [List.getElem?_set_self (by rw [R.len]; exact hlt)] at k3
        rw [List.getElem?_set_ne (fun q => z2 q.symm)] at k2 k4
        cases k3
        exact absurd k4 (T.ns l c f k2)
    · by_cases z2 : l = i
      · subst z2
        rw [List.getElem?_set_self (by rw [R.len]; exact hlt2)] at k4
        rw [List.getElem?_set_ne (fun q => z q.symm)] at k1 k3
        cases k4
        exact absurd k3 (T.ns j b e k1)
      · rw [List.getElem?_set_ne (fun q => z q.symm)] at k1 k3
        rw [List.getElem?_set_ne (fun q => z2 q.symm)] at k2 k4
        exact R.sep j l b c e f a2 k1 k2 k3 k4
end
end DL

/-! The D layer: dicts with keys of any plain kind. -/
namespace DL
open PySem L2

/-! ### lists of keys and of values -/
def lkp {α : Type} : List NestedKey → List α → NestedKey → Option α
  | k' :: ks, v :: vs, k => if k' = k then some v else lkp ks vs k
  | _, _, _ => none
def putL {α : Type} : List NestedKey → List α → NestedKey → α → List α
  | k' :: ks, v :: vs, k, x => if k' = k then x :: vs else v :: putL ks vs k x
  | _, vs, _, x => vs ++ [x]
def putN (ks : List NestedKey) (k : NestedKey) : List NestedKey := if k ∈ ks then ks else ks ++ [k]
def putV {α : Type} (ks : List NestedKey) (kvs : List α) (k : NestedKey) (kv : α) : List α := if k ∈ ks then kvs else kvs ++ [kv]

/-- a kind of keys told by value -/
structure FK {P : Program} {w : World} {κ : Type} [DecidableEq κ] (knd : KeyKind P w κ) where
  nk : κ → NestedKey
  kv : κ → V
  good : κ → Prop
  inj : ∀ {a b}, nk a = nk b → a = b
  rel : ∀ {k u}, good k → (knd.is k u = true ↔ RelV (kv k) u)
  hash : ∀ k, knd.hash k = (nk k).hash w

section
variable {P : Program} {w : World} {κ : Type} [DecidableEq κ] {knd : KeyKind P w κ}
theorem ents_to (f : FK knd) : ∀ {es : List DictEntry} {ks : List NestedKey} {kvs us : List V}, Ents w es ks kvs us → ∀ xs : List κ, ks = xs.map f.nk → kvs = xs.map f.kv → (∀ x ∈ xs, f.good x) →
    ∃ vs : List (κ × Value), Pairs knd es vs ∧ vs.map (·.1) = xs ∧ Vals us (vs.map (·.2)) ∧ ∀ e ∈ es, ∃ k, knd.is k e.key = true ∧ e.hash = knd.hash k := by
  intro es ks kvs us h
  induction h with
  | nil =>
    intro xs e1 e2 g
    have : xs = [] := by
      cases xs with
      | nil => rfl
      | cons _ _ => cases e1
    subst this
    exact ⟨[], .nil, rfl, .nil, fun e h => nomatch h⟩
  | @cons e es k ks kv v kvs vs h1 h2 h3 _ ih =>
    intro xs e1 e2 g
    cases xs with
    | nil => cases e1
    | cons x xs =>
      rw [List.map_cons] at e1 e2
      injection e1 with e1 e1'
      injection e2 with e2 e2'
      subst e1 e2
      obtain ⟨vs', a1, a2, a3, a4⟩ := ih xs e1' e2' fun y hy => g y (List.mem_cons_of_mem _ hy)
      have hx := (f.rel (g x (List.mem_cons_self ..))).mpr h2
      refine ⟨(x, e.val) :: vs', .cons hx rfl a1, by simp [a2], .cons h3 a3, fun e' he => ?_⟩
      rcases List.mem_cons.mp he with rfl | he
      · exact ⟨x, hx, by rw [h1, f.hash]⟩
      · exact a4 e' he
theorem FK.dictOf (f : FK knd) {h : Heap} {a : Addr} {o : Obj} {ks : List NestedKey} {kvs us : List V} (ho : h.get? a = some o) (d : DictObj w o ks kvs us) (xs : List κ) (e1 : ks = xs.map f.nk) (e2 : kvs = xs.map f.kv) (g : ∀ x ∈ xs, f.good x) :
    ∃ vs : List (κ × Value), h.DictOf knd a vs ∧ vs.map (·.1) = xs ∧ Vals us (vs.map (·.2)) := by
  obtain ⟨hx, ⟨es, ep, hd, en⟩, nd⟩ := d
  obtain ⟨vs, a1, a2, a3, a4⟩ := ents_to f en xs e1 e2 g
  refine ⟨vs, ⟨o, es, ep, ho, hx, hd, fun e he => a4 e (by simpa using he), a1, ?_⟩, a2, a3⟩
  rw [a2]
  rw [e1] at nd
  exact List.Pairwise.of_map f.nk (fun a b hab e => hab (by rw [e])) nd
theorem ents_of (f : FK knd) : ∀ {es : List DictEntry} {vs : List (κ × Value)}, Pairs knd es vs → (∀ e ∈ es, ∃ k, knd.is k e.key = true ∧ e.hash = knd.hash k) → (∀ x ∈ vs.map (·.1), f.good x) → ∀ us, Vals us (vs.map (·.2)) → Ents w es (vs.map fun v => f.nk v.1) (vs.map fun v => f.kv v.1) us := by
  intro es vs h
  induction h with
  | nil => intro _ _ us hu; cases hu; exact .nil
  | @cons e kv es kvs h1 h2 _ ih =>
    intro hk g us hu
    rw [List.map_cons] at hu
    cases hu with
    | cons r rs =>
      obtain ⟨k, k1, k2⟩ := hk e (List.mem_cons_self ..)
      have := knd.inj _ _ _ k1 h1
      subst this
      refine .cons (by rw [k2, f.hash]) ((f.rel (g _ (by simp))).mp h1) (by rw [h2]; exact r) (ih (fun e he => hk e (List.mem_cons_of_mem _ he)) (fun x hx => g x (by rw [List.map_cons]; exact List.mem_cons_of_mem _ hx)) _ rs)
theorem FK.back (f : FK knd) {h : Heap} {a : Addr} {vs : List (κ × Value)} (d : h.DictOf knd a vs) (g : ∀ x ∈ vs.map (·.1), f.good x) {us : List V} (r : Vals us (vs.map (·.2))) : DkΦ w a (vs.map fun v => f.nk v.1) (vs.map fun v => f.kv v.1) us h := by
  obtain ⟨o, es, ep, ho, hx, hd, hk, hp, nd⟩ := d
  refine ⟨o, ho, hx, ⟨es, ep, hd, ents_of f hp (fun e he => hk e (by simpa using he)) g us r⟩, ?_⟩
  have e : (vs.map fun v => f.nk v.1) = (vs.map (·.1)).map f.nk := by rw [List.map_map]; rfl
  rw [e]
  exact List.Pairwise.map f.nk (fun a b hab e => hab (f.inj e)) nd
theorem FK.lkp (f : FK knd) (k : κ) : ∀ (vs : List (κ × Value)) (us : List V), Vals us (vs.map (·.2)) → RelO (lkp (vs.map fun v => f.nk v.1) us (f.nk k)) (valueAt vs k)
  | [], us, r => by cases r; exact True.intro
  | v :: vs, us, r => by
    rw [List.map_cons] at r
    cases r with
    | cons r rs =>
      have ih := FK.lkp f k vs _ rs
      by_cases e : v.1 = k
      · have e2 : valueAt (v :: vs) k = some v.2 := by simp [valueAt, e]
        rw [e2, List.map_cons, DL.lkp, if_pos (by rw [e])]
        exact r
      · have e2 : valueAt (v :: vs) k = valueAt vs k := by simp [valueAt, e]
        rw [e2, List.map_cons, DL.lkp, if_neg (fun z => e (f.inj z))]
        exact ih
theorem FK.mem (f : FK knd) {vs : List (κ × Value)} {k : κ} : f.nk k ∈ (vs.map fun v => f.nk v.1) ↔ (vs.any fun kv => decide (kv.1 = k)) = true := by
  rw [List.any_eq_true, List.mem_map]
  constructor
  · rintro ⟨x, h1, h2⟩; exact ⟨x, h1, decide_eq_true (f.inj h2)⟩
  · rintro ⟨x, h1, h2⟩; exact ⟨x, h1, by rw [of_decide_eq_true h2]⟩
theorem putL_new {α : Type} {k : NestedKey} {x : α} : ∀ {ks : List NestedKey} {vs : List α}, k ∉ ks → putL ks vs k x = vs ++ [x]
  | [], vs, _ => by cases vs <;> rfl
  | _ :: _, [], _ => rfl
  | k' :: ks, v :: vs, h => by
    rw [List.mem_cons, not_or] at h
    rw [putL, if_neg (fun e => h.1 e.symm), putL_new h.2]
    rfl
theorem FK.put (f : FK knd) {k : κ} {v : Value} {x : V} (rx : RelV x v) (vs : List (κ × Value)) (us : List V) (r : Vals us (vs.map (·.2))) (nd : (vs.map (·.1)).Nodup) :
    ((stored vs k v).map fun v => f.nk v.1) = putN (vs.map fun v => f.nk v.1) (f.nk k) ∧ ((stored vs k v).map fun v => f.kv v.1) = putV (vs.map fun v => f.nk v.1) (vs.map fun v => f.kv v.1) (f.nk k) (f.kv k) ∧
    Vals (putL (vs.map fun v => f.nk v.1) us (f.nk k) x) ((stored vs k v).map (·.2)) ∧ ∀ y ∈ (stored vs k v).map (·.1), y = k ∨ y ∈ vs.map (·.1) := by
  unfold stored putN putV
  by_cases hm : (vs.any fun kv => decide (kv.1 = k)) = true
  · have hm' := f.mem.mpr hm
    rw [if_pos hm, if_pos hm', if_pos hm']
    refine ⟨?_, ?_, ?_, ?_⟩
    · rw [List.map_map]
      refine List.map_congr_left fun y _ => ?_
      by_cases e : y.1 = k <;> simp [e]
    · rw [List.map_map]
      refine List.map_congr_left fun y _ => ?_
      by_cases e : y.1 = k <;> simp [e]
    · clear hm'
      induction vs generalizing us with
      | nil => simp at hm
      | cons y vs ih =>
        rw [List.map_cons] at r
        rw [List.map_cons, List.nodup_cons] at nd
        cases r with
        | @cons u _ us _ r rs =>
          rw [List.map_cons]
          by_cases e : y.1 = k
          · have e2 : (vs.map fun kv => if kv.1 = k then (kv.1, v) else kv) = vs := map_store_of_not_mem vs k v (by rw [← e]; exact nd.1)
            rw [putL, if_pos (by rw [e]), List.map_cons, List.map_cons, if_pos e, e2]
            exact .cons rx rs
          · rw [putL, if_neg (fun z => e (f.inj z)), List.map_cons, List.map_cons, if_neg e]
            refine .cons r (ih us rs nd.2 ?_)
            simpa [e] using hm
    · intro y hy
      rw [List.map_map] at hy
      obtain ⟨z, h1, h2⟩ := List.mem_map.mp hy
      right
      refine List.mem_map.mpr ⟨z, h1, ?_⟩
      rw [← h2]
      by_cases e : z.1 = k <;> simp [e]
  · have hm' : f.nk k ∉ (vs.map fun v => f.nk v.1) := fun z => hm (f.mem.mp z)
    rw [if_neg hm, if_neg hm', if_neg hm', putL_new hm']
    refine ⟨by simp, by simp, ?_, fun y hy => ?_⟩
    · rw [List.map_append]
      exact r.append (.cons rx .nil)
    · rw [List.map_append, List.mem_append] at hy
      rcases hy with hy | hy
      · exact .inr hy
      · exact .inl (by simpa using hy)
end

/-- ints and texts -/
def nkM : Key → NestedKey
  | .inl i => .num i
  | .inr x => .text x
def fkM (P : Program) (w : World) : FK (mixKind P w) where
  nk := nkM
  kv := kV
  good := fun _ => True
  inj := fun {a b} e => by cases a <;> cases b <;> cases e <;> rfl
  rel := fun {k u} _ => ⟨fun h => relV_key h, fun h => kV_is (P := P) (w := w) h⟩
  hash := fun k => by cases k <;> rfl
/-- None and texts -/
def kvLf : Leaf → V
  | .none => .non
  | .num i => .int i
  | .text x => .str x
def fkL (P : Program) (w : World) : FK (leafKind P w) where
  nk := Leaf.key
  kv := kvLf
  good := fun k => match k with
    | .num _ => False
    | _ => True
  inj := fun {a b} e => by cases a <;> cases b <;> cases e <;> rfl
  rel := fun {k u} g => by
    cases k with
    | none => exact ⟨fun h => by cases u <;> first | rfl | exact absurd h Bool.false_ne_true, fun h => by cases h; rfl⟩
    | num i => exact g.elim
    | text x => exact ⟨fun h => by
        obtain ⟨t, e⟩ := Value.isStrOf_shape (show Value.isStrOf x u = true from h)
        exact ⟨t, e⟩, fun h => by
        obtain ⟨t, rfl⟩ := h
        show Value.isStrOf x (.str x t) = true
        simp [Value.isStrOf]⟩
  hash := fun k => rfl

/-! ### tuples as keys -/
section
variable {P : Program} {w : World}
theorem ents_toH : ∀ {es : List DictEntry} {ks : List NestedKey} {kvs us : List V}, Ents w es ks kvs us → ∀ as : List Addr, kvs = as.map V.ref → ∃ xs : List (NestedKey × Addr × Value), es = xs.map (entryOfKey (nestedKind P w)) ∧ xs.map (·.1) = ks ∧ xs.map (·.2.1) = as ∧ Vals us (xs.map (·.2.2)) := by
  intro es ks kvs us h
  induction h with
  | nil =>
    intro as e
    cases as with
    | nil => exact ⟨[], rfl, rfl, rfl, .nil⟩
    | cons _ _ => cases e
  | @cons e es k ks kv v kvs vs h1 h2 h3 _ ih =>
    intro as e1
    cases as with
    | nil => cases e1
    | cons a as =>
      rw [List.map_cons] at e1
      injection e1 with e1 e2
      subst e1
      obtain ⟨xs, a1, a2, a3, a4⟩ := ih as e2
      refine ⟨(k, a, e.val) :: xs, ?_, by simp [a2], by simp [a3], .cons h3 a4⟩
      rw [List.map_cons, ← a1]
      congr 1
      have : e.key = .ref a := h2
      cases e
      simp only at h1 this
      subst h1 this
      rfl
theorem ents_ofH : ∀ {xs : List (NestedKey × Addr × Value)} {us : List V}, Vals us (xs.map (·.2.2)) → Ents w (xs.map (entryOfKey (nestedKind P w))) (xs.map (·.1)) (xs.map fun x => V.ref x.2.1) us
  | [], us, r => by cases r; exact .nil
  | x :: xs, us, r => by
    rw [List.map_cons] at r
    cases r with
    | cons r rs => exact .cons rfl rfl r (ents_ofH rs)
theorem lkpH (k : NestedKey) : ∀ (xs : List (NestedKey × Addr × Value)) (us : List V), Vals us (xs.map (·.2.2)) → RelO (lkp (xs.map (·.1)) us k) ((atKey xs k).map (·.2))
  | [], us, r => by cases r; exact True.intro
  | x :: xs, us, r => by
    rw [List.map_cons] at r
    cases r with
    | cons r rs =>
      have ih := lkpH k xs _ rs
      by_cases e : x.1 = k
      · have e2 : atKey (x :: xs) k = some x.2 := by simp [atKey, e]
        rw [e2, List.map_cons, DL.lkp, if_pos e]
        exact r
      · have e2 : atKey (x :: xs) k = atKey xs k := by simp [atKey, e]
        rw [e2, List.map_cons, DL.lkp, if_neg e]
        exact ih
theorem memH {xs : List (NestedKey × Addr × Value)} {k : NestedKey} : k ∈ xs.map (·.1) ↔ (atKey xs k).isSome = true := by
  induction xs with
  | nil => simp [atKey]
  | cons x xs ih =>
    by_cases e : x.1 = k
    · simp [atKey, e]
    · have e2 : atKey (x :: xs) k = atKey xs k := by simp [atKey, e]
      rw [e2, List.map_cons, List.mem_cons, ← ih]
      constructor
      · rintro (h | h)
        · exact absurd h.symm e
        · exact h
      · exact .inr
theorem putH {k : NestedKey} {b : Addr} {v : Value} {x : V} (rx : RelV x v) (xs : List (NestedKey × Addr × Value)) (us : List V) (r : Vals us (xs.map (·.2.2))) (nd : (xs.map (·.1)).Nodup) :
    (storedH xs k b v).map (·.1) = putN (xs.map (·.1)) k ∧ ((storedH xs k b v).map fun x => V.ref x.2.1) = putV (xs.map (·.1)) (xs.map fun x => V.ref x.2.1) k (.ref b) ∧
    Vals (putL (xs.map (·.1)) us k x) ((storedH xs k b v).map (·.2.2)) := by
  unfold storedH putN putV
  by_cases hm : (atKey xs k).isSome = true
  · have hm' := memH.mpr hm
    rw [if_pos hm, if_pos hm', if_pos hm']
    refine ⟨keys_map_putAt xs k v, ?_, ?_⟩
    · rw [List.map_map]
      refine List.map_congr_left fun y _ => ?_
      by_cases e : y.1 = k <;> simp [putAt, e]
    · clear hm'
      induction xs generalizing us with
      | nil => simp [atKey] at hm
      | cons y xs ih =>
        rw [List.map_cons] at r
        rw [List.map_cons, List.nodup_cons] at nd
        cases r with
        | @cons u _ us _ r rs =>
          rw [List.map_cons]
          by_cases e : y.1 = k
          · rw [putL, if_pos e, List.map_cons, List.map_cons, map_putAt_of_not_mem xs k v (by rw [← e]; exact nd.1), putAt, if_pos e]
            exact .cons rx rs
          · rw [putL, if_neg e, List.map_cons, List.map_cons, putAt, if_neg e]
            refine .cons r (ih us rs nd.2 ?_)
            simpa [atKey, e] using hm
  · have hm' : k ∉ xs.map (·.1) := fun z => hm (memH.mp z)
    rw [if_neg hm, if_neg hm', if_neg hm', putL_new hm']
    refine ⟨by simp, by simp, ?_⟩
    rw [List.map_append]
    exact r.append (.cons rx .nil)
end

/-! ### keys as the heap has them -/
mutual
def KeyV (K : Fg) (H : Hp) : NestedKey → V → Prop
  | .none, v => v = .non
  | .num i, v => v = .int i
  | .text s, v => v = .str s
  | .tup ks, v => ∃ a vs, v = .ref a ∧ SqT K H a vs ∧ KeyVs K H ks vs
def KeyVs (K : Fg) (H : Hp) : List NestedKey → List V → Prop
  | [], vs => vs = []
  | k :: ks, vs => ∃ v r, vs = v :: r ∧ KeyV K H k v ∧ KeyVs K H ks r
end
mutual
theorem keyV_of {K : KW} {F H : Hp} (e : Same F H) : ∀ (d : D) (k : NestedKey) (v : V), nkD d = some k → Is K F d v → KeyV K H k v
  | .non, _, _, h, i => by cases h; cases i; exact rfl
  | .int _, _, _, h, i => by cases h; cases i; exact rfl
  | .str _, _, _, h, i => by cases h; cases i; exact rfl
  | .tup ds, _, _, h, ⟨a, vs, q, s, l⟩ => by
    unfold nkD at h
    cases hk : nkL ds with
    | none => rw [hk] at h; cases h
    | some ks =>
      rw [hk] at h
      cases h
      exact ⟨a, vs, q, SqT.same e s, keyVs_of e ds ks vs hk l⟩
  | .bl _, _, _, h, _ => nomatch h
  | .lst _, _, _, h, _ => nomatch h
  | .lck _, _, _, h, _ => nomatch h
  | .dct _ _, _, _, h, _ => nomatch h
  | .obj _ _ _, _, _, h, _ => nomatch h
theorem keyVs_of {K : KW} {F H : Hp} (e : Same F H) : ∀ (ds : List D) (ks : List NestedKey) (vs : List V), nkL ds = some ks → IsL K F ds vs → KeyVs K H ks vs
  | [], _, _, h, i => by cases h; cases i; exact rfl
  | d :: ds, _, _, h, ⟨v, r, q, i, l⟩ => by
    unfold nkL at h
    cases hk : nkD d with
    | none => rw [hk] at h; cases h
    | some k =>
      cases hl : nkL ds with
      | none => rw [hk, hl] at h; cases h
      | some ks =>
        rw [hk, hl] at h
        cases h
        exact ⟨v, r, q, keyV_of e d k v hk i, keyVs_of e ds ks r hl l⟩
end
section
variable {X : Cx} {pins : List (Addr × Obj)} {σ : L2.St} {H : Hp} {s : Shared}
mutual
theorem nested_of (I : L2.Inv X pins σ H s) : ∀ (k : NestedKey) (v : V) (u : Value), KeyV X.K H k v → RelV v u → NestedIs s.heap k u
  | .none, _, _, h, r => by cases h; cases r; exact .none
  | .num _, _, _, h, r => by cases h; obtain ⟨t, rfl⟩ := r; exact .int _ _
  | .text _, _, _, h, r => by cases h; obtain ⟨t, rfl⟩ := r; exact .text _ _
  | .tup ks, _, _, ⟨a, vs, q, s1, l⟩, r => by
    subst q
    cases r
    obtain ⟨its, rv, ⟨o, h1, h2, n, h3⟩, z⟩ := I.tuple s1
    exact .tup h1 h2 h3 (nesteds_of I ks vs its l rv)
theorem nesteds_of (I : L2.Inv X pins σ H s) : ∀ (ks : List NestedKey) (vs : List V) (us : List Value), KeyVs X.K H ks vs → Vals vs us → NestedAll s.heap ks us
  | [], _, _, h, r => by cases h; cases r; exact .nil
  | k :: ks, _, _, ⟨v, r, q, h, l⟩, rv => by
    subst q
    cases rv with
    | cons r1 rs => exact .cons (nested_of I k v _ h r1) (nesteds_of I ks r _ l rs)
end
end
def tupNK : NestedKey → Bool
  | .tup l => decide ((NestedKey.tup l).depth ≤ 8)
  | _ => false
/-- the key k, carried by kv, goes with the keys ks, carried by kvs -/
def Kfit (K : Fg) (H : Hp) (ks : List NestedKey) (kvs : List V) (k : NestedKey) (kv : V) : Prop :=
  (∃ (xs : List Key) (x : Key), ks = xs.map nkM ∧ kvs = xs.map kV ∧ k = nkM x ∧ kv = kV x) ∨
  (∃ (xs : List Leaf) (x : Leaf), (∀ y ∈ xs, ∀ i, y ≠ .num i) ∧ (∀ i, x ≠ .num i) ∧ ks = xs.map Leaf.key ∧ kvs = xs.map kvLf ∧ k = x.key ∧ kv = kvLf x) ∨
  (KeyVs K H ks kvs ∧ ks.all tupNK = true ∧ KeyV K H k kv ∧ tupNK k = true)
/-- at a stands a dict -/
def DAt (w : World) (H : Hp) (a : Addr) (ks : List NestedKey) (kvs us : List V) : Prop := (a == sysModules) = false ∧ ((∃ o u, H a = some (.frz o u) ∧ DictObj w o ks kvs us) ∨ H a = some (.ext (DkΦ w a ks kvs us)))
theorem DAt.obj {X : Cx} {pins : List (Addr × Obj)} {σ : L2.St} {H : Hp} {s : Shared} {a : Addr} {ks : List NestedKey} {kvs us : List V} (I : L2.Inv X pins σ H s) (h : DAt X.w H a ks kvs us) : ∃ o, s.heap.get? a = some o ∧ DictObj X.w o ks kvs us := by
  rcases h.2 with ⟨o, u, e, d⟩ | e
  · exact ⟨o, (I.hok a _ e).1, d⟩
  · exact (I.hok a _ e).1
theorem goodL {xs : List Leaf} (h : ∀ y ∈ xs, ∀ i, y ≠ .num i) (P : Program) (w : World) : ∀ y ∈ xs, (fkL P w).good y := fun y hy => by
  have := h y hy
  cases y with
  | num i => exact absurd rfl (this i)
  | _ => trivial
theorem keyAddr {K : Fg} {H : Hp} : ∀ {ks : List NestedKey} {kvs : List V}, KeyVs K H ks kvs → ks.all tupNK = true → ∃ as : List Addr, kvs = as.map V.ref
  | [], _, h, _ => by cases h; exact ⟨[], rfl⟩
  | k :: ks, _, ⟨v, r, q, h, l⟩, t => by
    subst q
    rw [List.all_cons, Bool.and_eq_true] at t
    obtain ⟨as, rfl⟩ := keyAddr l t.2
    cases k with
    | tup l =>
      obtain ⟨a, vs, rfl, _⟩ := h
      exact ⟨a :: as, rfl⟩
    | _ => exact absurd t.1 Bool.false_ne_true
theorem nested_at {h : Heap} : ∀ {xs : List (NestedKey × Addr × Value)}, NestedAll h (xs.map (·.1)) (xs.map fun x => Value.ref x.2.1) → (xs.map (·.1)).all tupNK = true → ∀ x ∈ xs, NestedIs h x.1 (.ref x.2.1) ∧ x.1.depth ≤ 8
  | [], _, _, x, hx => nomatch hx
  | y :: ys, n, t, x, hx => by
    rw [List.map_cons, List.map_cons] at n
    rw [List.map_cons, List.all_cons, Bool.and_eq_true] at t
    cases n with
    | cons n1 n2 =>
      rcases List.mem_cons.mp hx with rfl | hx
      · refine ⟨n1, ?_⟩
        have := t.1
        cases hk : x.1 with
        | tup l => rw [hk] at this; exact of_decide_eq_true this
        | _ => rw [hk] at this; exact absurd this Bool.false_ne_true
      · exact nested_at n2 t.2 x hx
theorem depth_of {k : NestedKey} (h : tupNK k = true) : k.depth ≤ 8 := by
  cases k with
  | tup l => exact of_decide_eq_true h
  | _ => exact absurd h Bool.false_ne_true
section
variable {X : Cx} {pins : List (Addr × Obj)} {σ : L2.St} {H : Hp} {s : Shared} {a : Addr} {ks : List NestedKey} {kvs us : List V} {k : NestedKey} {kv : V} {u : Value}
theorem dictH (I : L2.Inv X pins σ H s) (hd : DAt X.w H a ks kvs us) (h1 : KeyVs X.K H ks kvs) (h2 : ks.all tupNK = true) : ∃ xs, s.heap.DictOfH (nestedKind X.prog X.w) a xs ∧ xs.map (·.1) = ks ∧ (xs.map fun x => V.ref x.2.1) = kvs ∧ Vals us (xs.map (·.2.2)) := by
  obtain ⟨o, ho, hx, ⟨es, ep, hdt, en⟩, nd⟩ := hd.obj I
  obtain ⟨as, rfl⟩ := keyAddr h1 h2
  obtain ⟨xs, a1, a2, a3, a4⟩ := ents_toH (P := X.prog) en as rfl
  refine ⟨xs, ⟨o, es, ep, ho, hx, hdt, a1, ?_, by rw [a2]; exact nd⟩, a2, by rw [← a3, List.map_map]; rfl, a4⟩
  refine nested_at ?_ (by rw [a2]; exact h2)
  rw [a2]
  refine nesteds_of I ks _ _ h1 ?_
  rw [← a3]
  have : ∀ l : List (NestedKey × Addr × Value), Vals ((l.map (·.2.1)).map V.ref) (l.map fun x => Value.ref x.2.1) := fun l => by
    induction l with
    | nil => exact .nil
    | cons y l ih => exact .cons rfl ih
  exact this xs
theorem keyH_of (I : L2.Inv X pins σ H s) (h : KeyV X.K H k kv) (t : tupNK k = true) (r : RelV kv u) : ∃ b, kv = .ref b ∧ u = .ref b ∧ (nestedKind X.prog X.w).is s.heap k b := by
  have n := nested_of I k kv u h r
  have hd := depth_of t
  cases k with
  | tup l =>
    obtain ⟨b, vs, rfl, _⟩ := h
    cases r
    exact ⟨b, rfl, rfl, n, hd⟩
  | _ => exact absurd t Bool.false_ne_true
variable {A : Around} {E : Value → Shared → Prop}
/-- d[y], there -/
theorem dd_getItem {v : V} {Q : Value → Shared → Prop} (hu : A.units + 64 < cLine) (I : L2.Inv X pins σ H s) (hd : DAt X.w H a ks kvs us) (hf : Kfit X.K H ks kvs k kv) (hl : lkp ks us k = some v) (ry : RelV kv u) (h : ∀ w' s', L2.Inv X pins σ H s' → RelV v w' → Q w' s') :
    wpAny (model X.prog X.w) A (getItem (.ref a) u) Q E s := by
  rcases hf with ⟨xs, x, e1, e2, e3, e4⟩ | ⟨xs, x, g1, g2, e1, e2, e3, e4⟩ | ⟨h1, h2, h3, h4⟩
  · obtain ⟨o, ho, d⟩ := hd.obj I
    obtain ⟨vs, dd, a2, a3⟩ := (fkM X.prog X.w).dictOf ho d xs e1 e2 fun _ _ => trivial
    have rl := (fkM X.prog X.w).lkp x vs us a3
    have e5 : (vs.map fun v => (fkM X.prog X.w).nk v.1) = ks := by rw [e1, ← a2, List.map_map]; rfl
    rw [e5, show (fkM X.prog X.w).nk x = k from e3.symm, hl] at rl
    obtain ⟨w', hw, rw'⟩ := RelO.some_of (v := v) (o := valueAt vs x) rl
    subst e4
    exact wpAny_getItem_of (kV_is (P := X.prog) (w := X.w) ry) dd.mapOf hw (h w' _ (I.tok _) rw')
  · obtain ⟨o, ho, d⟩ := hd.obj I
    obtain ⟨vs, dd, a2, a3⟩ := (fkL X.prog X.w).dictOf ho d xs e1 e2 (goodL g1 _ _)
    have rl := (fkL X.prog X.w).lkp x vs us a3
    have e5 : (vs.map fun v => (fkL X.prog X.w).nk v.1) = ks := by rw [e1, ← a2, List.map_map]; rfl
    rw [e5, show (fkL X.prog X.w).nk x = k from e3.symm, hl] at rl
    obtain ⟨w', hw, rw'⟩ := RelO.some_of (v := v) (o := valueAt vs x) rl
    subst e4
    exact wpAny_getItem_of (((fkL X.prog X.w).rel (goodL (xs := [x]) (by simpa using g2) _ _ x (by simp))).mpr ry) dd.mapOf hw (h w' _ (I.tok _) rw')
  · obtain ⟨xs, dd, a2, a3, a4⟩ := dictH I hd h1 h2
    obtain ⟨b, rfl, rfl, kb⟩ := keyH_of I h3 h4 ry
    have rl := lkpH k xs us a4
    rw [a2, hl] at rl
    obtain ⟨w', hw, rw'⟩ := RelO.some_of (v := v) (o := (atKey xs k).map (·.2)) rl
    obtain ⟨p, hp, hp2⟩ := Option.map_eq_some_iff.mp hw
    refine wpAny_getItem_heap (show A.in1.units + 8 < cLine by show A.units + 1 + 8 < cLine; omega) kb dd hp ?_
    rw [hp2]
    exact h w' _ (I.tok _) rw'

/-- the flat kinds, in one -/
theorem flat_cases (I : L2.Inv X pins σ H s) (hd : DAt X.w H a ks kvs us) (hf : Kfit X.K H ks kvs k kv) (ry : RelV kv u) {R : Prop}
    (flat : ∀ {κ : Type} [DecidableEq κ] (knd : KeyKind X.prog X.w κ) (f : FK knd) (vs : List (κ × Value)) (x : κ), s.heap.DictOf knd a vs → Vals us (vs.map (·.2)) → (vs.map fun v => f.nk v.1) = ks → (vs.map fun v => f.kv v.1) = kvs → (∀ y ∈ vs.map (·.1), f.good y) → f.good x → k = f.nk x → kv = f.kv x → knd.is x u = true → (keyPart u).isSome = true ∨ kv = .non → R)
    (tup : ∀ (xs : List (NestedKey × Addr × Value)) (b : Addr), s.heap.DictOfH (nestedKind X.prog X.w) a xs → xs.map (·.1) = ks → (xs.map fun x => V.ref x.2.1) = kvs → Vals us (xs.map (·.2.2)) → kv = .ref b → u = .ref b → (nestedKind X.prog X.w).is s.heap k b → R) : R := by
  rcases hf with ⟨xs, x, e1, e2, e3, e4⟩ | ⟨xs, x, g1, g2, e1, e2, e3, e4⟩ | ⟨h1, h2, h3, h4⟩
  · obtain ⟨o, ho, d⟩ := hd.obj I
    obtain ⟨vs, dd, a2, a3⟩ := (fkM X.prog X.w).dictOf ho d xs e1 e2 fun _ _ => trivial
    refine flat _ (fkM X.prog X.w) vs x dd a3 (by rw [e1, ← a2, List.map_map]; rfl) (by rw [e2, ← a2, List.map_map]; rfl) (fun _ _ => trivial) trivial e3 e4 (((fkM X.prog X.w).rel trivial).mpr (by rw [e4] at ry; exact ry)) (.inl ?_)
    subst e4
    cases x with
    | inl i => obtain ⟨t, rfl⟩ := ry; rfl
    | inr i => obtain ⟨t, rfl⟩ := ry; rfl
  · obtain ⟨o, ho, d⟩ := hd.obj I
    obtain ⟨vs, dd, a2, a3⟩ := (fkL X.prog X.w).dictOf ho d xs e1 e2 (goodL g1 _ _)
    have gx := goodL (xs := [x]) (by simpa using g2) X.prog X.w x (by simp)
    refine flat _ (fkL X.prog X.w) vs x dd a3 (by rw [e1, ← a2, List.map_map]; rfl) (by rw [e2, ← a2, List.map_map]; rfl) (by rw [a2]; exact goodL g1 _ _) gx e3 e4 (((fkL X.prog X.w).rel gx).mpr (by rw [e4] at ry; exact ry)) ?_
    subst e4
    cases x with
    | none => exact .inr rfl
    | num i => exact absurd rfl (g2 i)
    | text i => obtain ⟨t, rfl⟩ := ry; exact .inl rfl
  · obtain ⟨xs, dd, a2, a3, a4⟩ := dictH I hd h1 h2
    obtain ⟨b, e1, e2, kb⟩ := keyH_of I h3 h4 ry
    exact tup xs b dd a2 a3 a4 e1 e2 kb
theorem room8 (hu : A.units + 64 < cLine) : (nestedKind X.prog X.w).room A.in1 := show A.in1.units + 8 < cLine by show A.units + 1 + 8 < cLine; omega
/-- y in d -/
theorem dd_in {Q : Value → Shared → Prop} (hu : A.units + 64 < cLine) (I : L2.Inv X pins σ H s) (hd : DAt X.w H a ks kvs us) (hf : Kfit X.K H ks kvs k kv) (ry : RelV kv u) (h : ∀ s', L2.Inv X pins σ H s' → Q (.bool (lkp ks us k).isSome) s') :
    wpAny (model X.prog X.w) A (compareOp .In u (.ref a)) Q E s := by
  refine flat_cases I hd hf ry (fun knd f vs x dd r e1 e2 g gx ek ev hi _ => ?_) fun xs b dd e1 e2 r ev eu kb => ?_
  · refine wpAny_in_of hi hd.1 dd.mapOf ?_
    have rl := f.lkp x vs us r
    rw [e1, ← ek] at rl
    rw [← RelO.isSome_eq rl]
    exact h _ (I.tok _)
  · subst eu
    refine wpAny_in_heap (room8 hu) kb hd.1 dd ?_
    have rl := RelO.isSome_eq (lkpH k xs us r)
    rw [Option.isSome_map, e1] at rl
    rw [← rl]
    exact h _ (I.tok _)
theorem dd_notIn {Q : Value → Shared → Prop} (hu : A.units + 64 < cLine) (I : L2.Inv X pins σ H s) (hd : DAt X.w H a ks kvs us) (hf : Kfit X.K H ks kvs k kv) (ry : RelV kv u) (h : ∀ s', L2.Inv X pins σ H s' → Q (.bool (!(lkp ks us k).isSome)) s') :
    wpAny (model X.prog X.w) A (compareOp .NotIn u (.ref a)) Q E s := by
  refine flat_cases I hd hf ry (fun knd f vs x dd r e1 e2 g gx ek ev hi _ => ?_) fun xs b dd e1 e2 r ev eu kb => ?_
  · refine wpAny_notIn_of hi hd.1 dd.mapOf ?_
    have rl := f.lkp x vs us r
    rw [e1, ← ek] at rl
    rw [← RelO.isSome_eq rl]
    exact h _ (I.tok _)
  · subst eu
    refine PyProof.Rows.wpAny_notIn_heap (room8 hu) kb hd.1 dd ?_
    have rl := RelO.isSome_eq (lkpH k xs us r)
    rw [Option.isSome_map, e1] at rl
    rw [← rl]
    exact h _ (I.tok _)
/-- d.get(y), d.get(y, x) -/
theorem dd_get1 {Q : Value → Shared → Prop} (hu : A.units + 64 < cLine) (I : L2.Inv X pins σ H s) (hd : DAt X.w H a ks kvs us) (hf : Kfit X.K H ks kvs k kv) (ry : RelV kv u) (h : ∀ w' s', L2.Inv X pins σ H s' → RelV ((lkp ks us k).getD .non) w' → Q w' s') :
    wpAny (model X.prog X.w) A (call (.builtin "dict.get") [.ref a, u]) Q E s := by
  refine flat_cases I hd hf ry (fun knd f vs x dd r e1 e2 g gx ek ev hi _ => ?_) fun xs b dd e1 e2 r ev eu kb => ?_
  · have rl := f.lkp x vs us r
    rw [e1, ← ek] at rl
    exact call_meetsIn PySem.F.slot_dict_get dd.typeIs PySem.F.entry_dict_get (PySem.F.args_dict_get_2 _ _) (meets_dict_get knd a hi hd.1) ⟨_, dd.mapOf, h _ _ (I.tok _) (rl.getD rfl)⟩
  · subst eu
    have rl := lkpH k xs us r
    rw [e1] at rl
    exact call_meetsIn PySem.F.slot_dict_get dd.typeIs PySem.F.entry_dict_get (PySem.F.args_dict_get_2 _ _) (meetsH_dict_get (nestedKind X.prog X.w) a b hd.1) ⟨room8 hu, k, xs, kb, dd, h _ _ (I.tok _) (rl.getD rfl)⟩
theorem dd_get2 {d : V} {r' : Value} {Q : Value → Shared → Prop} (hu : A.units + 64 < cLine) (I : L2.Inv X pins σ H s) (hd : DAt X.w H a ks kvs us) (hf : Kfit X.K H ks kvs k kv) (ry : RelV kv u) (rd : RelV d r') (h : ∀ w' s', L2.Inv X pins σ H s' → RelV ((lkp ks us k).getD d) w' → Q w' s') :
    wpAny (model X.prog X.w) A (call (.builtin "dict.get") [.ref a, u, r']) Q E s := by
  refine flat_cases I hd hf ry (fun knd f vs x dd r e1 e2 g gx ek ev hi _ => ?_) fun xs b dd e1 e2 r ev eu kb => ?_
  · have rl := f.lkp x vs us r
    rw [e1, ← ek] at rl
    exact call_meetsIn PySem.F.slot_dict_get dd.typeIs PySem.F.entry_dict_get (PySem.F.args_dict_get_3 _ _ _) (meets_dict_get_default knd a hi hd.1 r') ⟨_, dd.mapOf, h _ _ (I.tok _) (rl.getD rd)⟩
  · subst eu
    have rl := lkpH k xs us r
    rw [e1] at rl
    exact call_meetsIn PySem.F.slot_dict_get dd.typeIs PySem.F.entry_dict_get (PySem.F.args_dict_get_3 _ _ _) (meetsH_dict_get_default (nestedKind X.prog X.w) a b hd.1 r') ⟨room8 hu, k, xs, kb, dd, h _ _ (I.tok _) (rl.getD rd)⟩
theorem ents_len {w : World} {es : List DictEntry} {ks : List NestedKey} {kvs us : List V} (h : Ents w es ks kvs us) : es.length = ks.length ∧ kvs.length = ks.length ∧ us.length = ks.length := by
  induction h with
  | nil => exact ⟨rfl, rfl, rfl⟩
  | cons _ _ _ _ ih => exact ⟨by simp [ih.1], by simp [ih.2.1], by simp [ih.2.2]⟩
theorem dkφ_ext {w : World} {a : Addr} {ks : List NestedKey} {kvs us : List V} {P : Program} {H : Hp} {h : Heap} (x : DkΦ w a ks kvs us h) : ObjOk P w H h a (.ext (DkΦ w a ks kvs us)) :=
  ⟨x, x.imp fun _ y => y.1, fun h1 h2 ⟨o, e, d⟩ k => ⟨o, k o e, d⟩⟩
/-- d[y] = v -/
theorem dd_setItem {v : V} {r' : Value} {Q : Unit → Shared → Prop} (hu : A.units + 64 < cLine) (I : L2.Inv X pins σ H s) (hs : (a == sysModules) = false) (he : H a = some (.ext (DkΦ X.w a ks kvs us))) (hz : ks.length < sizeLine) (hf : Kfit X.K H ks kvs k kv) (ry : RelV kv u) (rv : RelV v r')
    (h : ∀ s', L2.Inv X pins σ (upd H a (.ext (DkΦ X.w a (putN ks k) (putV ks kvs k kv) (putL ks us k v)))) s' → Q () s') : wpAny (model X.prog X.w) A (setItem (.ref a) u r') Q E s := by
  have hd : DAt X.w H a ks kvs us := ⟨hs, .inr he⟩
  refine flat_cases I hd hf ry (fun knd f vs x dd r e1 e2 g gx ek ev hi _ => ?_) fun xs b dd e1 e2 r ev eu kb => ?_
  · have hl : vs.length = ks.length := by rw [← e1, List.length_map]
    refine wpAny_setItem_pairs (hsz := by omega) hi dd fun h' dd' hs => h _ ?_
    have ho : ∃ q, h'.get? a = some q := let ⟨q, _, _, hq, _⟩ := dd'; ⟨q, hq⟩
    have nd : (vs.map (·.1)).Nodup := let ⟨_, _, _, _, _, _, _, _, n⟩ := dd; n
    obtain ⟨p1, p2, p3, p4⟩ := f.put (k := x) rv vs us r nd
    have bk := f.back dd' (fun y hy => by
      rcases p4 y hy with rfl | hy
      · exact gx
      · exact g y hy) p3
    rw [p1, p2, e1, e2, ← ek, ← ev] at bk
    exact I.write (x := a) (e := a) (by rw [he]; exact True.intro) (.inl rfl) (fun b q hb z => (hs.2 b hb).trans z) ho (dkφ_ext bk)
  · subst eu
    have hl : xs.length = ks.length := by rw [← e1, List.length_map]
    refine wpAny_setItem_heap (hsz := by omega) (room8 hu) kb dd fun h' dd' hs => h _ ?_
    obtain ⟨o, es, ep, q1, q2, q3, q4, q5, q6⟩ := dd'
    have nd : (xs.map (·.1)).Nodup := let ⟨_, _, _, _, _, _, _, _, n⟩ := dd; n
    obtain ⟨p1, p2, p3⟩ := putH (b := b) rv xs us r nd
    have en := ents_ofH (P := X.prog) (w := X.w) p3
    rw [← q4, p1, p2, e1, e2, ← ev] at en
    have bk : DkΦ X.w a (putN ks k) (putV ks kvs k kv) (putL ks us k v) h' := ⟨o, q1, q2, ⟨es, ep, q3, en⟩, by rw [← e1, ← p1]; exact q6⟩
    exact I.write (x := a) (e := a) (by rw [he]; exact True.intro) (.inl rfl) (fun b q hb z => (hs.2 b hb).trans z) ⟨o, q1⟩ (dkφ_ext bk)
/-- the dict as it stands -/
theorem DAt.raw (I : L2.Inv X pins σ H s) (hd : DAt X.w H a ks kvs us) : ∃ es ep, s.heap.DictRaw a es ep ∧ Ents X.w es.toList ks kvs us := by
  obtain ⟨o, ho, hx, ⟨es, ep, h1, h2⟩, _⟩ := hd.obj I
  exact ⟨es, ep, ⟨o, ho, hx, h1⟩, h2⟩
end
end DL

/-! The D layer: dicts as data. -/
namespace DL
open PySem L2

def mixD : D → Bool
  | .int _ => true
  | .str _ => true
  | _ => false
def leafD : D → Bool
  | .non => true
  | .str _ => true
  | _ => false
def tupD : D → Bool
  | .tup l => match nkL l with
    | some ks => decide ((NestedKey.tup ks).depth ≤ 8)
    | none => false
  | _ => false
/-- the key d goes with the keys ds -/
def fitD (ds : List D) (d : D) : Bool := (mixD d && ds.all mixD) || (leafD d && ds.all leafD) || (tupD d && ds.all tupD)
def lkD : List D → List D → D → Option D
  | d' :: ds, e :: es, d => if nkD d' = nkD d then some e else lkD ds es d
  | _, _, _ => none
def putDv : List D → List D → D → D → List D
  | d' :: ds, e :: es, d, x => if nkD d' = nkD d then x :: es else e :: putDv ds es d x
  | _, es, _, x => es ++ [x]
def hasD (ds : List D) (d : D) : Bool := ds.any fun d' => decide (nkD d' = nkD d)
def putDk (ds : List D) (d : D) : List D := if hasD ds d = true then ds else ds ++ [d]
theorem nkL_len : ∀ {ds : List D} {ks : List NestedKey}, nkL ds = some ks → ks.length = ds.length
  | [], _, h => by cases h; rfl
  | d :: ds, _, h => by
    unfold nkL at h
    cases hk : nkD d with
    | none => rw [hk] at h; cases h
    | some k =>
      cases hl : nkL ds with
      | none => rw [hk, hl] at h; cases h
      | some ks => rw [hk, hl] at h; cases h; simp [nkL_len hl]
theorem nkL_cons {d : D} {ds : List D} {ks : List NestedKey} (h : nkL (d :: ds) = some ks) : ∃ k r, nkD d = some k ∧ nkL ds = some r ∧ ks = k :: r := by
  unfold nkL at h
  cases hk : nkD d with
  | none => rw [hk] at h; cases h
  | some k =>
    cases hl : nkL ds with
    | none => rw [hk, hl] at h; cases h
    | some r => rw [hk, hl] at h; cases h; exact ⟨k, r, rfl, rfl, rfl⟩
theorem nkL_cons' {d : D} {ds : List D} {k : NestedKey} {r : List NestedKey} (h1 : nkD d = some k) (h2 : nkL ds = some r) : nkL (d :: ds) = some (k :: r) := by
  unfold nkL; rw [h1, h2]
theorem nkL_append : ∀ {ds es : List D} {ks js : List NestedKey}, nkL ds = some ks → nkL es = some js → nkL (ds ++ es) = some (ks ++ js)
  | [], _, _, _, h, h' => by cases h; exact h'
  | d :: ds, _, _, _, h, h' => by
    obtain ⟨k, r, h1, h2, rfl⟩ := nkL_cons h
    exact nkL_cons' h1 (nkL_append h2 h')
theorem hasD_iff {d : D} {k : NestedKey} (hd : nkD d = some k) : ∀ {ds : List D} {ks : List NestedKey}, nkL ds = some ks → (hasD ds d = true ↔ k ∈ ks)
  | [], _, h => by cases h; simp [hasD]
  | x :: ds, _, h => by
    obtain ⟨j, r, h1, h2, rfl⟩ := nkL_cons h
    have ih := hasD_iff hd h2
    unfold hasD at ih ⊢
    rw [List.any_cons, Bool.or_eq_true, ih, List.mem_cons, decide_eq_true_iff, h1, hd, Option.some.injEq]
    exact ⟨fun q => q.imp Eq.symm id, fun q => q.imp Eq.symm id⟩
section
variable {K : KW} {F : Hp}
theorem lk_of {d : D} {k : NestedKey} (hd : nkD d = some k) : ∀ {ds es : List D} {ks : List NestedKey} {us : List V}, nkL ds = some ks → IsL K F es us → (∀ e, lkD ds es d = some e → ∃ v, lkp ks us k = some v ∧ Is K F e v) ∧ (lkD ds es d = none → lkp ks us k = none)
  | [], es, _, us, h, l => by
    cases h
    refine ⟨fun e q => ?_, fun _ => ?_⟩
    · unfold lkD at q; cases q
    · cases us <;> rfl
  | x :: ds, [], _, us, h, l => by
    obtain ⟨j, r, h1, h2, rfl⟩ := nkL_cons h
    cases l
    exact ⟨fun e q => (nomatch q), fun _ => rfl⟩
  | x :: ds, y :: es, _, us, h, ⟨v, r', q, i, l⟩ => by
    obtain ⟨j, r, h1, h2, rfl⟩ := nkL_cons h
    subst q
    have ih := lk_of hd h2 l
    by_cases e : j = k
    · have e' : nkD x = nkD d := by rw [h1, hd, e]
      rw [lkD, if_pos e', lkp, if_pos e]
      exact ⟨fun e2 q => by cases q; exact ⟨v, rfl, i⟩, fun q => nomatch q⟩
    · have e' : ¬ nkD x = nkD d := by rw [h1, hd]; exact fun z => e (Option.some.inj z)
      rw [lkD, if_neg e', lkp, if_neg e]
      exact ih
theorem put_of {d x : D} {k : NestedKey} {v : V} (hd : nkD d = some k) (i : Is K F x v) : ∀ {ds es : List D} {ks : List NestedKey} {us : List V}, nkL ds = some ks → IsL K F es us → IsL K F (putDv ds es d x) (putL ks us k v)
  | [], es, _, us, h, l => by
    cases h
    have e1 : putDv [] es d x = es ++ [x] := by cases es <;> rfl
    have e2 : putL [] us k v = us ++ [v] := by cases us <;> rfl
    rw [e1, e2]
    exact l.append (IsL.single i)
  | y :: ds, [], _, us, h, l => by
    obtain ⟨j, r, h1, h2, rfl⟩ := nkL_cons h
    cases l
    exact IsL.single i
  | y :: ds, z :: es, _, us, h, ⟨w, r', q, i', l⟩ => by
    obtain ⟨j, r, h1, h2, rfl⟩ := nkL_cons h
    subst q
    by_cases e : j = k
    · have e' : nkD y = nkD d := by rw [h1, hd, e]
      rw [putDv, if_pos e', putL, if_pos e]
      exact ⟨v, _, rfl, i, l⟩
    · have e' : ¬ nkD y = nkD d := by rw [h1, hd]; exact fun z => e (Option.some.inj z)
      rw [putDv, if_neg e', putL, if_neg e]
      exact ⟨w, _, rfl, i', put_of hd i h2 l⟩
theorem putK_of {d : D} {k : NestedKey} {kv : V} (hd : nkD d = some k) (i : Is K F d kv) {ds : List D} {ks : List NestedKey} {kvs : List V} (h : nkL ds = some ks) (l : IsL K F ds kvs) : nkL (putDk ds d) = some (putN ks k) ∧ IsL K F (putDk ds d) (putV ks kvs k kv) := by
  unfold putDk putN putV
  by_cases m : k ∈ ks
  · rw [if_pos ((hasD_iff hd h).mpr m), if_pos m, if_pos m]
    exact ⟨h, l⟩
  · rw [if_neg (fun z => m ((hasD_iff hd h).mp z)), if_neg m, if_neg m]
    exact ⟨nkL_append h (nkL_cons' hd rfl), l.append (IsL.single i)⟩
theorem mix_of : ∀ {ds : List D} {ks : List NestedKey} {kvs : List V}, nkL ds = some ks → IsL K F ds kvs → ds.all mixD = true → ∃ xs : List Key, ks = xs.map nkM ∧ kvs = xs.map kV
  | [], _, _, h, l, _ => by cases h; cases l; exact ⟨[], rfl, rfl⟩
  | d :: ds, _, _, h, ⟨v, r, q, i, l⟩, m => by
    obtain ⟨j, r', h1, h2, rfl⟩ := nkL_cons h
    subst q
    rw [List.all_cons, Bool.and_eq_true] at m
    obtain ⟨xs, rfl, rfl⟩ := mix_of h2 l m.2
    cases d with
    | int n => cases h1; cases i; exact ⟨.inl n :: xs, rfl, rfl⟩
    | str n => cases h1; cases i; exact ⟨.inr n :: xs, rfl, rfl⟩
    | _ => exact absurd m.1 Bool.false_ne_true
theorem leaf_of : ∀ {ds : List D} {ks : List NestedKey} {kvs : List V}, nkL ds = some ks → IsL K F ds kvs → ds.all leafD = true → ∃ xs : List Leaf, (∀ y ∈ xs, ∀ i, y ≠ .num i) ∧ ks = xs.map Leaf.key ∧ kvs = xs.map kvLf
  | [], _, _, h, l, _ => by cases h; cases l; exact ⟨[], (fun y h => nomatch h), rfl, rfl⟩
  | d :: ds, _, _, h, ⟨v, r, q, i, l⟩, m => by
    obtain ⟨j, r', h1, h2, rfl⟩ := nkL_cons h
    subst q
    rw [List.all_cons, Bool.and_eq_true] at m
    obtain ⟨xs, g, rfl, rfl⟩ := leaf_of h2 l m.2
    cases d with
    | non => cases h1; cases i; exact ⟨.none :: xs, fun y hy i => by
        rcases List.mem_cons.mp hy with rfl | hy
        · exact fun z => nomatch z
        · exact g y hy i, rfl, rfl⟩
    | str n => cases h1; cases i; exact ⟨.text n :: xs, fun y hy i => by
        rcases List.mem_cons.mp hy with rfl | hy
        · exact fun z => nomatch z
        · exact g y hy i, rfl, rfl⟩
    | _ => exact absurd m.1 Bool.false_ne_true
theorem tupNK_of {d : D} {k : NestedKey} (h : nkD d = some k) (t : tupD d = true) : tupNK k = true := by
  cases d with
  | tup l =>
    unfold nkD at h
    simp only [tupD] at t
    cases hk : nkL l with
    | none => rw [hk] at h; cases h
    | some ks => rw [hk] at h t; cases h; exact t
  | _ => exact absurd t Bool.false_ne_true
theorem tups_of : ∀ {ds : List D} {ks : List NestedKey}, nkL ds = some ks → ds.all tupD = true → ks.all tupNK = true
  | [], _, h, _ => by cases h; rfl
  | d :: ds, _, h, m => by
    obtain ⟨j, r', h1, h2, rfl⟩ := nkL_cons h
    rw [List.all_cons, Bool.and_eq_true] at m ⊢
    exact ⟨tupNK_of h1 m.1, tups_of h2 m.2⟩
theorem fit_some {ds : List D} {d : D} (f : fitD ds d = true) : ∃ k, nkD d = some k := by
  cases d with
  | non => exact ⟨_, rfl⟩
  | int i => exact ⟨_, rfl⟩
  | str i => exact ⟨_, rfl⟩
  | tup l =>
    cases hk : nkL l with
    | none => simp [fitD, mixD, leafD, tupD, hk] at f
    | some ks => exact ⟨.tup ks, by unfold nkD; rw [hk]; rfl⟩
  | _ => simp [fitD, mixD, leafD, tupD] at f
theorem kfit_of {H : Hp} (e : Same F H) {ds : List D} {d : D} {ks : List NestedKey} {kvs : List V} {k : NestedKey} {kv : V} (hk : nkL ds = some ks) (l : IsL K F ds kvs) (hd : nkD d = some k) (i : Is K F d kv) (f : fitD ds d = true) : Kfit K H ks kvs k kv := by
  unfold fitD at f
  rw [Bool.or_eq_true, Bool.or_eq_true, Bool.and_eq_true, Bool.and_eq_true, Bool.and_eq_true] at f
  rcases f with (⟨f1, f2⟩ | ⟨f1, f2⟩) | ⟨f1, f2⟩
  · obtain ⟨xs, rfl, rfl⟩ := mix_of hk l f2
    obtain ⟨ys, e1, e2⟩ := mix_of (ds := [d]) (nkL_cons' hd rfl) (IsL.single i) (by simp [f1])
    cases ys with
    | nil => cases e1
    | cons y ys =>
      injection e1 with e1 _
      injection e2 with e2 _
      exact .inl ⟨xs, y, rfl, rfl, e1, e2⟩
  · obtain ⟨xs, g, rfl, rfl⟩ := leaf_of hk l f2
    obtain ⟨ys, g', e1, e2⟩ := leaf_of (ds := [d]) (nkL_cons' hd rfl) (IsL.single i) (by simp [f1])
    cases ys with
    | nil => cases e1
    | cons y ys =>
      injection e1 with e1 _
      injection e2 with e2 _
      exact .inr (.inl ⟨xs, y, g, g' y (by simp), rfl, rfl, e1, e2⟩)
  · exact .inr (.inr ⟨keyVs_of e ds ks kvs hk l, tups_of hk f2, keyV_of e d k kv hd i, tupNK_of hd f1⟩)
end
/-- a dict by its data, wherever it stands -/
structure DHas (K : KW) (F H : Hp) (a : Addr) (ds es : List D) (ks : List NestedKey) (kvs us : List V) : Prop where
  at_ : DAt K.w H a ks kvs us
  hk : nkL ds = some ks
  hz : ks.length ≤ sizeLine
  lk : IsL K F ds kvs
  lv : IsL K F es us
theorem dhas_fz {K : KW} {F H : Hp} (e : Same F H) {ds es : List D} {v : V} (h : Is K F (.dct ds es) v) : ∃ a ks kvs us, v = .ref a ∧ DHas K F H a ds es ks kvs us := by
  obtain ⟨a, o, u, ks, kvs, us, q, s, n, d, ⟨k1, k2⟩, l, m⟩ := h
  exact ⟨a, ks, kvs, us, q, ⟨n, .inl ⟨o, u, e _ _ s, d⟩⟩, k1, k2, l, m⟩
theorem dhas_ow {K : KW} {F H : Hp} {ds es : List D} {a : Addr} (h : OwAt K F H a (.dct ds es)) : ∃ ks kvs us, DHas K F H a ds es ks kvs us := by
  obtain ⟨ks, kvs, us, s, n, ⟨k1, k2⟩, l, m⟩ := h
  exact ⟨ks, kvs, us, ⟨n, .inr s⟩, k1, k2, l, m⟩
end DL

/-! The D layer, part 2: readings over plain data, and what it is to follow them. -/
namespace DL
open PySem L2

/-- an exception as data -/
structure Exn where
  C : String
  ns : List String
  vs : List D
def ExR (K : KW) (F : Hp) (x : Exn) (cls : Value) (d : Option Addr) : Prop :=
  cls = .ref (He.ga K x.C) ∧ ((d = none ∧ x.ns = [] ∧ x.vs = []) ∨ ∃ a vs, d = some a ∧ F a = some (.xd (fieldsV x.ns vs)) ∧ x.ns.length = x.vs.length ∧ IsL K F x.vs vs)

abbrev Qx := Exn → En → Prop
abbrev TDE := En → (D → En → Prop) → Qx → Prop
abbrev TDT := En → (Bool → En → Prop) → Qx → Prop
abbrev TDA := En → (List D → En → Prop) → Qx → Prop
structure DEnds where
  nx : En → Prop
  rt : D → En → Prop
  bk : En → Prop
  ct : En → Prop
  ex : Qx
  /-- what is returned is an object of one's own -/
  fr : Bool := false
abbrev TDS := DEnds → En → Prop

section
variable (K : KW) (W : WX)
/-- what is wished of exceptions goes over -/
def XR (G : Gh) (Qe : Qx) : Prop := ∀ x F H σ en cls d, Rel K G F H σ en → ExR K F x cls d → Qe x en → W cls d σ H
def Sim (te : TE) (td : TDE) : Prop := ∀ G F H σ en (Q : VK) Qd Qe, Rel K G F H σ en → td en Qd Qe → XR K W G Qe →
  (∀ v d F' H' en', Same F F' → Rel K G F' H' σ en' → Is K F' d v → Qd d en' → Q v H') → te σ H Q
def SimO (te : TE) (td : TDE) : Prop := ∀ G F H σ en (Q : VK) Qd Qe, Rel K G F H σ en → td en Qd Qe → XR K W G Qe →
  (∀ a d F' H' en', Same F F' → Rel K G F' H' σ en' → Tmp K G F' H' σ en' a d → Qd d en' → Q (.ref a) H') → te σ H Q
def SimT (tt : TT) (td : TDT) : Prop := ∀ G F H σ en (Q : Bool → Hp → Prop) Qd Qe, Rel K G F H σ en → td en Qd Qe → XR K W G Qe →
  (∀ b F' H' en', Same F F' → Rel K G F' H' σ en' → Qd b en' → Q b H') → tt σ H Q
def SimA (ta : TA) (td : TDA) : Prop := ∀ G F H σ en (Q : List V → Hp → Prop) Qd Qe, Rel K G F H σ en → td en Qd Qe → XR K W G Qe →
  (∀ vs ds F' H' en', Same F F' → Rel K G F' H' σ en' → IsL K F' ds vs → Qd ds en' → Q vs H') → ta σ H Q
structure EndsR (G : Gh) (D' : Ends) (B : DEnds) : Prop where
  nx : ∀ F H σ en, Rel K G F H σ en → B.nx en → D'.nx σ H
  rt : ∀ v d F H σ en, B.fr = false → Rel K G F H σ en → Is K F d v → B.rt d en → D'.rt v H
  bk : ∀ F H σ en, Rel K G F H σ en → B.bk en → D'.bk σ H
  ct : ∀ F H σ en, Rel K G F H σ en → B.ct en → D'.ct σ H
  ex : XR K W G B.ex
  rtO : ∀ a d F H σ en, B.fr = true → Rel K G F H σ en → Tmp K G F H σ en a d → B.rt d en → D'.rt (.ref a) H
def SimS (ts : TS) (td : TDS) : Prop := ∀ G F H σ en (D' : Ends) B, Rel K G F H σ en → td B en → EndsR K W G D' B → ts D' σ H
end

structure DE (X : Cx) (W : WX) (e : Expr) (te : TE) (td : TDE) : Prop where
  pe : PE X e te
  sim : Sim (kk X) W te td
structure DO (X : Cx) (W : WX) (e : Expr) (te : TE) (td : TDE) : Prop where
  pe : PE X e te
  sim : SimO (kk X) W te td
structure DT (X : Cx) (W : WX) (e : Expr) (tt : TT) (td : TDT) : Prop where
  pt : PT X e tt
  sim : SimT (kk X) W tt td
structure DW (X : Cx) (W : WX) (e : Expr) (tt : TT) (td : TDT) : Prop where
  pw : PW X e tt
  sim : SimT (kk X) W tt td
structure DA (X : Cx) (W : WX) (es : List Expr) (ta : TA) (td : TDA) : Prop where
  pa : PA X es ta
  sim : SimA (kk X) W ta td
structure DS (X : Cx) (W : WX) (st : Stmt) (ts : TS) (td : TDS) : Prop where
  ps : PS X st ts
  sim : SimS (kk X) W ts td
structure DSs (X : Cx) (W : WX) (st : List Stmt) (ts : TS) (td : TDS) : Prop where
  ps : PSs X st ts
  sim : SimS (kk X) W ts td

theorem SimO.fz {K : KW} {W : WX} {te : TE} {td : TDE} (h : SimO K W te td) : Sim K W (tG te) td := fun G F H σ en Q Qd Qe R q x k =>
  h G F H σ en _ Qd Qe R q x fun a d F' H' en' e R' T q' => T.freeze R' fun F2 H2 e2 R2 i2 => k _ d F2 H2 en' (e.trans e2) R2 i2 q'
theorem DO.fz {X : Cx} {W : WX} {e : Expr} {te : TE} {td : TDE} (h : DO X W e te td) : DE X W e (tG te) td := ⟨pe_G h.pe, h.sim.fz⟩

/-! ### names, constants -/
def dVar (i : Nat) : TDE := fun en Q _ => match en[i]? with
  | some (some (.fz d)) => Q d en
  | some (some (.ow false d)) => Q d (en.set i (some (.fz d)))
  | _ => False
def dC (d : D) : TDE := fun en Q _ => Q d en
/-- what a slot holds, without freezing it -/
def peek (en : En) (i : Nat) : Option D := match en[i]? with
  | some (some (.fz d)) => some d
  | some (some (.ow _ d)) => some d
  | _ => none

section
variable {X : Cx} {W : WX} {K : KW}
theorem sim_var (i : Nat) : Sim K W (tG (tVar i)) (dVar i) := fun G F H σ en Q Qd Qe R q x k => by
  unfold dVar at q
  split at q
  · rename_i d h
    obtain ⟨v, h1, h2⟩ := R.fz i d h
    exact ⟨v, h1, .done (k v d F H en (Same.refl F) R h2 q)⟩
  · rename_i d h
    obtain ⟨a, h1, _⟩ := R.ow i false d h
    refine ⟨_, h1, R.freeze h fun a' F2 H2 h1' h3 h4 h2 => ?_⟩
    rw [h1] at h1'
    cases h1'
    exact k _ d F2 H2 _ h3 h4 h2 q
  · exact q.elim
theorem de_var (i : Nat) {x : Str} {pos : Pos} (hN : X.N[i]? = some x := by rfl) (hv : Vis X.env.scope x := by first | exact Or.inl rfl | exact Or.inr (Or.inl rfl) | exact Or.inr (Or.inr rfl)) (hd : (x == ("__debug__" : Str)) = false := by decide)
    (hcd : (x == ("__classdict__" : Str)) = false := by decide) : DE X W (.Name x pos) (tG (tVar i)) (dVar i) := ⟨pe_G (pe_var hN hv hd hcd), sim_var i⟩
theorem sim_c {v : V} {d : D} (h : ∀ F, Is K F d v) : Sim K W (tC v) (dC d) := fun G F H σ en Q Qd Qe R q x k => k v d F H en (Same.refl F) R (h F) q
theorem de_int {i : Int} {j pos} : DE X W (.Constant (.int i) j pos) (tC (.int i)) (dC (.int i)) := ⟨pe_int, sim_c fun _ => rfl⟩
theorem de_bl {b : Bool} {j pos} : DE X W (.Constant (.bool b) j pos) (tC (.bl b)) (dC (.bl b)) := ⟨pe_bl, sim_c fun _ => rfl⟩
theorem de_non {j pos} : DE X W (.Constant .none j pos) (tC .non) (dC .non) := ⟨pe_non, sim_c fun _ => rfl⟩
theorem de_str {s : Str} {j pos} : DE X W (.Constant (.str s) j pos) (tC (.str s)) (dC (.str s)) := ⟨pe_str, sim_c fun _ => rfl⟩

/-- a name's own object, given away -/
def dGive (i : Nat) : TDE := fun en Q _ => match en[i]? with
  | some (some (.ow false d)) => Q d (en.set i none)
  | _ => False
theorem do_give (i : Nat) {x : Str} {pos : Pos} (hN : X.N[i]? = some x := by rfl) (hv : Vis X.env.scope x := by first | exact Or.inl rfl | exact Or.inr (Or.inl rfl) | exact Or.inr (Or.inr rfl)) (hd : (x == ("__debug__" : Str)) = false := by decide)
    (hcd : (x == ("__classdict__" : Str)) = false := by decide) : DO X W (.Name x pos) (tVar i) (dGive i) := ⟨pe_var hN hv hd hcd, fun G F H σ en Q Qd Qe R q x k => by
  unfold dGive at q
  split at q
  · rename_i d h
    obtain ⟨a, h1, h2, h3, h4, h5, _⟩ := R.ow i false d h
    have R1 : Rel (kk X) G F H σ (en.set i none) := R.drop none (fun _ _ q => nomatch q) fun _ q => nomatch q
    refine ⟨_, h1, k a d F H _ (Same.refl F) R1 ⟨h2, h3, ⟨h4, h5 rfl⟩, fun j b e k1 k2 => ?_⟩ q⟩
    by_cases z : j = i
    · subst z
      rw [List.getElem?_set_self (get_lt h)] at k1
      cases k1
    · rw [List.getElem?_set_ne (fun q => z q.symm)] at k1
      exact z (R.sep j i b false e d a k1 h k2 h1)
  · exact q.elim⟩

/-! ### operators -/
/-- an operation on two values, on two data -/
abbrev RD := D → D → (D → Prop) → Prop
def SimR (K : KW) (r : R2) (rd : RD) : Prop := ∀ G F H σ en x y dx dy (Q : VK) Qd, Rel K G F H σ en → Is K F dx x → Is K F dy y → rd dx dy Qd →
  (∀ z dz F' H', Same F F' → Rel K G F' H' σ en → Is K F' dz z → Qd dz → Q z H') → r x y H Q
def dOp (rd : RD) (da db : TDE) : TDE := fun en Q Qe => da en (fun x en1 => db en1 (fun y en2 => rd x y fun z => Q z en2) Qe) Qe
theorem sim_op {r : R2} {rd : RD} {ta tb : TE} {da db : TDE} (hr : SimR K r rd) (ha : Sim K W ta da) (hb : Sim K W tb db) : Sim K W (tOp r ta tb) (dOp rd da db) := fun G F H σ en Q Qd Qe R q x k =>
  ha G F H σ en _ _ Qe R q x fun v d F1 H1 en1 e1 R1 i1 q1 => hb G F1 H1 σ en1 _ _ Qe R1 q1 x fun u d2 F2 H2 en2 e2 R2 i2 q2 =>
    hr G F2 H2 σ en2 v u d d2 Q _ R2 (Is.mono e2 _ _ i1) i2 q2 fun z dz F3 H3 e3 R3 i3 q3 => k z dz F3 H3 en2 ((e1.trans e2).trans e3) R3 i3 q3
theorem de_op {a b : Expr} {op : Operator} {pos : Pos} {r : R2} {rd : RD} {ta tb : TE} {da db : TDE} (ho : OpR X (binaryOp op) r) (hr : SimR (kk X) r rd) (ha : DE X W a ta da) (hb : DE X W b tb db) : DE X W (.BinOp a op b pos) (tOp r ta tb) (dOp rd da db) :=
  ⟨pe_op ho ha.pe hb.pe, sim_op hr ha.sim hb.sim⟩
theorem de_cmp {a b : Expr} {op : CmpOp} {pos : Pos} {r : R2} {rd : RD} {ta tb : TE} {da db : TDE} (ho : OpR X (compareOp op) r) (hr : SimR (kk X) r rd) (ha : DE X W a ta da) (hb : DE X W b tb db) (hm : behindInMarks op b = false) :
    DE X W (.Compare a [op] [b] pos) (tOp r ta tb) (dOp rd da db) := ⟨pe_cmpR ho ha.pe hb.pe hm, sim_op hr ha.sim hb.sim⟩
/-- a value that is True or False, as a test -/
def dTest (td : TDE) : TDT := fun en Q Qe => td en (fun d en1 => match d with
  | .bl b => Q b en1
  | _ => False) Qe
theorem sim_test {te : TE} {td : TDE} (h : Sim K W te td) : SimT K W (tTest te) (dTest td) := fun G F H σ en Q Qd Qe R q x k =>
  h G F H σ en _ _ Qe R q x fun v d F1 H1 en1 e1 R1 i1 q1 => by
    cases d with
    | bl b => cases i1; exact ⟨b, rfl, k b F1 H1 en1 e1 R1 q1⟩
    | _ => exact q1.elim
theorem dt_cmp {a b : Expr} {op : CmpOp} {pos : Pos} {r : R2} {rd : RD} {ta tb : TE} {da db : TDE} (ho : OpR X (compareOp op) r) (hr : SimR (kk X) r rd) (ha : DE X W a ta da) (hb : DE X W b tb db) (hm : behindInMarks op b = false) :
    DT X W (.Compare a [op] [b] pos) (tTest (tOp r ta tb)) (dTest (dOp rd da db)) := ⟨pt_cmpR ho ha.pe hb.pe hm, sim_test (sim_op hr ha.sim hb.sim)⟩

/-- a op1 b op2 c -/
def dChain (rd rd' : RD) (da db dc : TDE) : TDE := fun en Q Qe => da en (fun x en1 => db en1 (fun y en2 => rd x y fun z => match z with
  | .bl true => dc en2 (fun w en3 => rd' y w fun u => Q u en3) Qe
  | .bl false => Q (.bl false) en2
  | _ => False) Qe) Qe
theorem sim_chain {r r' : R2} {rd rd' : RD} {ta tb tc : TE} {da db dc : TDE} (hr : SimR K r rd) (hr' : SimR K r' rd') (ha : Sim K W ta da) (hb : Sim K W tb db) (hc : Sim K W tc dc) : Sim K W (tChain r r' ta tb tc) (dChain rd rd' da db dc) := fun G F H σ en Q Qd Qe R q x k =>
  ha G F H σ en _ _ Qe R q x fun v d F1 H1 en1 e1 R1 i1 q1 => hb G F1 H1 σ en1 _ _ Qe R1 q1 x fun u d2 F2 H2 en2 e2 R2 i2 q2 =>
    hr G F2 H2 σ en2 v u d d2 _ _ R2 (Is.mono e2 _ _ i1) i2 q2 fun z dz F3 H3 e3 R3 i3 q3 => by
      cases dz with
      | bl b =>
        cases i3
        cases b with
        | false => exact ⟨false, rfl, by rw [if_neg Bool.false_ne_true]; exact k _ (.bl false) F3 H3 en2 ((e1.trans e2).trans e3) R3 rfl q3⟩
        | true =>
          refine ⟨true, rfl, ?_⟩
          rw [if_pos rfl]
          exact hc G F3 H3 σ en2 _ _ Qe R3 q3 x fun u2 d3 F4 H4 en4 e4 R4 i4 q4 => hr' G F4 H4 σ en4 u u2 d2 d3 Q _ R4 (Is.mono (e3.trans e4) _ _ i2) i4 q4 fun z' dz' F5 H5 e5 R5 i5 q5 =>
            k z' dz' F5 H5 en4 ((((e1.trans e2).trans e3).trans e4).trans e5) R5 i5 q5
      | _ => exact q3.elim
theorem de_chain {a b c : Expr} {op op' : CmpOp} {pos : Pos} {r r' : R2} {rd rd' : RD} {ta tb tc : TE} {da db dc : TDE} (ho : OpR X (compareOp op) r) (ho' : OpR X (compareOp op') r') (hr : SimR (kk X) r rd) (hr' : SimR (kk X) r' rd') (ha : DE X W a ta da) (hb : DE X W b tb db) (hc : DE X W c tc dc)
    (hm : lastMarks [op, op'] [b, c] = false := by with_unfolding_all rfl) : DE X W (.Compare a [op, op'] [b, c] pos) (tChain r r' ta tb tc) (dChain rd rd' da db dc) := ⟨pe_chain ho ho' ha.pe hb.pe hc.pe hm, sim_chain hr hr' ha.sim hb.sim hc.sim⟩
theorem dt_chain {a b c : Expr} {op op' : CmpOp} {pos : Pos} {r r' : R2} {rd rd' : RD} {ta tb tc : TE} {da db dc : TDE} (ho : OpR X (compareOp op) r) (ho' : OpR X (compareOp op') r') (hr : SimR (kk X) r rd) (hr' : SimR (kk X) r' rd') (ha : DE X W a ta da) (hb : DE X W b tb db) (hc : DE X W c tc dc)
    (hm : lastMarks [op, op'] [b, c] = false := by with_unfolding_all rfl) : DT X W (.Compare a [op, op'] [b, c] pos) (tTest (tChain r r' ta tb tc)) (dTest (dChain rd rd' da db dc)) := ⟨pt_chain ho ho' ha.pe hb.pe hc.pe hm, sim_test (sim_chain hr hr' ha.sim hb.sim hc.sim)⟩

/-- an operation on one value -/
abbrev UD := D → (D → Prop) → Prop
def SimU (K : KW) (r : V → Hp → VK → Prop) (rd : UD) : Prop := ∀ G F H σ en x dx (Q : VK) Qd, Rel K G F H σ en → Is K F dx x → rd dx Qd →
  (∀ z dz F' H', Same F F' → Rel K G F' H' σ en → Is K F' dz z → Qd dz → Q z H') → r x H Q
def dUn (rd : UD) (da : TDE) : TDE := fun en Q Qe => da en (fun x en1 => rd x fun z => Q z en1) Qe
theorem de_un {a : Expr} {op : UnaryOp} {pos : Pos} {r : V → Hp → VK → Prop} {rd : UD} {ta : TE} {da : TDE} (ho : UnR X (unaryOp op) r) (hr : SimU (kk X) r rd) (ha : DE X W a ta da) : DE X W (.UnaryOp op a pos) (tUn r ta) (dUn rd da) :=
  ⟨pe_un ho ha.pe, fun G F H σ en Q Qd Qe R q x k => ha.sim G F H σ en _ _ Qe R q x fun v d F1 H1 en1 e1 R1 i1 q1 =>
    hr G F1 H1 σ en1 v d Q _ R1 i1 q1 fun z dz F3 H3 e3 R3 i3 q3 => k z dz F3 H3 en1 (e1.trans e3) R3 i3 q3⟩

/-! ### tests -/
/-- a datum's truth -/
def truD : D → Option Bool
  | .non => some false
  | .bl b => some b
  | .int i => some (i != 0)
  | .str s => if s.length ≤ sizeLine then some ((s.length : Int) != 0) else none
  | .lst ds => some (!ds.isEmpty)
  | .lck ds => some (!ds.isEmpty)
  | .tup ds => some (!ds.isEmpty)
  | _ => none
theorem truV_of {F H : Hp} (e : Same F H) : ∀ {d : D} {v : V} {b : Bool}, Is K F d v → truD d = some b → TruV K v H b
  | .non, _, _, h, t => by cases h; cases t; rfl
  | .bl _, _, _, h, t => by cases h; cases t; rfl
  | .int _, _, _, h, t => by cases h; cases t; rfl
  | .str s, _, _, h, t => by
    cases h
    by_cases hs : s.length ≤ sizeLine
    · have t' : (if s.length ≤ sizeLine then some ((s.length : Int) != 0) else none) = some _ := t
      rw [if_pos hs] at t'
      cases t'
      exact ⟨hs, rfl⟩
    · have t' : (if s.length ≤ sizeLine then some ((s.length : Int) != 0) else none) = some _ := t
      rw [if_neg hs] at t'
      cases t'
  | .lst ds, _, _, ⟨a, vs, q, s, l⟩, t => by
    subst q; cases t
    refine .inl ⟨vs, SqL.of (e _ _ s), ?_⟩
    have := l.length
    cases ds <;> cases vs <;> simp at this <;> rfl
  | .lck ds, _, _, ⟨a, vs, q, s, l⟩, t => by
    subst q; cases t
    refine .inl ⟨vs, SqL.same e s, ?_⟩
    have := l.length
    cases ds <;> cases vs <;> simp at this <;> rfl
  | .tup ds, _, _, ⟨a, vs, q, s, l⟩, t => by
    subst q; cases t
    refine .inr (.inl ⟨vs, SqT.same e s, ?_⟩)
    have := l.length
    cases ds <;> cases vs <;> simp at this <;> rfl
  | .dct _ _, _, _, _, t => nomatch t
  | .obj _ _ _, _, _, _, t => nomatch t
def dTru (td : TDE) : TDT := fun en Q Qe => td en (fun d en1 => match truD d with
  | some b => Q b en1
  | none => False) Qe
theorem dt_truth {e : Expr} {te : TE} {td : TDE} (h : DE X W e te td) (hp : ∀ whole, isTrue e X.env whole = (do let v ← whole; standAt e.pos; holding [v] (truthy v)) := by intro _; rfl) :
    DT X W e (fun σ H Q => te σ H fun x H' => ∃ k, TruV X.K x H' k ∧ Q k H') (dTru td) := ⟨pt_truth h.pe hp, fun G F H σ en Q Qd Qe R q x k =>
  h.sim G F H σ en _ _ Qe R q x fun v d F1 H1 en1 e1 R1 i1 q1 => by
    split at q1
    · rename_i b ht
      exact ⟨b, truV_of R1.le i1 ht, k b F1 H1 en1 e1 R1 q1⟩
    · exact q1.elim⟩
def dAnd (t u : TDT) : TDT := fun en Q Qe => t en (fun b en1 => if b = true then u en1 Q Qe else Q false en1) Qe
def dOr (t u : TDT) : TDT := fun en Q Qe => t en (fun b en1 => if b = true then Q true en1 else u en1 Q Qe) Qe
def dNot (t : TDT) : TDT := fun en Q Qe => t en (fun b en1 => Q (!b) en1) Qe
theorem dw_and1 {a : Expr} {pos : Pos} {t : TT} {d : TDT} (h : DT X W a t d) : DW X W (.BoolOp .And [a] pos) t d := ⟨pw_and1 h.pt, h.sim⟩
theorem dw_or1 {a : Expr} {pos : Pos} {t : TT} {d : TDT} (h : DT X W a t d) : DW X W (.BoolOp .Or [a] pos) t d := ⟨pw_or1 h.pt, h.sim⟩
theorem sim_and {t u : TT} {d d' : TDT} (h : SimT K W t d) (h' : SimT K W u d') : SimT K W (tAnd t u) (dAnd d d') := fun G F H σ en Q Qd Qe R q x k =>
  h G F H σ en _ _ Qe R q x fun b F1 H1 en1 e1 R1 q1 => by
    cases b with
    | true => exact h' G F1 H1 σ en1 _ _ Qe R1 q1 x fun b F2 H2 en2 e2 R2 q2 => k b F2 H2 en2 (e1.trans e2) R2 q2
    | false => exact k false F1 H1 en1 e1 R1 q1
theorem sim_or {t u : TT} {d d' : TDT} (h : SimT K W t d) (h' : SimT K W u d') : SimT K W (tOr t u) (dOr d d') := fun G F H σ en Q Qd Qe R q x k =>
  h G F H σ en _ _ Qe R q x fun b F1 H1 en1 e1 R1 q1 => by
    cases b with
    | true => exact k true F1 H1 en1 e1 R1 q1
    | false => exact h' G F1 H1 σ en1 _ _ Qe R1 q1 x fun b F2 H2 en2 e2 R2 q2 => k b F2 H2 en2 (e1.trans e2) R2 q2
theorem dw_and {a b : Expr} {rest : List Expr} {pos : Pos} {t u : TT} {d d' : TDT} (h : DT X W a t d) (h' : DW X W (.BoolOp .And (b :: rest) pos) u d') : DW X W (.BoolOp .And (a :: b :: rest) pos) (tAnd t u) (dAnd d d') := ⟨pw_and h.pt h'.pw, sim_and h.sim h'.sim⟩
theorem dw_or {a b : Expr} {rest : List Expr} {pos : Pos} {t u : TT} {d d' : TDT} (h : DT X W a t d) (h' : DW X W (.BoolOp .Or (b :: rest) pos) u d') : DW X W (.BoolOp .Or (a :: b :: rest) pos) (tOr t u) (dOr d d') := ⟨pw_or h.pt h'.pw, sim_or h.sim h'.sim⟩
theorem DW.dt {e : Expr} {t : TT} {d : TDT} (h : DW X W e t d) : DT X W e t d := ⟨h.pw.pt, h.sim⟩
theorem dt_not {a : Expr} {pos : Pos} {t : TT} {d : TDT} (h : DT X W a t d) : DT X W (.UnaryOp .Not a pos) (tNot t) (dNot d) := ⟨pt_not h.pt, fun G F H σ en Q Qd Qe R q x k =>
  h.sim G F H σ en _ _ Qe R q x fun b F1 H1 en1 e1 R1 q1 => k (!b) F1 H1 en1 e1 R1 q1⟩
/-- a if t else b -/
def dIf (t : TDT) (a b : TDE) : TDE := fun en Q Qe => t en (fun c en1 => if c = true then a en1 Q Qe else b en1 Q Qe) Qe
theorem de_if {c a b : Expr} {pos : Pos} {tc : TT} {ta tb : TE} {dc : TDT} {da db : TDE} (hc : DT X W c tc dc) (ha : DE X W a ta da) (hb : DE X W b tb db) : DE X W (.IfExp c a b pos) (tIf tc ta tb) (dIf dc da db) :=
  ⟨pe_ifExp hc.pt ha.pe hb.pe, fun G F H σ en Q Qd Qe R q x k => hc.sim G F H σ en _ _ Qe R q x fun b F1 H1 en1 e1 R1 q1 => by
    cases b with
    | true => exact ha.sim G F1 H1 σ en1 _ _ Qe R1 q1 x fun v d F2 H2 en2 e2 R2 i2 q2 => k v d F2 H2 en2 (e1.trans e2) R2 i2 q2
    | false => exact hb.sim G F1 H1 σ en1 _ _ Qe R1 q1 x fun v d F2 H2 en2 e2 R2 i2 q2 => k v d F2 H2 en2 (e1.trans e2) R2 i2 q2⟩
/-- and, or as values, by truth -/
def dAndV (a b : TDE) : TDE := fun en Q Qe => a en (fun d en1 => match truD d with
  | some true => b en1 Q Qe
  | some false => Q d en1
  | none => False) Qe
def dOrV (a b : TDE) : TDE := fun en Q Qe => a en (fun d en1 => match truD d with
  | some true => Q d en1
  | some false => b en1 Q Qe
  | none => False) Qe
theorem de_and {a b : Expr} {rest : List Expr} {pos : Pos} {ta tb : TE} {da db : TDE} (ha : DE X W a ta da) (hb : DE X W (.BoolOp .And (b :: rest) pos) tb db) : DE X W (.BoolOp .And (a :: b :: rest) pos) (tAndT X.K ta tb) (dAndV da db) :=
  ⟨pe_andT ha.pe hb.pe, fun G F H σ en Q Qd Qe R q x k => ha.sim G F H σ en _ _ Qe R q x fun v d F1 H1 en1 e1 R1 i1 q1 => by
    split at q1
    · rename_i ht
      refine ⟨true, truV_of R1.le i1 ht, ?_⟩
      rw [if_pos rfl]
      exact hb.sim G F1 H1 σ en1 _ _ Qe R1 q1 x fun v d F2 H2 en2 e2 R2 i2 q2 => k v d F2 H2 en2 (e1.trans e2) R2 i2 q2
    · rename_i ht
      refine ⟨false, truV_of R1.le i1 ht, ?_⟩
      rw [if_neg Bool.false_ne_true]
      exact k v d F1 H1 en1 e1 R1 i1 q1
    · exact q1.elim⟩
theorem de_or {a b : Expr} {rest : List Expr} {pos : Pos} {ta tb : TE} {da db : TDE} (ha : DE X W a ta da) (hb : DE X W (.BoolOp .Or (b :: rest) pos) tb db) : DE X W (.BoolOp .Or (a :: b :: rest) pos) (tOrT X.K ta tb) (dOrV da db) :=
  ⟨pe_orT ha.pe hb.pe, fun G F H σ en Q Qd Qe R q x k => ha.sim G F H σ en _ _ Qe R q x fun v d F1 H1 en1 e1 R1 i1 q1 => by
    split at q1
    · rename_i ht
      refine ⟨true, truV_of R1.le i1 ht, ?_⟩
      rw [if_pos rfl]
      exact k v d F1 H1 en1 e1 R1 i1 q1
    · rename_i ht
      refine ⟨false, truV_of R1.le i1 ht, ?_⟩
      rw [if_neg Bool.false_ne_true]
      exact hb.sim G F1 H1 σ en1 _ _ Qe R1 q1 x fun v d F2 H2 en2 e2 R2 i2 q2 => k v d F2 H2 en2 (e1.trans e2) R2 i2 q2
    · exact q1.elim⟩
theorem de_one {a : Expr} {op : BoolOp} {pos : Pos} {ta : TE} {da : TDE} (ha : DE X W a ta da) : DE X W (.BoolOp op [a] pos) ta da := ⟨pe_one ha.pe, ha.sim⟩
def dNotV (a : TDE) : TDE := fun en Q Qe => a en (fun d en1 => match truD d with
  | some b => Q (.bl (!b)) en1
  | none => False) Qe
theorem de_not {a : Expr} {pos : Pos} {ta : TE} {da : TDE} (ha : DE X W a ta da) : DE X W (.UnaryOp .Not a pos) (tNotT X.K ta) (dNotV da) :=
  ⟨pe_notT ha.pe, fun G F H σ en Q Qd Qe R q x k => ha.sim G F H σ en _ _ Qe R q x fun v d F1 H1 en1 e1 R1 i1 q1 => by
    split at q1
    · rename_i b ht
      exact ⟨b, truV_of R1.le i1 ht, k _ (.bl (!b)) F1 H1 en1 e1 R1 rfl q1⟩
    · exact q1.elim⟩

/-! ### argument lists, displays -/
def dNil : TDA := fun en Q _ => Q [] en
def dCons (a : TDE) (r : TDA) : TDA := fun en Q Qe => a en (fun d en1 => r en1 (fun ds en2 => Q (d :: ds) en2) Qe) Qe
theorem da_nil : DA X W [] tNil dNil := ⟨pa_nil, fun G F H σ en Q Qd Qe R q x k => k [] [] F H en (Same.refl F) R rfl q⟩
theorem da_cons {e : Expr} {es : List Expr} {te : TE} {t : TA} {td : TDE} {d : TDA} (h : DE X W e te td) (hr : DA X W es t d) (hs : starEach (e :: es) X.env = (false, eval e X.env) :: starEach es X.env := by rfl) : DA X W (e :: es) (tCons te t) (dCons td d) :=
  ⟨pa_cons h.pe hr.pa hs, fun G F H σ en Q Qd Qe R q x k => h.sim G F H σ en _ _ Qe R q x fun v d F1 H1 en1 e1 R1 i1 q1 => hr.sim G F1 H1 σ en1 _ _ Qe R1 q1 x fun vs ds F2 H2 en2 e2 R2 i2 q2 =>
    k (v :: vs) (d :: ds) F2 H2 en2 (e1.trans e2) R2 ⟨v, vs, rfl, Is.mono e2 _ _ i1, i2⟩ q2⟩
def dTup (a : TDA) : TDE := fun en Q Qe => a en (fun ds en1 => ds.length ≤ sizeLine ∧ Q (.tup ds) en1) Qe
def dLst (a : TDA) : TDE := fun en Q Qe => a en (fun ds en1 => ds.length ≤ sizeLine ∧ Q (.lst ds) en1) Qe
theorem new_tup {G : Gh} {F H : Hp} {σ : L2.St} {en : En} {ds : List D} {vs : List V} {p : Addr} (R : Rel K G F H σ en) (i : IsL K F ds vs) (hp : H p = none) :
    Same F (upd F p (.tup vs)) ∧ Rel K G (upd F p (.tup vs)) (upd H p (.tup vs)) σ en ∧ Is K (upd F p (.tup vs)) (.tup ds) (.ref p) :=
  ⟨same_upd (R.free hp), R.laid hp, p, vs, rfl, .inl (.inl upd_same), IsL.mono (same_upd (R.free hp)) _ _ i⟩
theorem new_lst {G : Gh} {F H : Hp} {σ : L2.St} {en : En} {ds : List D} {vs : List V} {p : Addr} (R : Rel K G F H σ en) (i : IsL K F ds vs) (hp : H p = none) :
    Rel K G F (upd H p (.lst vs)) σ en ∧ Tmp K G F (upd H p (.lst vs)) σ en p (.lst ds) := ⟨R.fresh hp, Tmp.of R hp ⟨vs, upd_same, i⟩⟩
theorem de_tup {es : List Expr} {x1} {pos : Pos} {t : TA} {d : TDA} (h : DA X W es t d) : DE X W (.Tuple es x1 pos) (tTup t) (dTup d) :=
  ⟨pe_tup h.pa, fun G F H σ en Q Qd Qe R q x k => h.sim G F H σ en _ _ Qe R q x fun vs ds F1 H1 en1 e1 R1 i1 q1 => ⟨by rw [i1.length]; exact q1.1, fun p hp => by
    obtain ⟨h1, h2, h3⟩ := new_tup R1 i1 hp
    exact k _ _ _ _ en1 (e1.trans h1) h2 h3 q1.2⟩⟩
theorem do_lst {es : List Expr} {pos : Pos} {t : TA} {d : TDA} (h : DA X W es t d) : DO X W (.List es pos) (tLst t) (dLst d) :=
  ⟨pe_lst h.pa, fun G F H σ en Q Qd Qe R q x k => h.sim G F H σ en _ _ Qe R q x fun vs ds F1 H1 en1 e1 R1 i1 q1 => ⟨by rw [i1.length]; exact q1.1, fun p hp => by
    obtain ⟨h1, h2⟩ := new_lst R1 i1 hp
    exact k _ _ _ _ en1 e1 h1 h2 q1.2⟩⟩

/-! ### statements -/
def dNext : TDS := fun B en => B.nx en
def dSeq (t u : TDS) : TDS := fun B en => t { B with nx := u B } en
def dIfS (c : TDT) (t u : TDS) : TDS := fun B en => c en (fun b en1 => if b = true then t B en1 else u B en1) B.ex
def dRet (e : TDE) : TDS := fun B en => B.fr = false ∧ e en B.rt B.ex
def dRetO (e : TDE) : TDS := fun B en => B.fr = true ∧ e en B.rt B.ex
def dRetN : TDS := fun B en => B.fr = false ∧ B.rt .non en
def dDrop (e : TDE) : TDS := fun B en => e en (fun _ en1 => B.nx en1) B.ex
def dBreak : TDS := fun B en => B.bk en
def dCont : TDS := fun B en => B.ct en
def dNever : TDS := fun _ _ => False
/-- x = e, the value frozen; an object of one's own -/
def dSet (i : Nat) (e : TDE) : TDS := fun B en => e en (fun d en1 => B.nx (en1.set i (some (.fz d)))) B.ex
def dSetO (i : Nat) (e : TDE) : TDS := fun B en => e en (fun d en1 => B.nx (en1.set i (some (.ow false d)))) B.ex
theorem EndsR.seq {G : Gh} {D' : Ends} {B : DEnds} {u : TS} {du : TDS} (h : EndsR K W G D' B) (hu : SimS K W u du) : EndsR K W G { D' with nx := u D' } { B with nx := du B } :=
  ⟨fun F H σ en R q => hu G F H σ en D' B R q h, h.rt, h.bk, h.ct, h.ex, h.rtO⟩
theorem dss_nil : DSs X W [] tNext dNext := ⟨pss_nil, fun G F H σ en D' B R q h => h.nx F H σ en R q⟩
theorem dss_one {s : Stmt} {t : TS} {d : TDS} (h : DS X W s t d) : DSs X W [s] t d := ⟨pss_one h.ps, h.sim⟩
theorem dss_cons {s : Stmt} {ss : List Stmt} {t u : TS} {d d' : TDS} (h : DS X W s t d) (h' : DSs X W ss u d') : DSs X W (s :: ss) (tSeq t u) (dSeq d d') :=
  ⟨pss_cons h.ps h'.ps, fun G F H σ en D' B R q k => h.sim G F H σ en _ _ R q (k.seq h'.sim)⟩
theorem ds_if {c : Expr} {p r : List Stmt} {pos : Pos} {tc : TT} {t u : TS} {dc : TDT} {d d' : TDS} (hc : DT X W c tc dc) (h : DSs X W p t d) (h' : DSs X W r u d') : DS X W (.If c p r pos) (tIfS tc t u) (dIfS dc d d') :=
  ⟨ps_if hc.pt h.ps h'.ps, fun G F H σ en D' B R q k => hc.sim G F H σ en _ _ _ R q k.ex fun b F1 H1 en1 e1 R1 q1 => by
    cases b with
    | true => exact h.sim G F1 H1 σ en1 D' B R1 q1 k
    | false => exact h'.sim G F1 H1 σ en1 D' B R1 q1 k⟩
theorem ds_ret {e : Expr} {pos : Pos} {te : TE} {td : TDE} (h : DE X W e te td) : DS X W (.Return (some e) pos) (tRet te) (dRet td) :=
  ⟨ps_ret h.pe, fun G F H σ en D' B R q k => h.sim G F H σ en _ _ _ R q.2 k.ex fun v d F1 H1 en1 e1 R1 i1 q1 => k.rt v d F1 H1 σ en1 q.1 R1 i1 q1⟩
theorem ds_retO {e : Expr} {pos : Pos} {te : TE} {td : TDE} (h : DO X W e te td) : DS X W (.Return (some e) pos) (tRet te) (dRetO td) :=
  ⟨ps_ret h.pe, fun G F H σ en D' B R q k => h.sim G F H σ en _ _ _ R q.2 k.ex fun a d F1 H1 en1 e1 R1 T1 q1 => k.rtO a d F1 H1 σ en1 q.1 R1 T1 q1⟩
theorem ds_retN {pos : Pos} : DS X W (.Return none pos) tRetN dRetN := ⟨ps_retN, fun G F H σ en D' B R q k => k.rt .non .non F H σ en q.1 R rfl q.2⟩
theorem ds_expr {e : Expr} {pos : Pos} {te : TE} {td : TDE} (h : DE X W e te td) (hs : swapsWith e none pos.line X.env = pure false := by rfl) : DS X W (.Expr e pos) (tDrop te) (dDrop td) :=
  ⟨ps_expr h.pe hs, fun G F H σ en D' B R q k => h.sim G F H σ en _ _ _ R q k.ex fun v d F1 H1 en1 e1 R1 i1 q1 => k.nx F1 H1 σ en1 R1 q1⟩
theorem ds_pass {pos : Pos} : DS X W (.Pass pos) tNext dNext := ⟨ps_pass, fun G F H σ en D' B R q h => h.nx F H σ en R q⟩
theorem ds_break {pos : Pos} : DS X W (.Break pos) tBreak dBreak := ⟨ps_break, fun G F H σ en D' B R q h => h.bk F H σ en R q⟩
theorem ds_cont {pos : Pos} : DS X W (.Continue pos) tCont dCont := ⟨ps_continue, fun G F H σ en D' B R q h => h.ct F H σ en R q⟩
theorem ds_never {s : Stmt} : DS X W s tNever dNever := ⟨ps_never, fun G F H σ en D' B R q h => q.elim⟩
theorem ds_set {i : Nat} {y : Str} {py spos : Pos} {e : Expr} {te : TE} {td : TDE} (hN : X.N.Nodup) (hy : X.N[i]? = some y) (hl : Loc X.env.scope y) (h : DE X W e te td)
    (hs : swapsWith e (some (.Name y py)) spos.line X.env = pure false := by rfl) (hf : X.fn y = true ∨ X.env.scope.names.lookup y = some .local := by first | exact .inl rfl | exact .inr rfl | assumption) : DS X W (.Assign [.Name y py] e spos) (tAsg te (gName i)) (dSet i td) :=
  ⟨ps_asg h.pe (pg_name hN hy hl hf) hs, fun G F H σ en D' B R q k => h.sim G F H σ en _ _ _ R q k.ex fun v d F1 H1 en1 e1 R1 i1 q1 => k.nx F1 H1 _ _ (R1.put i1) q1⟩
theorem ds_setO {i : Nat} {y : Str} {py spos : Pos} {e : Expr} {te : TE} {td : TDE} (hN : X.N.Nodup) (hy : X.N[i]? = some y) (hl : Loc X.env.scope y) (h : DO X W e te td)
    (hs : swapsWith e (some (.Name y py)) spos.line X.env = pure false := by rfl) (hf : X.fn y = true ∨ X.env.scope.names.lookup y = some .local := by first | exact .inl rfl | exact .inr rfl | assumption) : DS X W (.Assign [.Name y py] e spos) (tAsg te (gName i)) (dSetO i td) :=
  ⟨ps_asg h.pe (pg_name hN hy hl hf) hs, fun G F H σ en D' B R q k => h.sim G F H σ en _ _ _ R q k.ex fun a d F1 H1 en1 e1 R1 T1 q1 => k.nx F1 H1 _ _ (R1.putO T1) q1⟩
end
end DL

/-! The D layer, part 3: operators, subscripts, slices. -/
namespace DL
open PySem L2

section
variable {X : Cx} {W : WX} {K : KW}
theorem iI {F : Hp} {i : Int} : Is K F (.int i) (.int i) := rfl
theorem iS {F : Hp} {i : Str} : Is K F (.str i) (.str i) := rfl
theorem iB {F : Hp} {i : Bool} : Is K F (.bl i) (.bl i) := rfl
theorem iN {F : Hp} : Is K F .non .non := rfl
/-! ### + - * // % ** -/
abbrev rAddI : R2 := rI0 fun i j => .int (i + j)
abbrev rAddS : R2 := fun x y H Q => ∃ i j, x = .str i ∧ y = .str j ∧ i.length + j.length ≤ sizeLine ∧ Q (.str (i ++ j)) H
def rAddX (K : Fg) : R2 := fun x y H Q => rAddI x y H Q ∨ rAddS x y H Q ∨ rCat x y H Q ∨ rCatA K x y H Q
theorem op_addX : OpR X (binaryOp .Add) (rAddX X.K) := op_add.or (op_add_str.or (op_cat.or op_catA))
def addD : RD := fun x y Q => match x, y with
  | .int i, .int j => Q (.int (i + j))
  | .str i, .str j => i.length + j.length ≤ sizeLine ∧ Q (.str (i ++ j))
  | .lst a, .lst b => a.length + b.length ≤ sizeLine ∧ Q (.lst (a ++ b))
  | .tup a, .tup b => a.length + b.length ≤ sizeLine ∧ Q (.tup (a ++ b))
  | _, _ => False
theorem new_lstF {G : Gh} {F H : Hp} {σ : L2.St} {en : En} {ds : List D} {vs : List V} {p : Addr} (R : Rel K G F H σ en) (i : IsL K F ds vs) (hp : H p = none) :
    Same F (upd F p (.lst vs)) ∧ Rel K G (upd F p (.lst vs)) (upd H p (.lst vs)) σ en ∧ Is K (upd F p (.lst vs)) (.lst ds) (.ref p) :=
  ⟨same_upd (R.free hp), R.laid hp, p, vs, rfl, upd_same, IsL.mono (same_upd (R.free hp)) _ _ i⟩
theorem IsL.nilV {F : Hp} {ds : List D} (h : IsL K F ds []) : ds = [] := by
  have := h.length
  cases ds with
  | nil => rfl
  | cons _ _ => simp at this
theorem sim_addX : SimR K (rAddX K) addD := by
  intro G F H σ en x y dx dy Q Qd R ix iy q k
  unfold addD at q
  split at q
  · cases ix; cases iy
    exact .inl ⟨_, _, rfl, rfl, k _ _ F H (Same.refl F) R iI q⟩
  · cases ix; cases iy
    exact .inr (.inl ⟨_, _, rfl, rfl, q.1, k _ _ F H (Same.refl F) R iS q.2⟩)
  · obtain ⟨a, vs, rfl, ha, la⟩ := ix
    obtain ⟨b, ws, rfl, hb, lb⟩ := iy
    refine .inr (.inr (.inl ⟨a, b, vs, ws, rfl, rfl, R.le _ _ ha, R.le _ _ hb, by rw [la.length, lb.length]; exact q.1, fun p hp => ?_⟩))
    obtain ⟨h1, h2, h3⟩ := new_lstF R (la.append lb) hp
    exact k _ _ _ _ h1 h2 h3 q.2
  · obtain ⟨a, vs, rfl, ha, la⟩ := ix
    obtain ⟨b, ws, rfl, hb, lb⟩ := iy
    refine .inr (.inr (.inr ⟨a, b, vs, ws, rfl, rfl, SqT.same R.le ha, SqT.same R.le hb, by rw [la.length, lb.length]; exact q.1, fun e => ?_, fun _ e => ?_, fun _ _ p hp => ?_⟩))
    · subst e
      have := la.nilV
      subst this
      exact k _ _ F H (Same.refl F) R (show Is K F (.tup _) _ from ⟨b, ws, rfl, hb, lb⟩) q.2
    · subst e
      have := lb.nilV
      subst this
      rw [List.append_nil] at q
      exact k _ _ F H (Same.refl F) R (show Is K F (.tup _) _ from ⟨a, vs, rfl, ha, la⟩) q.2
    · obtain ⟨h1, h2, h3⟩ := new_tup R (la.append lb) hp
      exact k _ _ _ _ h1 h2 h3 q.2
  · exact q.elim
/-- a list that is one's own -/
def catD : RD := fun x y Q => match x, y with
  | .lst a, .lst b => a.length + b.length ≤ sizeLine ∧ Q (.lst (a ++ b))
  | _, _ => False
theorem do_cat {a b : Expr} {pos : Pos} {ta tb : TE} {da db : TDE} (ha : DE X W a ta da) (hb : DE X W b tb db) : DO X W (.BinOp a .Add b pos) (tOp rCat ta tb) (dOp catD da db) :=
  ⟨pe_op op_cat ha.pe hb.pe, fun G F H σ en Q Qd Qe R q x k => ha.sim G F H σ en _ _ Qe R q x fun v d F1 H1 en1 e1 R1 i1 q1 => hb.sim G F1 H1 σ en1 _ _ Qe R1 q1 x fun u d2 F2 H2 en2 e2 R2 i2 q2 => by
    have i1 := Is.mono e2 _ _ i1
    unfold catD at q2
    split at q2
    · obtain ⟨a, vs, rfl, ha, la⟩ := i1
      obtain ⟨b, ws, rfl, hb, lb⟩ := i2
      refine ⟨a, b, vs, ws, rfl, rfl, R2.le _ _ ha, R2.le _ _ hb, by rw [la.length, lb.length]; exact q2.1, fun p hp => ?_⟩
      obtain ⟨h1, h2⟩ := new_lst R2 (la.append lb) hp
      exact k _ _ _ _ en2 (e1.trans e2) h1 h2 q2.2
    · exact q2.elim⟩

/-- ints to a value, under a condition -/
def iiD (C : Int → Int → Prop) (g : Int → Int → D) : RD := fun x y Q => match x, y with
  | .int i, .int j => C i j ∧ Q (g i j)
  | _, _ => False
def i0D (g : Int → Int → D) : RD := fun x y Q => match x, y with
  | .int i, .int j => Q (g i j)
  | _, _ => False
theorem sim_ii {C : Int → Int → Prop} {g : Int → Int → V} {gd : Int → Int → D} (h : ∀ i j F, Is K F (gd i j) (g i j)) : SimR K (rI C g) (iiD C gd) := by
  intro G F H σ en x y dx dy Q Qd R ix iy q k
  unfold iiD at q
  split at q
  · cases ix; cases iy
    exact ⟨_, _, rfl, rfl, q.1, k _ _ F H (Same.refl F) R (h _ _ F) q.2⟩
  · exact q.elim
theorem sim_i0 {g : Int → Int → V} {gd : Int → Int → D} (h : ∀ i j F, Is K F (gd i j) (g i j)) : SimR K (rI0 g) (i0D gd) := by
  intro G F H σ en x y dx dy Q Qd R ix iy q k
  unfold i0D at q
  split at q
  · cases ix; cases iy
    exact ⟨_, _, rfl, rfl, k _ _ F H (Same.refl F) R (h _ _ F) q⟩
  · exact q.elim
abbrev subD : RD := i0D fun i j => .int (i - j)
abbrev mulD : RD := iiD (fun i j => CMul i j ∨ CMulW i j) fun i j => .int (i * j)
abbrev divD : RD := iiD (fun i j => CDivN i j ∨ CDivW i j) fun i j => .int (i.fdiv j)
abbrev modD : RD := iiD (fun _ j => j ≠ 0) fun i j => .int (i.fmod j)
abbrev powD : RD := iiD CPow fun i j => .int (i ^ j.toNat)
theorem op_mulX : OpR X (binaryOp .Mult) (rI (fun i j => CMul i j ∨ CMulW i j) fun i j => .int (i * j)) := by
  intro pins s σ H x y v u Q I rx ry h
  obtain ⟨i, j, e1, e2, c, q⟩ := h
  rcases c with c | c
  · exact op_mul pins s σ H x y v u Q I rx ry ⟨i, j, e1, e2, c, q⟩
  · exact op_mulW pins s σ H x y v u Q I rx ry ⟨i, j, e1, e2, c, q⟩
theorem op_divX : OpR X (binaryOp .FloorDiv) (rI (fun i j => CDivN i j ∨ CDivW i j) fun i j => .int (i.fdiv j)) := by
  intro pins s σ H x y v u Q I rx ry h
  obtain ⟨i, j, e1, e2, c, q⟩ := h
  rcases c with c | c
  · exact op_fdivN pins s σ H x y v u Q I rx ry ⟨i, j, e1, e2, c, q⟩
  · have e : (V.int (i / j)) = V.int (i.fdiv j) := by rw [Int.fdiv_eq_ediv_of_nonneg i (Int.le_of_lt c.1)]
    exact op_fdivW pins s σ H x y v u Q I rx ry ⟨i, j, e1, e2, c, by
      show Q (.int (i / j)) H
      rw [e]
      exact q⟩
section
variable {a b : Expr} {pos : Pos} {ta tb : TE} {da db : TDE}
theorem de_add (ha : DE X W a ta da) (hb : DE X W b tb db) : DE X W (.BinOp a .Add b pos) (tOp (rAddX X.K) ta tb) (dOp addD da db) := de_op op_addX sim_addX ha hb
abbrev rSubI : R2 := rI0 fun i j => .int (i - j)
abbrev rMulI : R2 := rI (fun i j => CMul i j ∨ CMulW i j) fun i j => .int (i * j)
abbrev rDivI : R2 := rI (fun i j => CDivN i j ∨ CDivW i j) fun i j => .int (i.fdiv j)
abbrev rModI : R2 := rI (fun _ j => j ≠ 0) fun i j => .int (i.fmod j)
abbrev rPowI : R2 := rI CPow fun i j => .int (i ^ j.toNat)
theorem de_sub (ha : DE X W a ta da) (hb : DE X W b tb db) : DE X W (.BinOp a .Sub b pos) (tOp rSubI ta tb) (dOp subD da db) := de_op op_sub (sim_i0 (gd := fun i j => .int (i - j)) fun _ _ _ => rfl) ha hb
theorem de_mul (ha : DE X W a ta da) (hb : DE X W b tb db) : DE X W (.BinOp a .Mult b pos) (tOp rMulI ta tb) (dOp mulD da db) := de_op op_mulX (sim_ii (gd := fun i j => .int (i * j)) fun _ _ _ => rfl) ha hb
theorem de_div (ha : DE X W a ta da) (hb : DE X W b tb db) : DE X W (.BinOp a .FloorDiv b pos) (tOp rDivI ta tb) (dOp divD da db) := de_op op_divX (sim_ii (gd := fun i j => .int (i.fdiv j)) fun _ _ _ => rfl) ha hb
theorem de_mod (ha : DE X W a ta da) (hb : DE X W b tb db) : DE X W (.BinOp a .Mod b pos) (tOp rModI ta tb) (dOp modD da db) := de_op op_modN (sim_ii (gd := fun i j => .int (i.fmod j)) fun _ _ _ => rfl) ha hb
theorem de_pow (ha : DE X W a ta da) (hb : DE X W b tb db) : DE X W (.BinOp a .Pow b pos) (tOp rPowI ta tb) (dOp powD da db) := de_op op_pow (sim_ii (gd := fun i j => .int (i ^ j.toNat)) fun _ _ _ => rfl) ha hb
end
/-- the sign -/
def negD : UD := fun x Q => match x with
  | .int i => Q (.int (-i))
  | _ => False
theorem de_neg {a : Expr} {pos : Pos} {ta : TE} {da : TDE} (ha : DE X W a ta da) : DE X W (.UnaryOp .USub a pos) (tUn (rU fun i => .int (-i)) ta) (dUn negD da) := de_un un_neg (by
  intro G F H σ en x dx Q Qd R ix q k
  unfold negD at q
  split at q
  · cases ix
    exact ⟨_, rfl, k _ _ F H (Same.refl F) R iI q⟩
  · exact q.elim) ha

/-! ### comparisons -/
def ltD : RD := fun x y Q => match x, y with
  | .int i, .int j => Q (.bl (decide (i < j)))
  | _, _ => False
def leD : RD := fun x y Q => match x, y with
  | .int i, .int j => Q (.bl (decide (i ≤ j)))
  | _, _ => False
def gtD : RD := fun x y Q => match x, y with
  | .int i, .int j => Q (.bl (decide (j < i)))
  | _, _ => False
def geD : RD := fun x y Q => match x, y with
  | .int i, .int j => Q (.bl (decide (j ≤ i)))
  | _, _ => False
section
variable {a b : Expr} {pos : Pos} {ta tb : TE} {da db : TDE}
theorem sim_lt : SimR K (rI0 fun i j => .bl (decide (i < j))) ltD := sim_i0 (gd := fun i j => .bl (decide (i < j))) fun _ _ _ => rfl
theorem sim_le : SimR K (rI0 fun i j => .bl (decide (i ≤ j))) leD := sim_i0 (gd := fun i j => .bl (decide (i ≤ j))) fun _ _ _ => rfl
theorem sim_gt : SimR K (rI0 fun i j => .bl (decide (j < i))) gtD := sim_i0 (gd := fun i j => .bl (decide (j < i))) fun _ _ _ => rfl
theorem sim_ge : SimR K (rI0 fun i j => .bl (decide (j ≤ i))) geD := sim_i0 (gd := fun i j => .bl (decide (j ≤ i))) fun _ _ _ => rfl
end
/-- is None, True, False -/
def isNon : D → Bool
  | .non => true
  | _ => false
def isBl (b : Bool) : D → Bool
  | .bl c => c == b
  | _ => false
def rIsC (neg : Bool) : R2 := fun x y H Q => (y = .non ∨ ∃ b, y = .bl b) ∧ Q (.bl (decide (x = y) != neg)) H
theorem op_isC : OpR X (compareOp .Is) (rIsC false) := by
  intro pins s σ H x y v u Q I rx ry h
  obtain ⟨hy, q⟩ := h
  have q : Q (.bl (decide (x = y))) H := by simpa using q
  rcases hy with rfl | ⟨b, rfl⟩
  · exact op_isN pins s σ H x _ v u Q I rx ry ⟨rfl, q⟩
  · cases (show u = Value.bool b from ry)
    have e : (v == Value.bool b) = decide (x = V.bl b) := by
      cases x with
      | bl c => cases (show v = Value.bool c from rx); rw [Bool.eq_iff_iff]; simp
      | int i => obtain ⟨t, rfl⟩ := rx; rfl
      | str i => obtain ⟨t, rfl⟩ := rx; rfl
      | byt i => obtain ⟨t, rfl⟩ := rx; rfl
      | flt i => obtain ⟨t, rfl⟩ := rx; rfl
      | non => cases rx; rfl
      | ref i => cases rx; rfl
      | ty i => cases rx; rfl
    have p : plainIs v (Value.bool b) = true := by
      cases x with
      | bl c => cases (show v = Value.bool c from rx); rfl
      | int i => obtain ⟨t, rfl⟩ := rx; rfl
      | str i => obtain ⟨t, rfl⟩ := rx; rfl
      | byt i => obtain ⟨t, rfl⟩ := rx; rfl
      | flt i => obtain ⟨t, rfl⟩ := rx; rfl
      | non => cases rx; rfl
      | ref i => cases rx; rfl
      | ty i => cases rx; rfl
    exact wpAny_is_plain p (fin_bl I q e.symm)
theorem op_isNC : OpR X (compareOp .IsNot) (rIsC true) := by
  intro pins s σ H x y v u Q I rx ry h
  obtain ⟨hy, q⟩ := h
  have q : Q (.bl (!decide (x = y))) H := by simpa using q
  rcases hy with rfl | ⟨b, rfl⟩
  · exact op_notN pins s σ H x _ v u Q I rx ry ⟨rfl, q⟩
  · cases (show u = Value.bool b from ry)
    have e : (v == Value.bool b) = decide (x = V.bl b) := by
      cases x with
      | bl c => cases (show v = Value.bool c from rx); rw [Bool.eq_iff_iff]; simp
      | int i => obtain ⟨t, rfl⟩ := rx; rfl
      | str i => obtain ⟨t, rfl⟩ := rx; rfl
      | byt i => obtain ⟨t, rfl⟩ := rx; rfl
      | flt i => obtain ⟨t, rfl⟩ := rx; rfl
      | non => cases rx; rfl
      | ref i => cases rx; rfl
      | ty i => cases rx; rfl
    have p : plainIs v (Value.bool b) = true := by
      cases x with
      | bl c => cases (show v = Value.bool c from rx); rfl
      | int i => obtain ⟨t, rfl⟩ := rx; rfl
      | str i => obtain ⟨t, rfl⟩ := rx; rfl
      | byt i => obtain ⟨t, rfl⟩ := rx; rfl
      | flt i => obtain ⟨t, rfl⟩ := rx; rfl
      | non => cases rx; rfl
      | ref i => cases rx; rfl
      | ty i => cases rx; rfl
    exact wpAny_isNot_plain p (fin_bl I q (by rw [e]))
def isD (neg : Bool) : RD := fun x y Q => match y with
  | .non => Q (.bl (isNon x != neg))
  | .bl b => Q (.bl (isBl b x != neg))
  | _ => False
theorem is_non {F : Hp} {d : D} {v : V} (h : Is K F d v) : decide (v = .non) = isNon d := by
  cases d with
  | non => cases h; rfl
  | bl b => cases h; rfl
  | int b => cases h; rfl
  | str b => cases h; rfl
  | tup b => obtain ⟨a, vs, rfl, _⟩ := h; rfl
  | lst b => obtain ⟨a, vs, rfl, _⟩ := h; rfl
  | lck b => obtain ⟨a, vs, rfl, _⟩ := h; rfl
  | dct b => obtain ⟨a, _, _, _, _, _, rfl, _⟩ := h; rfl
  | obj C ns ds => obtain ⟨a, dx, vs, rfl, _⟩ := h; rfl
theorem is_bl {F : Hp} {d : D} {v : V} {c : Bool} (h : Is K F d v) : decide (v = .bl c) = isBl c d := by
  cases d with
  | non => cases h; rfl
  | bl b => cases h; rw [Bool.eq_iff_iff]; simp [isBl]
  | int b => cases h; rfl
  | str b => cases h; rfl
  | tup b => obtain ⟨a, vs, rfl, _⟩ := h; rfl
  | lst b => obtain ⟨a, vs, rfl, _⟩ := h; rfl
  | lck b => obtain ⟨a, vs, rfl, _⟩ := h; rfl
  | dct b => obtain ⟨a, _, _, _, _, _, rfl, _⟩ := h; rfl
  | obj C ns ds => obtain ⟨a, dx, vs, rfl, _⟩ := h; rfl
theorem sim_is {neg : Bool} : SimR K (rIsC neg) (isD neg) := by
  intro G F H σ en x y dx dy Q Qd R ix iy q k
  unfold isD at q
  split at q
  · cases iy
    rw [← is_non ix] at q
    exact ⟨.inl rfl, k _ _ F H (Same.refl F) R iB q⟩
  · cases iy
    rw [← is_bl ix] at q
    exact ⟨.inr ⟨_, rfl⟩, k _ _ F H (Same.refl F) R iB q⟩
  · exact q.elim
/-! ### == -/
/-- equal scalars; none: not both are scalars -/
def scalD : D → D → Option Bool
  | .int i, .int j => some (decide (i = j))
  | .str i, .str j => some (decide (i = j))
  | .bl i, .bl j => some (decide (i = j))
  | .non, .non => some true
  | .non, .int _ => some false | .non, .str _ => some false | .non, .bl _ => some false
  | .int _, .non => some false | .str _, .non => some false | .bl _, .non => some false
  | .int _, .str _ => some false | .str _, .int _ => some false | .bl _, .str _ => some false | .str _, .bl _ => some false
  | _, _ => none
mutual
def D.py : D → Option PyData
  | .non => some .none
  | .bl b => some (.bool b)
  | .int i => some (.int i)
  | .str s => some (.str s)
  | .tup xs => (D.pyL xs).map .tuple
  | .lst xs => (D.pyL xs).map .list
  | .lck xs => (D.pyL xs).map .list
  | _ => none
def D.pyL : List D → Option (List PyData)
  | [] => some []
  | d :: ds => match D.py d, D.pyL ds with
    | some p, some ps => some (p :: ps)
    | _, _ => none
end
mutual
theorem dp_of {F H : Hp} (e : Same F H) : ∀ (d : D) (v : V) (p : PyData), Is K F d v → d.py = some p → Dp K H v p
  | .non, _, _, h, t => by cases h; cases t; exact .non
  | .bl _, _, _, h, t => by cases h; cases t; exact .bl _
  | .int _, _, _, h, t => by cases h; cases t; exact .int _
  | .str _, _, _, h, t => by cases h; cases t; exact .str _
  | .tup ds, _, _, ⟨a, vs, q, s, l⟩, t => by
    subst q
    unfold D.py at t
    cases w : D.pyL ds with
    | none => rw [w] at t; cases t
    | some ps => rw [w] at t; cases t; exact .tup (SqT.same e s) (dp_ofL e ds vs ps l w)
  | .lst ds, _, _, ⟨a, vs, q, s, l⟩, t => by
    subst q
    unfold D.py at t
    cases w : D.pyL ds with
    | none => rw [w] at t; cases t
    | some ps => rw [w] at t; cases t; exact .lst (SqL.of (e _ _ s)) (dp_ofL e ds vs ps l w)
  | .lck ds, _, _, ⟨a, vs, q, s, l⟩, t => by
    subst q
    unfold D.py at t
    cases w : D.pyL ds with
    | none => rw [w] at t; cases t
    | some ps => rw [w] at t; cases t; exact .lst (SqL.same e s) (dp_ofL e ds vs ps l w)
  | .dct _ _, _, _, _, t => nomatch t
  | .obj _ _ _, _, _, _, t => nomatch t
theorem dp_ofL {F H : Hp} (e : Same F H) : ∀ (ds : List D) (vs : List V) (ps : List PyData), IsL K F ds vs → D.pyL ds = some ps → DpAll K H vs ps
  | [], _, _, h, t => by cases h; cases t; exact .nil
  | d :: ds, _, _, ⟨v, r, q, h, l⟩, t => by
    subst q
    unfold D.pyL at t
    cases w : D.py d with
    | none => rw [w] at t; cases t
    | some p =>
      cases w2 : D.pyL ds with
      | none => rw [w, w2] at t; cases t
      | some ps => rw [w, w2] at t; cases t; exact .cons (dp_of e d v p h w) (dp_ofL e ds r ps l w2)
end
def eqBD (neg : Bool) : RD := fun x y Q => match scalD x y with
  | some b => Q (.bl (b != neg))
  | none => match x.py, y.py with
    | some p, some q => SeqAt.shaped p = true ∧ SeqAt.shaped q = true ∧ Q (.bl (PyData.eqv p q != neg))
    | _, _ => False
abbrev eqD : RD := eqBD false
abbrev neD : RD := eqBD true
theorem scal_of {F : Hp} {dx dy : D} {x y : V} {b : Bool} (hx : Is K F dx x) (hy : Is K F dy y) (h : scalD dx dy = some b) : scal x y = true ∧ decide (x = y) = b := by
  unfold scalD at h
  split at h <;> first
    | (cases hx; cases hy; cases h; refine ⟨rfl, ?_⟩; rw [Bool.eq_iff_iff]; simp)
    | (cases h)
def rEqX (K : Fg) : R2 := fun x y H Q => rEq x y H Q ∨ rEqD K x y H Q
def rNeX (K : Fg) : R2 := fun x y H Q => rNe x y H Q ∨ rNeD K x y H Q
theorem sim_eq : SimR K (rEqX K) eqD := by
  intro G F H σ en x y dx dy Q Qd R ix iy q k
  unfold eqD eqBD at q
  split at q
  · rename_i b hb
    obtain ⟨h1, h2⟩ := scal_of ix iy hb
    rw [← h2] at q
    exact .inl ⟨h1, k _ _ F H (Same.refl F) R iB (by simpa using q)⟩
  · split at q
    · rename_i p r h1 h2
      exact .inr ⟨p, r, dp_of R.le _ _ _ ix h1, dp_of R.le _ _ _ iy h2, q.1, q.2.1, k _ _ F H (Same.refl F) R iB (by simpa using q.2.2)⟩
    · exact q.elim
theorem sim_ne : SimR K (rNeX K) neD := by
  intro G F H σ en x y dx dy Q Qd R ix iy q k
  unfold neD eqBD at q
  split at q
  · rename_i b hb
    obtain ⟨h1, h2⟩ := scal_of ix iy hb
    rw [← h2] at q
    exact .inl ⟨h1, k _ _ F H (Same.refl F) R iB (by simpa using q)⟩
  · split at q
    · rename_i p r h1 h2
      exact .inr ⟨p, r, dp_of R.le _ _ _ ix h1, dp_of R.le _ _ _ iy h2, q.1, q.2.1, k _ _ F H (Same.refl F) R iB (by simpa using q.2.2)⟩
    · exact q.elim
theorem op_eqX (hu : X.A.units + 64 < cLine) : OpR X (compareOp .Eq) (rEqX X.K) := op_eq.or (op_eqD hu)
theorem op_neX (hu : X.A.units + 64 < cLine) : OpR X (compareOp .NotEq) (rNeX X.K) := op_ne.or (op_neD hu)
/-! ### in -/
/-- flat data, and their == -/
def flatD : D → Bool
  | .non => true | .bl _ => true | .int _ => true | .str _ => true
  | _ => false
def eqFD : D → D → Bool
  | .non, .non => true
  | .bl a, .bl b => a == b
  | .bl a, .int b => (if a then 1 else 0) == b
  | .int a, .bl b => a == (if b then 1 else 0)
  | .int a, .int b => a == b
  | .str a, .str b => a == b
  | _, _ => false
def inFD (x : D) (xs : List D) : Bool := xs.any fun y => eqFD y x
theorem flatV_of {F : Hp} {d : D} {v : V} (h : Is K F d v) (f : flatD d = true) : flatV v = true := by
  cases d <;> first | (cases h; rfl) | cases f
theorem flatL_of {F : Hp} : ∀ {ds : List D} {vs : List V}, IsL K F ds vs → ds.all flatD = true → vs.all flatV = true
  | [], _, h, _ => by cases h; rfl
  | d :: ds, _, ⟨v, r, q, h, l⟩, f => by
    subst q
    rw [List.all_cons, Bool.and_eq_true] at f ⊢
    exact ⟨flatV_of h f.1, flatL_of l f.2⟩
theorem eqV_of {F : Hp} {d e : D} {v u : V} (h : Is K F d v) (h' : Is K F e u) (f : flatD d = true) (f' : flatD e = true) : eqV v u = eqFD d e := by
  cases d <;> (first | (cases f; done) | skip) <;> cases h <;> cases e <;> (first | (cases f'; done) | skip) <;> cases h' <;> rfl
theorem inV_of {F : Hp} {d : D} {v : V} (h : Is K F d v) (f : flatD d = true) : ∀ {ds : List D} {vs : List V}, IsL K F ds vs → ds.all flatD = true → inV v vs = inFD d ds
  | [], _, l, _ => by cases l; rfl
  | e :: ds, _, ⟨u, r, q, k, l⟩, g => by
    subst q
    rw [List.all_cons, Bool.and_eq_true] at g
    have e1 : inV v (u :: r) = (eqV u v || inV v r) := by simp [inV]
    have e2 : inFD d (e :: ds) = (eqFD e d || inFD d ds) := by simp [inFD]
    rw [e1, e2, eqV_of k h g.1 f, inV_of h f l g.2]
abbrev rInSt (neg : Bool) : R2 := fun x y H Q => ∃ i j, x = .str i ∧ y = .str j ∧ Q (.bl ((!(Builtin.Str.occurrences j i 0 j.length 1).isEmpty) != neg)) H
def rInDct (K : KW) (neg : Bool) : R2 := fun x y H Q => ∃ a ks kvs us k, y = .ref a ∧ DAt K.w H a ks kvs us ∧ Kfit K H ks kvs k x ∧ Q (.bl ((lkp ks us k).isSome != neg)) H
def rInX (K : KW) (neg : Bool) : R2 := fun x y H Q => (rIn K neg x y H Q ∨ rInSt neg x y H Q) ∨ rInDct K neg x y H Q
theorem op_inDct (hu : X.A.units + 64 < cLine) : OpR X (compareOp .In) (rInDct (kk X) false) := by
  intro pins s σ H x y v u Q I rx ry ⟨a, ks, kvs, us, k, e, hd, hf, q⟩
  subst e
  cases ry
  exact dd_in hu I hd hf rx fun s' I' => ⟨.bl (lkp ks us k).isSome, H, I', rfl, by simpa using q⟩
theorem op_notInDct (hu : X.A.units + 64 < cLine) : OpR X (compareOp .NotIn) (rInDct (kk X) true) := by
  intro pins s σ H x y v u Q I rx ry ⟨a, ks, kvs, us, k, e, hd, hf, q⟩
  subst e
  cases ry
  exact dd_notIn hu I hd hf rx fun s' I' => ⟨.bl (!(lkp ks us k).isSome), H, I', rfl, by simpa using q⟩
theorem in_dct {F H : Hp} {x : V} {dx : D} {a : Addr} {ds es : List D} {neg : Bool} {ks : List NestedKey} {kvs us : List V} {Q : VK} {Qd : D → Prop} (e : Same F H) (ix : Is K F dx x) (hh : DHas K F H a ds es ks kvs us) (q : fitD ds dx = true ∧ Qd (.bl ((lkD ds es dx).isSome != neg))) (k : ∀ z dz, Is K F dz z → Qd dz → Q z H) : rInDct K neg x (.ref a) H Q := by
  obtain ⟨j, hj⟩ := fit_some q.1
  refine ⟨a, ks, kvs, us, j, rfl, hh.at_, kfit_of e hh.hk hh.lk hj ix q.1, k _ _ iB ?_⟩
  obtain ⟨l1, l2⟩ := lk_of (K := K) (F := F) hj hh.hk hh.lv
  cases w : lkD ds es dx with
  | none => rw [l2 w]; have := q.2; rw [w] at this; exact this
  | some d =>
    obtain ⟨v, h1, h2⟩ := l1 d w
    rw [h1]; have := q.2; rw [w] at this; exact this
/-- one text within another -/
def subS (i j : Str) : Bool := !(Builtin.Str.occurrences j i 0 j.length 1).isEmpty
def inD (neg : Bool) : RD := fun x y Q => match y with
  | .lst ds => flatD x = true ∧ ds.all flatD = true ∧ Q (.bl (inFD x ds != neg))
  | .lck ds => flatD x = true ∧ ds.all flatD = true ∧ Q (.bl (inFD x ds != neg))
  | .tup ds => flatD x = true ∧ ds.all flatD = true ∧ Q (.bl (inFD x ds != neg))
  | .str j => match x with
    | .str i => Q (.bl (subS i j != neg))
    | _ => False
  | .dct ds es => fitD ds x = true ∧ Q (.bl ((lkD ds es x).isSome != neg))
  | _ => False
theorem neg_if {a neg : Bool} : (if neg then !a else a) = (a != neg) := by cases neg <;> simp
theorem sim_in {neg : Bool} : SimR K (rInX K neg) (inD neg) := by
  intro G F H σ en x y dx dy Q Qd R ix iy q k
  unfold inD at q
  split at q
  · rename_i ds
    obtain ⟨a, vs, rfl, ha, la⟩ := iy
    exact .inl <| .inl ⟨a, vs, rfl, .inl (SqL.of (R.le _ _ ha)), flatV_of ix q.1, flatL_of la q.2.1, k _ _ F H (Same.refl F) R iB (by rw [neg_if, inV_of ix q.1 la q.2.1]; exact q.2.2)⟩
  · rename_i ds
    obtain ⟨a, vs, rfl, ha, la⟩ := iy
    exact .inl <| .inl ⟨a, vs, rfl, .inl (SqL.same R.le ha), flatV_of ix q.1, flatL_of la q.2.1, k _ _ F H (Same.refl F) R iB (by rw [neg_if, inV_of ix q.1 la q.2.1]; exact q.2.2)⟩
  · rename_i ds
    obtain ⟨a, vs, rfl, ha, la⟩ := iy
    exact .inl <| .inl ⟨a, vs, rfl, .inr (SqT.same R.le ha), flatV_of ix q.1, flatL_of la q.2.1, k _ _ F H (Same.refl F) R iB (by rw [neg_if, inV_of ix q.1 la q.2.1]; exact q.2.2)⟩
  · rename_i j
    cases dx with
    | str i =>
      cases ix; cases iy
      exact .inl <| .inr ⟨_, _, rfl, rfl, k _ (.bl (subS i j != neg)) F H (Same.refl F) R rfl q⟩
    | _ => exact q.elim
  · obtain ⟨a, ks, kvs, us, rfl, hh⟩ := dhas_fz R.le iy
    exact .inr (in_dct R.le ix hh q fun z dz i q' => k z dz F H (Same.refl F) R i q')
  · exact q.elim
theorem op_inX (hu : X.A.units + 64 < cLine) : OpR X (compareOp .In) (rInX (kk X) false) := OpR.or (OpR.or op_in_seq fun pins s σ H x y v u Q I rx ry ⟨i, j, h1, h2, q⟩ => op_in_str pins s σ H x y v u Q I rx ry ⟨i, j, h1, h2, by simpa using q⟩) (op_inDct hu)
theorem op_notInX (hu : X.A.units + 64 < cLine) : OpR X (compareOp .NotIn) (rInX (kk X) true) := OpR.or (OpR.or op_notIn_seq fun pins s σ H x y v u Q I rx ry ⟨i, j, h1, h2, q⟩ => op_notIn_str pins s σ H x y v u Q I rx ry ⟨i, j, h1, h2, by simpa using q⟩) (op_notInDct hu)

/-! ### subscripts -/
def atD (ds : List D) (i : Int) : Option D := atI ds i
theorem atI_of {F : Hp} {ds : List D} {vs : List V} {i : Int} {d : D} (l : IsL K F ds vs) (h : atI ds i = some d) : ∃ v, atI vs i = some v ∧ Is K F d v := by
  unfold atI at h ⊢
  rw [l.length]
  cases e : ixN ds.length i with
  | none => rw [e] at h; cases h
  | some j => rw [e] at h; exact l.get h
def ixD : RD := fun x y Q => match x, y with
  | .lst ds, .int i => ∃ d, atI ds i = some d ∧ Q d
  | .lck ds, .int i => ∃ d, atI ds i = some d ∧ Q d
  | .tup ds, .int i => ∃ d, atI ds i = some d ∧ Q d
  | .str s, .int i => s.length ≤ sizeLine ∧ ∃ c, atI s.cps.toList i = some c ∧ Q (.str ⟨#[c]⟩)
  | .dct ds es, j => fitD ds j = true ∧ ∃ e, lkD ds es j = some e ∧ Q e
  | _, _ => False
def rIxDct (K : KW) : R2 := fun x y H Q => ∃ a ks kvs us k v, x = .ref a ∧ DAt K.w H a ks kvs us ∧ Kfit K H ks kvs k y ∧ lkp ks us k = some v ∧ Q v H
def rIxX (K : KW) : R2 := fun x y H Q => rIx K x y H Q ∨ rIxDct K x y H Q
theorem subD_tail {prog : Program} {w : World} {A : Around} {E : Value → Shared → Prop} {s : Shared} {value slice : Expr} {T id : String} {o i : Value} {Q : Value → Shared → Prop} (hT : s.TypeIs o T)
    (hl : typeLookup (.type T) "__getitem__" = pure (some (.builtin id))) (hs : subscripted slice false o i = operate [o, i] (getItem o i)) (h : wpAny (model prog w) A (getItem o i) Q E s) : wpAny (model prog w) A (PyProof.Rows.subscriptTail value slice o i) Q E s := by
  unfold PyProof.Rows.subscriptTail
  refine wpAny_bind ?_
  rw [getitemInPython_of_ne hT.not_modules]
  refine wpAny_bind (wpAny_specialOf hT hl ?_)
  have fin : wpAny (model prog w) A (subscripted slice false o i) (fun r s₃ => wpAny (model prog w) A (letTemporaryGo value o r >>= fun _ => pure r) Q E s₃) E s := by
    rw [hs]
    exact wpAny_operating (wpAny_mono h (fun r s₃ h₃ => wpAny_bind (wpAny_letTemporaryGo (wpAny_pure h₃))) fun _ _ x => x)
  first
    | exact wpAny_pure (wpAny_bind fin)
    | exact wpAny_bind (wpAny_pure (wpAny_bind fin))
    | exact wpAny_bind fin
theorem ix_dct (hu : X.A.units + 64 < cLine) : IxR X (rIxDct (kk X)) := by
  intro value slice pins s σ H x y v u Q I rx ry ⟨a, ks, kvs, us, k, z, e, hd, hf, hl, q⟩ hs
  subst e
  cases rx
  obtain ⟨o, ho, dx, _⟩ := hd.obj I
  have hT : s.TypeIs (.ref a) "dict" := ⟨o, ho, dx.1⟩
  exact subD_tail hT PySem.F.slot_dict_getitem.lookup hs (dd_getItem hu I hd hf hl ry fun w' s' I' r => ⟨z, H, I', r, q⟩)
theorem ix_X (hu : X.A.units + 64 < cLine) : IxR X (rIxX (kk X)) := ix_seq.or (ix_dct hu)
theorem ix_dctD {F H : Hp} {y : V} {dy : D} {a : Addr} {ds es : List D} {ks : List NestedKey} {kvs us : List V} {Q : VK} {Qd : D → Prop} (e : Same F H) (iy : Is K F dy y) (hh : DHas K F H a ds es ks kvs us) (q : fitD ds dy = true ∧ ∃ e, lkD ds es dy = some e ∧ Qd e) (k : ∀ z dz, Is K F dz z → Qd dz → Q z H) : rIxDct K (.ref a) y H Q := by
  obtain ⟨f, d, h1, h2⟩ := q
  obtain ⟨j, hj⟩ := fit_some f
  obtain ⟨v, h3, h4⟩ := (lk_of (K := K) (F := F) hj hh.hk hh.lv).1 d h1
  exact ⟨a, ks, kvs, us, j, v, rfl, hh.at_, kfit_of e hh.hk hh.lk hj iy f, h3, k _ _ h4 h2⟩
theorem ixD_run {G : Gh} {F H : Hp} {σ : L2.St} {en : En} {x y : V} {dx dy : D} {Q : VK} {Qd : D → Prop} (R : Rel K G F H σ en) (ix : Is K F dx x) (iy : Is K F dy y) (q : ixD dx dy Qd)
    (k : ∀ z dz, Is K F dz z → Qd dz → Q z H) : rIxX K x y H Q := by
  unfold ixD at q
  split at q
  · obtain ⟨a, vs, rfl, ha, la⟩ := ix
    cases iy
    obtain ⟨d, h1, h2⟩ := q
    obtain ⟨v, h3, h4⟩ := atI_of la h1
    exact .inl <| .inl ⟨a, vs, _, v, rfl, rfl, SqL.of (R.le _ _ ha), h3, k v d h4 h2⟩
  · obtain ⟨a, vs, rfl, ha, la⟩ := ix
    cases iy
    obtain ⟨d, h1, h2⟩ := q
    obtain ⟨v, h3, h4⟩ := atI_of la h1
    exact .inl <| .inl ⟨a, vs, _, v, rfl, rfl, SqL.same R.le ha, h3, k v d h4 h2⟩
  · obtain ⟨a, vs, rfl, ha, la⟩ := ix
    cases iy
    obtain ⟨d, h1, h2⟩ := q
    obtain ⟨v, h3, h4⟩ := atI_of la h1
    exact .inl <| .inr (.inl ⟨a, vs, _, v, rfl, rfl, SqT.same R.le ha, h3, k v d h4 h2⟩)
  · cases ix; cases iy
    obtain ⟨h0, c, h1, h2⟩ := q
    exact .inl <| .inr (.inr ⟨_, _, c, rfl, rfl, h0, h1, k _ _ iS h2⟩)
  · obtain ⟨a, ks, kvs, us, rfl, hh⟩ := dhas_fz R.le ix
    exact .inr (ix_dctD R.le iy hh q k)
  · exact q.elim
theorem sim_ix : SimR K (rIxX K) ixD := fun G F H σ en x y dx dy Q Qd R ix iy q k => ixD_run R ix iy q fun z dz i q' => k z dz F H (Same.refl F) R i q'
theorem de_ix (hu : X.A.units + 64 < cLine) {a b : Expr} {pos : Pos} {ta tb : TE} {da db : TDE} (ha : DE X W a ta da) (hb : DE X W b tb db) (hs : PlainIx b := by exact fun _ _ => rfl) : DE X W (.Subscript a b pos) (tOp (rIxX (kk X)) ta tb) (dOp ixD da db) := ⟨pe_ix (ix_X hu) ha.pe hb.pe hs, sim_op sim_ix ha.sim hb.sim⟩

/-- what an own slot holds, read where it stands -/
theorem peek_own {G : Gh} {F H : Hp} {σ : L2.St} {en : En} {i : Nat} {d : D} (R : Rel K G F H σ en) (h : peek en i = some d) : ∃ v, σ[i]? = some (some v) ∧ (Is K F d v ∨ ∃ a, v = .ref a ∧ OwAt K F H a d) := by
  unfold peek at h
  split at h
  · rename_i e
    cases h
    obtain ⟨v, h1, h2⟩ := R.fz i d e
    exact ⟨v, h1, .inl h2⟩
  · rename_i e
    cases h
    obtain ⟨a, h1, _, h3, _⟩ := R.ow i _ d e
    exact ⟨_, h1, .inr ⟨a, rfl, h3⟩⟩
  · cases h
/-- x[e] of a name, x not frozen -/
def dIxV (i : Nat) (db : TDE) : TDE := fun en Q Qe => (peek en i).isSome = true ∧ db en (fun y en2 => match peek en2 i with
  | some x => ixD x y fun z => Q z en2
  | none => False) Qe
theorem ixD_own {G : Gh} {F H : Hp} {σ : L2.St} {en : En} {a : Addr} {y : V} {dx dy : D} {Q : VK} {Qd : D → Prop} (R : Rel K G F H σ en) (ix : OwAt K F H a dx) (iy : Is K F dy y) (q : ixD dx dy Qd)
    (k : ∀ z dz, Is K F dz z → Qd dz → Q z H) : rIxX K (.ref a) y H Q := by
  unfold ixD at q
  split at q
  · obtain ⟨vs, ha, la⟩ := ix
    cases iy
    obtain ⟨d, h1, h2⟩ := q
    obtain ⟨v, h3, h4⟩ := atI_of la h1
    exact .inl <| .inl ⟨a, vs, _, v, rfl, rfl, SqL.of ha, h3, k v d h4 h2⟩
  · exact ix.elim
  · exact ix.elim
  · exact ix.elim
  · obtain ⟨ks, kvs, us, hh⟩ := dhas_ow ix
    exact .inr (ix_dctD R.le iy hh q k)
  · exact q.elim
theorem de_ixV (hu : X.A.units + 64 < cLine) {i : Nat} {b : Expr} {x : Str} {p1 pos : Pos} {tb : TE} {db : TDE} (hb : DE X W b tb db) (hs : PlainIx b := by exact fun _ _ => rfl) (hN : X.N[i]? = some x := by rfl) (hv : Vis X.env.scope x := by first | exact Or.inl rfl | exact Or.inr (Or.inl rfl) | exact Or.inr (Or.inr rfl)) (hd : (x == ("__debug__" : Str)) = false := by decide)
    (hcd : (x == ("__classdict__" : Str)) = false := by decide) : DE X W (.Subscript (.Name x p1) b pos) (tOp (rIxX (kk X)) (tVar i) tb) (dIxV i db) :=
  ⟨pe_ix (ix_X hu) (pe_var hN hv hd hcd) hb.pe hs, fun G F H σ en Q Qd Qe R q x k => by
    obtain ⟨q0, q⟩ := q
    obtain ⟨d0, e0⟩ := Option.isSome_iff_exists.mp q0
    obtain ⟨v, h1, _⟩ := peek_own R e0
    refine ⟨v, h1, ?_⟩
    exact hb.sim G F H σ en _ _ Qe R q x fun u d2 F2 H2 en2 e2 R2 i2 q2 => by
      split at q2
      · rename_i d e3
        obtain ⟨v', h1', h2⟩ := peek_own R2 e3
        rw [h1] at h1'
        cases h1'
        rcases h2 with h2 | ⟨a, rfl, h2⟩
        · exact ixD_run R2 h2 i2 q2 fun z dz i q' => k z dz F2 H2 en2 e2 R2 i q'
        · exact ixD_own R2 h2 i2 q2 fun z dz i q' => k z dz F2 H2 en2 e2 R2 i q'
      · exact q2.elim⟩
end
end DL

/-! The D layer, part 4: slices, targets, loops. -/
namespace DL
open PySem L2

section
variable {X : Cx} {W : WX} {K : KW}
/-! ### slices -/
def cutD (ds : List D) (lo hi : Option Int) : List D := (ds.drop (HT.sIx ds.length 0 lo)).take (HT.sIx ds.length ds.length hi - HT.sIx ds.length 0 lo)
theorem IsL.cut {F : Hp} {ds : List D} {vs : List V} (l : IsL K F ds vs) (lo hi : Option Int) : IsL K F (cutD ds lo hi) (cutV vs lo hi) := by
  unfold cutD cutV
  rw [l.length]
  exact (l.drop _).take _
abbrev TDO := En → (Option Int → En → Prop) → Qx → Prop
def SimP (K : KW) (W : WX) (t : TO) (td : TDO) : Prop := ∀ G F H σ en (Q : Option Int → Hp → Prop) Qd Qe, Rel K G F H σ en → td en Qd Qe → XR K W G Qe →
  (∀ o F' H' en', Same F F' → Rel K G F' H' σ en' → Qd o en' → Q o H') → t σ H Q
structure DP (X : Cx) (W : WX) (e : Option Expr) (t : TO) (td : TDO) : Prop where
  po : PO X e t
  sim : SimP (kk X) W t td
def dNoP : TDO := fun en Q _ => Q none en
def dSomeP (e : TDE) : TDO := fun en Q Qe => e en (fun d en1 => match d with
  | .int i => Q (some i) en1
  | _ => False) Qe
theorem dp_none : DP X W none tNoPart dNoP := ⟨po_none, fun G F H σ en Q Qd Qe R q x k => k none F H en (Same.refl F) R q⟩
theorem dp_some {e : Expr} {te : TE} {td : TDE} (h : DE X W e te td) : DP X W (some e) (tPart te) (dSomeP td) := ⟨po_some h.pe, fun G F H σ en Q Qd Qe R q x k =>
  h.sim G F H σ en _ _ Qe R q x fun v d F1 H1 en1 e1 R1 i1 q1 => by
    cases d with
    | int i => cases i1; exact ⟨i, rfl, k (some i) F1 H1 en1 e1 R1 q1⟩
    | _ => exact q1.elim⟩
def sliceD (x : D) (lo hi : Option Int) (Q : D → Prop) : Prop := match x with
  | .lst ds => Q (.lst (cutD ds lo hi))
  | .lck ds => Q (.lst (cutD ds lo hi))
  | .tup ds => Q (.tup (cutD ds lo hi))
  | .str s => s.length ≤ sizeLine ∧ Q (.str (cutS s lo hi))
  | _ => False
def rSlX (K : Fg) : V → Option Int → Option Int → Hp → VK → Prop := fun x lo hi H Q => rSlL K x lo hi H Q ∨ rSlA K x lo hi H Q ∨ rSlS x lo hi H Q
theorem sl_X : SlR X (rSlX X.K) := sl_list.or (sl_tupA.or sl_str)
def dSl (e : TDE) (l h : TDO) : TDE := fun en Q Qe => e en (fun x en1 => l en1 (fun lo en2 => h en2 (fun hi en3 => sliceD x lo hi fun z => Q z en3) Qe) Qe) Qe
theorem tup_whole {xs : List V} {lo hi : Option Int} (h : HT.sIx xs.length 0 lo = 0 ∧ HT.sIx xs.length xs.length hi = xs.length) : cutV xs lo hi = xs := by
  unfold cutV
  rw [h.1, h.2]
  simp
theorem tup_wholeD {xs : List D} {lo hi : Option Int} (h : HT.sIx xs.length 0 lo = 0 ∧ HT.sIx xs.length xs.length hi = xs.length) : cutD xs lo hi = xs := by
  unfold cutD
  rw [h.1, h.2]
  simp
theorem de_sl {e : Expr} {lo hi : Option Expr} {p2 pos : Pos} {te : TE} {tl th : TO} {td : TDE} {dl dh : TDO} (he : DE X W e te td) (hl : DP X W lo tl dl) (hh : DP X W hi th dh) : DE X W (.Subscript e (.Slice lo hi none p2) pos) (tSl (rSlX X.K) te tl th) (dSl td dl dh) :=
  ⟨pe_slice sl_X he.pe hl.po hh.po, fun G F H σ en Q Qd Qe R q x k => he.sim G F H σ en _ _ Qe R q x fun v d F1 H1 en1 e1 R1 i1 q1 => hl.sim G F1 H1 σ en1 _ _ Qe R1 q1 x fun o F2 H2 en2 e2 R2 q2 =>
    hh.sim G F2 H2 σ en2 _ _ Qe R2 q2 x fun u F3 H3 en3 e3 R3 q3 => by
      have i3 := Is.mono (e2.trans e3) _ _ i1
      have e4 := (e1.trans e2).trans e3
      unfold sliceD at q3
      split at q3
      · obtain ⟨a, vs, rfl, ha, la⟩ := i3
        refine .inl ⟨a, vs, rfl, SqL.of (R3.le _ _ ha), fun p hp => ?_⟩
        obtain ⟨h1, h2, h3⟩ := new_lstF R3 (la.cut o u) hp
        exact k _ _ _ _ en3 (e4.trans h1) h2 h3 q3
      · obtain ⟨a, vs, rfl, ha, la⟩ := i3
        refine .inl ⟨a, vs, rfl, SqL.same R3.le ha, fun p hp => ?_⟩
        obtain ⟨h1, h2, h3⟩ := new_lstF R3 (la.cut o u) hp
        exact k _ _ _ _ en3 (e4.trans h1) h2 h3 q3
      · obtain ⟨a, vs, rfl, ha, la⟩ := i3
        refine .inr (.inl ⟨a, vs, rfl, SqT.same R3.le ha, fun hw => ?_, fun _ p hp => ?_⟩)
        · rw [la.length] at hw
          rw [tup_wholeD hw] at q3
          exact k _ (.tup _) F3 H3 en3 e4 R3 ⟨a, vs, rfl, ha, la⟩ q3
        · obtain ⟨h1, h2, h3⟩ := new_tup R3 (la.cut o u) hp
          exact k _ _ _ _ en3 (e4.trans h1) h2 h3 q3
      · cases i3
        exact .inr (.inr ⟨_, rfl, q3.1, k _ _ F3 H3 en3 e4 R3 iS q3.2⟩)
      · exact q3.elim⟩
/-- a slice of a list, one's own -/
def sliceL (x : D) (lo hi : Option Int) (Q : D → Prop) : Prop := match x with
  | .lst ds => Q (.lst (cutD ds lo hi))
  | .lck ds => Q (.lst (cutD ds lo hi))
  | _ => False
def dSlL (e : TDE) (l h : TDO) : TDE := fun en Q Qe => e en (fun x en1 => l en1 (fun lo en2 => h en2 (fun hi en3 => sliceL x lo hi fun z => Q z en3) Qe) Qe) Qe
theorem do_sl {e : Expr} {lo hi : Option Expr} {p2 pos : Pos} {te : TE} {tl th : TO} {td : TDE} {dl dh : TDO} (he : DE X W e te td) (hl : DP X W lo tl dl) (hh : DP X W hi th dh) : DO X W (.Subscript e (.Slice lo hi none p2) pos) (tSl (rSlL X.K) te tl th) (dSlL td dl dh) :=
  ⟨pe_slice sl_list he.pe hl.po hh.po, fun G F H σ en Q Qd Qe R q x k => he.sim G F H σ en _ _ Qe R q x fun v d F1 H1 en1 e1 R1 i1 q1 => hl.sim G F1 H1 σ en1 _ _ Qe R1 q1 x fun o F2 H2 en2 e2 R2 q2 =>
    hh.sim G F2 H2 σ en2 _ _ Qe R2 q2 x fun u F3 H3 en3 e3 R3 q3 => by
      have i3 := Is.mono (e2.trans e3) _ _ i1
      have e4 := (e1.trans e2).trans e3
      unfold sliceL at q3
      split at q3
      · obtain ⟨a, vs, rfl, ha, la⟩ := i3
        refine ⟨a, vs, rfl, SqL.of (R3.le _ _ ha), fun p hp => ?_⟩
        obtain ⟨h1, h2⟩ := new_lst R3 (la.cut o u) hp
        exact k _ _ _ _ en3 e4 h1 h2 q3
      · obtain ⟨a, vs, rfl, ha, la⟩ := i3
        refine ⟨a, vs, rfl, SqL.same R3.le ha, fun p hp => ?_⟩
        obtain ⟨h1, h2⟩ := new_lst R3 (la.cut o u) hp
        exact k _ _ _ _ en3 e4 h1 h2 q3
      · exact q3.elim⟩
/-- x[lo:hi] of a name that holds one's own list, not frozen: a new list of one's own -/
def dSlV (i : Nat) (l h : TDO) : TDE := fun en Q Qe => (peek en i).isSome = true ∧ l en (fun lo en2 => h en2 (fun hi en3 => match peek en3 i with
  | some x => sliceL x lo hi fun z => Q z en3
  | none => False) Qe) Qe
theorem do_slV {i : Nat} {x : Str} {p1 : Pos} {lo hi : Option Expr} {p2 pos : Pos} {tl th : TO} {dl dh : TDO} (hl : DP X W lo tl dl) (hh : DP X W hi th dh) (hN : X.N[i]? = some x := by rfl) (hv : Vis X.env.scope x := by first | exact Or.inl rfl | exact Or.inr (Or.inl rfl) | exact Or.inr (Or.inr rfl)) (hd : (x == ("__debug__" : Str)) = false := by decide)
    (hcd : (x == ("__classdict__" : Str)) = false := by decide) : DO X W (.Subscript (.Name x p1) (.Slice lo hi none p2) pos) (tSl (rSlL X.K) (tVar i) tl th) (dSlV i dl dh) :=
  ⟨pe_slice sl_list (pe_var hN hv hd hcd) hl.po hh.po, fun G F H σ en Q Qd Qe R q x k => by
    obtain ⟨q0, q⟩ := q
    obtain ⟨d0, e0⟩ := Option.isSome_iff_exists.mp q0
    obtain ⟨v, h1, _⟩ := peek_own R e0
    refine ⟨v, h1, ?_⟩
    exact hl.sim G F H σ en _ _ Qe R q x fun o F2 H2 en2 e2 R2 q2 => hh.sim G F2 H2 σ en2 _ _ Qe R2 q2 x fun u F3 H3 en3 e3 R3 q3 => by
      have e4 := e2.trans e3
      split at q3
      · rename_i d e5
        obtain ⟨v', h1', h2⟩ := peek_own R3 e5
        rw [h1] at h1'
        cases h1'
        unfold sliceL at q3
        split at q3
        · rcases h2 with h2 | ⟨a, rfl, h2⟩
          · obtain ⟨a, vs, rfl, ha, la⟩ := h2
            refine ⟨a, vs, rfl, SqL.of (R3.le _ _ ha), fun p hp => ?_⟩
            obtain ⟨h1, h2⟩ := new_lst R3 (la.cut o u) hp
            exact k _ _ _ _ en3 e4 h1 h2 q3
          · obtain ⟨vs, ha, la⟩ := h2
            refine ⟨a, vs, rfl, SqL.of ha, fun p hp => ?_⟩
            obtain ⟨h1, h2⟩ := new_lst R3 (la.cut o u) hp
            exact k _ _ _ _ en3 e4 h1 h2 q3
        · rcases h2 with h2 | ⟨a, rfl, h2⟩
          · obtain ⟨a, vs, rfl, ha, la⟩ := h2
            refine ⟨a, vs, rfl, SqL.same R3.le ha, fun p hp => ?_⟩
            obtain ⟨h1, h2⟩ := new_lst R3 (la.cut o u) hp
            exact k _ _ _ _ en3 e4 h1 h2 q3
          · exact h2.elim
        · exact q3.elim
      · exact q3.elim⟩

/-! ### targets -/
abbrev TDG := D → En → (En → Prop) → Prop
abbrev TDGs := List D → En → (En → Prop) → Prop
def SimG (K : KW) (g : TG) (gd : TDG) : Prop := ∀ G F H σ en d v (Q : L2.St → Hp → Prop) Qd, Rel K G F H σ en → Is K F d v → gd d en Qd → (∀ F' H' σ' en', Same F F' → Rel K G F' H' σ' en' → Qd en' → Q σ' H') → g v σ H Q
def SimGs (K : KW) (g : TGs) (gd : TDGs) : Prop := ∀ G F H σ en ds vs (Q : L2.St → Hp → Prop) Qd, Rel K G F H σ en → IsL K F ds vs → gd ds en Qd → (∀ F' H' σ' en', Same F F' → Rel K G F' H' σ' en' → Qd en' → Q σ' H') → g vs σ H Q
structure DG (X : Cx) (tg : Expr) (g : TG) (gd : TDG) : Prop where
  pg : PG X tg g
  sim : SimG (kk X) g gd
structure DGs (X : Cx) (ts : List Expr) (g : TGs) (gd : TDGs) : Prop where
  pg : PGs X ts g
  sim : SimGs (kk X) g gd
def dgName (i : Nat) : TDG := fun d en Q => Q (en.set i (some (.fz d)))
theorem dg_name {i : Nat} {x : Str} {pos : Pos} (hN : X.N.Nodup) (hi : X.N[i]? = some x) (hx : Loc X.env.scope x) (hf : X.fn x = true ∨ X.env.scope.names.lookup x = some .local := by first | exact .inl rfl | exact .inr rfl | assumption) : DG X (.Name x pos) (gName i) (dgName i) :=
  ⟨pg_name hN hi hx hf, fun G F H σ en d v Q Qd R i q k => k F H _ _ (Same.refl F) (R.put i) q⟩
def dgNil : TDGs := fun ds en Q => ds = [] ∧ Q en
def dgCons (t : TDG) (u : TDGs) : TDGs := fun ds en Q => match ds with
  | d :: r => t d en fun en1 => u r en1 Q
  | [] => False
theorem dgs_nil : DGs X [] gNil dgNil := ⟨pgs_nil, fun G F H σ en ds vs Q Qd R i q k => by
  obtain ⟨rfl, q⟩ := q
  exact ⟨i, k F H σ en (Same.refl F) R q⟩⟩
theorem dgs_cons {e : Expr} {es : List Expr} {t : TG} {u : TGs} {td : TDG} {ud : TDGs} (h : DG X e t td) (h' : DGs X es u ud) (hs : (assignEach (e :: es) X.env).map (·.2) = assign e X.env :: (assignEach es X.env).map (·.2) := by rfl) : DGs X (e :: es) (gCons t u) (dgCons td ud) :=
  ⟨pgs_cons h.pg h'.pg hs, fun G F H σ en ds vs Q Qd R i q k => by
    cases ds with
    | nil => exact q.elim
    | cons d r =>
      obtain ⟨v, w, rfl, h1, h2⟩ := i
      exact ⟨v, w, rfl, h.sim G F H σ en d v _ _ R h1 q fun F1 H1 σ1 en1 e1 R1 q1 => h'.sim G F1 H1 σ1 en1 r w Q Qd R1 (IsL.mono e1 _ _ h2) q1 fun F2 H2 σ2 en2 e2 R2 q2 => k F2 H2 σ2 en2 (e1.trans e2) R2 q2⟩⟩
/-- a, b, .. = a tuple -/
def dgTup (n : Nat) (u : TDGs) : TDG := fun d en Q => match d with
  | .tup ds => ds.length = n ∧ u ds en Q
  | _ => False
theorem dg_tup {es : List Expr} {x1} {pos : Pos} {u : TGs} {ud : TDGs} (h : DGs X es u ud) (hc : X.calm = true := by rfl) (hn : (assignEach es X.env).length = es.length := by rfl) (hst : (assignEach es X.env).findIdx? (·.1) = none := by rfl) : DG X (.Tuple es x1 pos) (gTup X.K es.length u) (dgTup es.length ud) :=
  ⟨pg_tup hc h.pg hn hst, fun G F H σ en d v Q Qd R i q k => by
    cases d with
    | tup ds =>
      obtain ⟨a, vs, rfl, ha, la⟩ := i
      exact ⟨a, vs, rfl, SqT.same R.le ha, by rw [la.length]; exact q.1, h.sim G F H σ en ds vs Q Qd R la q.2 k⟩
    | _ => exact q.elim⟩
def dAsg (e : TDE) (g : TDG) : TDS := fun B en => e en (fun d en1 => g d en1 B.nx) B.ex
theorem ds_asg {tg e : Expr} {pos : Pos} {te : TE} {td : TDE} {g : TG} {gd : TDG} (h : DE X W e te td) (hg : DG X tg g gd) (hs : swapsWithSole [tg] e pos.line X.env = pure false := by rfl) (hw : swappedStores [tg] e X.env = pure none := by rfl)
    (h1 : (assignEach [tg] X.env).map (·.2) = [assign tg X.env] := by rfl) : DS X W (.Assign [tg] e pos) (tAsg te g) (dAsg td gd) :=
  ⟨ps_asg h.pe hg.pg hs hw h1, fun G F H σ en D' B R q k => h.sim G F H σ en _ _ _ R q k.ex fun v d F1 H1 en1 e1 R1 i1 q1 => hg.sim G F1 H1 σ en1 d v _ _ R1 i1 q1 fun F2 H2 σ2 en2 e2 R2 q2 => k.nx F2 H2 σ2 en2 R2 q2⟩

/-! ### what a for walks -/
/-- the walk J hands out the data ds -/
structure ItD (K : KW) (F : Hp) (J : It) (ds : List D) : Prop where
  go : ∀ i F1 H, Same F F1 → Same F1 H → i < ds.length → J.go i H
  stop : ∀ F1 H, Same F F1 → Same F1 H → J.stop ds.length H
  yld : ∀ i G F1 H σ en x H', Same F F1 → Rel K G F1 H σ en → i < ds.length → J.yld i H x H' → ∃ F2, Same F1 F2 ∧ Rel K G F2 H' σ en ∧ ∃ d, ds[i]? = some d ∧ Is K F2 d x
abbrev TDI := En → (List D → En → Prop) → Qx → Prop
def SimI (K : KW) (W : WX) (wi : TI) (di : TDI) : Prop := ∀ G F H σ en (R' : It → Hp → Prop) Qd Qe, Rel K G F H σ en → di en Qd Qe → XR K W G Qe →
  (∀ J ds F' H' en', Same F F' → Rel K G F' H' σ en' → ItD K F' J ds → Qd ds en' → R' J H') → wi σ H R'
structure DI (X : Cx) (W : WX) (tg iter : Expr) (wi : TI) (di : TDI) : Prop where
  pi : PI X tg iter wi
  sim : SimI (kk X) W wi di
/-! the keys, values, items of a locked dict -/
/-- the locked dict: o is its object -/
def LkAt (K : KW) (H : Hp) (a : Addr) (o : Obj) : Prop := ∃ u, H a = some (.frz o u)
def ItX (K : KW) (a : Addr) (o : Obj) (kvs : List V) : It :=
  ⟨fun i H => LkAt K H a o ∧ i < kvs.length, fun i H x H' => H' = H ∧ kvs[i]? = some x, fun i H => LkAt K H a o ∧ kvs.length ≤ i⟩
def ItP (K : KW) (a : Addr) (o : Obj) (kvs us : List V) : It :=
  ⟨fun i H => LkAt K H a o ∧ i < kvs.length, fun i H x H' => ∃ T k v, kvs[i]? = some k ∧ us[i]? = some v ∧ x = .ref T ∧ H T = none ∧ H' = upd H T (.tup [k, v]), fun i H => LkAt K H a o ∧ kvs.length ≤ i⟩
theorem ents_get {w : World} : ∀ {es : List DictEntry} {ks : List NestedKey} {kvs us : List V}, Ents w es ks kvs us → ∀ i, i < kvs.length → ∃ e k v, es[i]? = some e ∧ kvs[i]? = some k ∧ us[i]? = some v ∧ RelV k e.key ∧ RelV v e.val := by
  intro es ks kvs us h
  induction h with
  | nil => intro i hi; exact absurd hi (Nat.not_lt_zero _)
  | @cons e es k ks kv v kvs vs h1 h2 h3 _ ih =>
    intro i hi
    cases i with
    | zero => exact ⟨e, kv, v, rfl, rfl, rfl, h2, h3⟩
    | succ i =>
      obtain ⟨e', k', v', a1, a2, a3, a4⟩ := ih i (by simpa using hi)
      exact ⟨e', k', v', by simpa using a1, by simpa using a2, by simpa using a3, a4⟩
section
variable {P : Program} {w : World} {K : PySem.W.Frag} {tg : Expr} {d : Addr} {o : Obj} {es : Array DictEntry} {ep : Nat} {ks : List NestedKey} {kvs us : List V}
theorem es_size (en : Ents w es.toList ks kvs us) : es.size = kvs.length ∧ es.size = us.length := by
  obtain ⟨h1, h2, h3⟩ := ents_len en
  rw [Array.length_toList] at h1
  omega
theorem turn_keysX (hx : o.ExactDict) (it : Addr) (hod : o.data = .dict es ep) (en : Ents w es.toList ks kvs us) : Turn P w K tg (ItX ⟨K, w⟩ d o kvs) [it] it (fun i h => h.IsKeyIter it d i kvs.length ep) where
  mem := by simp
  obj := fun i h st b hb => by
    have e : b = it := by simpa using hb
    subst e
    obtain ⟨oi, e, c, dd⟩ := st
    exact ⟨oi, e, fun v z => by rw [dd] at z; cases z⟩
  keep := fun i h h' st k => st.at fun oi e => k it (by simp) oi e
  item := by
    intro X hP hw hK hc i pins s σ H E I hf st hg
    subst hP hw hK
    obtain ⟨⟨u, hd⟩, hi⟩ := hg
    obtain ⟨f0, f1, f2, f3, f4, f5⟩ := hf it (by simp)
    have hgd := (I.hok d _ hd).1
    obtain ⟨e1, k, v, a1, a2, a3, a4, a5⟩ := ents_get en i hi
    refine next_key_item st hgd hod (es_size en).1 (en := e1) (by simpa using a1) fun h' st' sb => ?_
    have I1 : L2.Inv X pins σ H { s with heap := h' } := I.turned (t' := s.toks) (fun b ob hb e => (sb.2 b hb).trans e) f0 f1 f3 f4 f5
    obtain ⟨oi, e, c, dd⟩ := id st'
    exact ⟨e1.key, rfl, go_of (s := { s with heap := h' }) e c dd (by decide) ⟨k, H, I1, a4, ⟨rfl, a2⟩, st', fun b hb => (hf b hb).1⟩⟩
  done := by
    intro X hP hw hK hc i pins s σ H E I hf st hg
    subst hP hw hK
    obtain ⟨⟨u, hd⟩, hi⟩ := hg
    obtain ⟨f0, f1, f2, f3, f4, f5⟩ := hf it (by simp)
    have hgd := (I.hok d _ hd).1
    exact next_key_end (I.ok.hd hc) st hgd hod (es_size en).1 hi fun h' eb => ⟨rfl, I.turned (t' := s.toks) (fun b ob hb e => eb b ob hb e) f0 f1 f3 f4 f5⟩
  self := fun A i s Q E st h => by
    refine wpAny_pyIter_slot st.typeIs F.slot_dict_keyiterator_iter (wpAny_call_entry F.slot_dict_keyiterator_iter st.typeIs F.entry_dict_keyiterator_iter ?_ (F.args_dict_keyiterator_iter_1 _))
    show wpAny _ _ (ret (.ref it)) _ _ s
    exact wpAny_pure ⟨_, rfl, "dict_keyiterator", _, st.typeIs, F.slot_dict_keyiterator_next.lookup, h⟩
theorem turn_valsX (hx : o.ExactDict) (it : Addr) (hod : o.data = .dict es ep) (en : Ents w es.toList ks kvs us) : Turn P w K tg (ItX ⟨K, w⟩ d o us) [it] it (fun i h => h.IsValIter it d i es.size ep) where
  mem := by simp
  obj := fun i h st b hb => by
    have e : b = it := by simpa using hb
    subst e
    obtain ⟨oi, e, c, dd⟩ := st
    exact ⟨oi, e, fun v z => by rw [dd] at z; cases z⟩
  keep := fun i h h' st k => st.at fun oi e => k it (by simp) oi e
  item := by
    intro X hP hw hK hc i pins s σ H E I hf st hg
    subst hP hw hK
    obtain ⟨⟨u, hd⟩, hi⟩ := hg
    obtain ⟨f0, f1, f2, f3, f4, f5⟩ := hf it (by simp)
    have hgd := (I.hok d _ hd).1
    have sz := es_size en
    obtain ⟨e1, k, v, a1, a2, a3, a4, a5⟩ := ents_get en i (by omega)
    have hlt : i < es.size := by omega
    have he1 : es[i] = e1 := by
      have : es.toList[i]? = some es[i] := by simp [hlt]
      rw [a1] at this
      exact (Option.some.inj this).symm
    refine wpAny_pyNext_values_item_raw st ⟨o, hgd, hx, hod⟩ hlt fun h' st' sb => ?_
    have I1 : L2.Inv X pins σ H { s with heap := h' } := I.turned (t' := s.toks) (fun b ob hb e => (sb.2 b hb).trans e) f0 f1 f3 f4 f5
    obtain ⟨oi, e, c, dd⟩ := id st'
    exact ⟨_, rfl, go_of (s := { s with heap := h' }) e c dd (by decide) ⟨v, H, I1, by rw [he1]; exact a5, ⟨rfl, a3⟩, st', fun b hb => (hf b hb).1⟩⟩
  done := by
    intro X hP hw hK hc i pins s σ H E I hf st hg
    subst hP hw hK
    obtain ⟨⟨u, hd⟩, hi⟩ := hg
    obtain ⟨f0, f1, f2, f3, f4, f5⟩ := hf it (by simp)
    have hgd := (I.hok d _ hd).1
    have sz := es_size en
    exact wpAny_pyNext_values_end_raw (I.ok.hd hc) st ⟨o, hgd, hx, hod⟩ (by omega) fun h' eb => ⟨rfl, I.turned (t' := s.toks) (fun b ob hb e => eb b ob hb e) f0 f1 f3 f4 f5⟩
  self := fun A i s Q E st h => wpAny_pyIter_valiter st h
theorem turn_itemsX {elts : List Expr} {kk' : Nat} {tpos : Pos} (hx : o.ExactDict) (it : Addr) (hod : o.data = .dict es ep) (en : Ents w es.toList ks kvs us) :
    Turn P w K (.Tuple elts kk' tpos) (ItP ⟨K, w⟩ d o kvs us) [it] it (fun i h => ∃ ok ov, IsItemIter h it d i es.size ep ok ov) where
  mem := by simp
  obj := fun i h st b hb => by
    have e : b = it := by simpa using hb
    subst e
    obtain ⟨ok, ov, e⟩ := st
    exact ⟨_, e, fun v z => nomatch z⟩
  keep := fun i h h' st k => let ⟨ok, ov, e⟩ := st; ⟨ok, ov, k it (by simp) _ e⟩
  item := by
    intro X hP hw hK hc i pins s σ H E I hf st hg
    subst hP hw hK
    obtain ⟨⟨u, hd⟩, hi⟩ := hg
    have hgd := (I.hok d _ hd).1
    have sz := es_size en
    obtain ⟨e1, k, v, a1, a2, a3, a4, a5⟩ := ents_get en i (by omega)
    have hlt : i < es.size := by omega
    have he1 : es[i] = e1 := by
      have : es.toList[i]? = some es[i] := by simp [hlt]
      rw [a1] at this
      exact (Option.some.inj this).symm
    obtain ⟨ok, ov, he⟩ := st
    have hil : it < s.heap.objs.size := Heap.lt_size he
    refine wpAny_pyNext_items_item_raw he ⟨o, hgd, hx, hod⟩ hlt fun h' ho hT hz hk => ?_
    refine ⟨_, rfl, wpAny_letOwnedTupleGo_items (s := { s with heap := h' }) ho fun h'' he' sb => ?_⟩
    rw [he1] at hT
    have hT2 : h''.get? s.heap.objs.size = some { cls := .type "tuple", data := .seq #[e1.key, e1.val] } := (sb.2 _ (Nat.ne_of_gt hil)).trans hT
    have new : ObjOk X.prog X.w (upd H s.heap.objs.size (.tup [k, v])) h'' s.heap.objs.size (.tup [k, v]) :=
      ⟨by show 2 ≤ sizeLine; decide, [e1.key, e1.val], .cons a4 (.cons a5 .nil), ⟨_, hT2, rfl, _, rfl⟩⟩
    have I1 : L2.Inv X pins σ (upd H s.heap.objs.size (.tup [k, v])) { s with heap := h'' } :=
      I.turnedNew (t' := s.toks) (ch := [it]) (fun b ob hb e => (sb.2 b (by simpa using hb)).trans (hk b ob (by simpa using hb) e)) hf (Nat.le_refl _) new
    refine ⟨.ref s.heap.objs.size, _, I1, rfl, ⟨_, k, v, a2, a3, rfl, I.hok.fresh (Nat.le_refl _), rfl⟩, ⟨_, _, he'⟩, fun b hb => ?_⟩
    have e : b = it := by simpa using hb
    rw [e, upd_ne (Nat.ne_of_lt hil)]
    exact (hf it (by simp)).1
  done := by
    intro X hP hw hK hc i pins s σ H E I hf st hg
    subst hP hw hK
    obtain ⟨⟨u, hd⟩, hi⟩ := hg
    obtain ⟨f0, f1, f2, f3, f4, f5⟩ := hf it (by simp)
    have hgd := (I.hok d _ hd).1
    have sz := es_size en
    obtain ⟨ok, ov, he⟩ := st
    exact wpAny_pyNext_items_end_raw (I.ok.hd hc) he ⟨o, hgd, hx, hod⟩ (by omega) fun h' eb => ⟨rfl, I.turned (t' := s.toks) (fun b ob hb e => eb b ob hb e) f0 f1 f3 f4 f5⟩
  self := fun A i s Q E st h => let ⟨_, _, e⟩ := st; PySem.W.kcp_self e h
end
theorem LkAt.ok {X : Cx} {pins : List (Addr × Obj)} {σ : L2.St} {H : Hp} {s : Shared} {a : Addr} {o : Obj} (I : L2.Inv X pins σ H s) (h : LkAt (kk X) H a o) : s.heap.get? a = some o := by
  obtain ⟨u, e⟩ := h
  exact (I.hok a _ e).1
theorem itd_x {F : Hp} {a : Addr} {o : Obj} {u : HO} {ds : List D} {vs : List V} (h : F a = some (.frz o u)) (l : IsL K F ds vs) : ItD K F (ItX K a o vs) ds where
  go := fun i F1 H e e' hi => ⟨⟨u, e' _ _ (e _ _ h)⟩, by rw [l.length]; exact hi⟩
  stop := fun F1 H e e' => ⟨⟨u, e' _ _ (e _ _ h)⟩, by rw [l.length]; exact Nat.le_refl _⟩
  yld := fun i G F1 H σ en x H' e R hi y => by
    obtain ⟨rfl, y⟩ := y
    obtain ⟨v, hv, iv⟩ := l.get (List.getElem?_eq_getElem hi)
    rw [hv] at y
    cases y
    exact ⟨F1, Same.refl _, R, _, List.getElem?_eq_getElem hi, Is.mono e _ _ iv⟩
/-- pairs of two lists -/
def pairsD : List D → List D → List D
  | d :: ds, e :: es => .tup [d, e] :: pairsD ds es
  | _, _ => []
theorem pairsD_get : ∀ {ds es : List D} {i : Nat} {d e : D}, ds[i]? = some d → es[i]? = some e → (pairsD ds es)[i]? = some (.tup [d, e])
  | [], _, _, _, _, h, _ => by simp at h
  | _ :: _, [], _, _, _, _, h => by simp at h
  | _ :: _, _ :: _, 0, _, _, h, h' => by simp at h h'; subst h h'; rfl
  | _ :: _, _ :: _, i + 1, _, _, h, h' => by
    have := pairsD_get (i := i) (by simpa using h) (by simpa using h')
    simpa [pairsD] using this
theorem pairsD_len : ∀ {ds es : List D}, ds.length = es.length → (pairsD ds es).length = ds.length
  | [], [], _ => rfl
  | [], _ :: _, h => by simp at h
  | _ :: _, [], h => by simp at h
  | d :: ds, e :: es, h => by simp [pairsD, pairsD_len (ds := ds) (es := es) (by simpa using h)]
theorem itd_p {F : Hp} {a : Addr} {o : Obj} {u : HO} {ds es : List D} {vs ws : List V} (h : F a = some (.frz o u)) (hl : ds.length = es.length) (l : IsL K F ds vs) (l' : IsL K F es ws) : ItD K F (ItP K a o vs ws) (pairsD ds es) where
  go := fun i F1 H e e' hi => ⟨⟨u, e' _ _ (e _ _ h)⟩, by rw [l.length]; rw [pairsD_len hl] at hi; exact hi⟩
  stop := fun F1 H e e' => ⟨⟨u, e' _ _ (e _ _ h)⟩, by rw [l.length, pairsD_len hl]; exact Nat.le_refl _⟩
  yld := fun i G F1 H σ en x H' e R hi y => by
    rw [pairsD_len hl] at hi
    obtain ⟨T, k, v, y1, y2, rfl, hT, rfl⟩ := y
    obtain ⟨k', hk, ik⟩ := l.get (List.getElem?_eq_getElem hi)
    obtain ⟨v', hv, iv⟩ := l'.get (List.getElem?_eq_getElem (by omega : i < es.length))
    rw [hk] at y1; cases y1
    rw [hv] at y2; cases y2
    obtain ⟨h1, h2, h3⟩ := new_tup R (ds := [ds[i], es[i]'(by omega)]) (vs := [k, v]) ⟨_, _, rfl, Is.mono e _ _ ik, _, _, rfl, Is.mono e _ _ iv, rfl⟩ hT
    exact ⟨_, h1, h2, _, pairsD_get (List.getElem?_eq_getElem hi) (List.getElem?_eq_getElem (by omega)), h3⟩
def iSeq (K : KW) (te : TE) : TI := fun σ H R => te σ H fun x H1 => (∃ a o ks kvs us, x = .ref a ∧ LkAt K H1 a o ∧ (a == sysModules) = false ∧ DictObj K.w o ks kvs us ∧ R (ItX K a o kvs) H1) ∨ (∃ a xs, x = .ref a ∧ SqL K H1 a xs ∧ R (Itl K a) H1) ∨ (∃ a xs, x = .ref a ∧ SqT K H1 a xs ∧ R (Itt K a) H1) ∨ ∃ z, x = .str z ∧ R (Its z) H1
theorem pi_seq {tg e : Expr} {te : TE} (he : PE X e te) : PI X tg e (iSeq (kk X) te) := by
  refine ⟨fun pins s σ H R I h => thn (he.run pins s σ H _ I h) fun v s1 ⟨x, H1, I1, r1, q1⟩ => ?_⟩
  rcases q1 with ⟨a, o, ks, kvs, us, ex, hq, hs, ⟨hx, ⟨es, ep, hd, en⟩, _⟩, q⟩ | ⟨a, xs, ex, hq, q⟩ | ⟨a, xs, ex, hq, q⟩ | ⟨z, ex, q⟩
  · subst ex; cases r1
    refine iter_keys hs (LkAt.ok I1 hq) hx hd (pi_one (tk := s1.toks) I1 _ (turn_keysX hx _ hd en) ⟨_, Heap.get?_push_size _ rfl, rfl, ?_⟩ q)
    rw [(es_size en).1] <;> rfl
  · subst ex; cases r1
    obtain ⟨its, rv, p, hz⟩ := I1.list hq
    refine wpAny_pyIter_list p.isList ⟨s1.heap.objs.size, [s1.heap.objs.size], _, _, H1, rfl, I1.kept (t' := s1.toks) fun b o e => Heap.get?_push_of_some _ e, turn_list a _, ⟨_, Heap.get?_push_size _ rfl, rfl, rfl⟩, fun b hb => ?_, q⟩
    obtain rfl : b = s1.heap.objs.size := by simpa using hb
    exact I1.fpOk (Nat.le_refl _) (I1.hok.fresh (Nat.le_refl _))
  · subst ex; cases r1
    obtain ⟨its, rv, p, hz⟩ := I1.tuple hq
    refine wpAny_pyIter_tuple (show s1.heap.IsTuple a its.toArray from p) ⟨s1.heap.objs.size, [s1.heap.objs.size], _, _, H1, rfl, I1.kept (t' := s1.toks) fun b o e => Heap.get?_push_of_some _ e, turn_tuple a _, ⟨_, Heap.get?_push_size _ rfl, rfl, rfl⟩, fun b hb => ?_, q⟩
    obtain rfl : b = s1.heap.objs.size := by simpa using hb
    exact I1.fpOk (Nat.le_refl _) (I1.hok.fresh (Nat.le_refl _))
  · subst ex
    obtain ⟨t, rfl⟩ := r1
    cases ha : z.cps.all (· < 128) with
    | false => exact wpAny_pyIter_wide ha (pi_one (tk := s1.toks) I1 _ (turn_str _ z t "str_iterator" (.inr rfl)) ⟨_, Heap.get?_push_size _ rfl, rfl, rfl⟩ q)
    | true => exact wpAny_pyIter_ascii ha (pi_one (tk := s1.toks) I1 _ (turn_str _ z t "str_ascii_iterator" (.inl rfl)) ⟨_, Heap.get?_push_size _ rfl, rfl, rfl⟩ q)
/-- the signs of a text -/
def signsD (s : Str) : List D := s.cps.toList.map fun c => .str ⟨#[c]⟩
def itemsD : D → Option (List D)
  | .lst ds => some ds
  | .lck ds => some ds
  | .tup ds => some ds
  | .str s => some (signsD s)
  | .dct ds _ => some ds
  | _ => none
def diSeq (e : TDE) : TDI := fun en Q Qe => e en (fun d en1 => match itemsD d with
  | some ds => Q ds en1
  | none => False) Qe
theorem itd_l {F : Hp} {a : Addr} {ds : List D} {vs : List V} (h : SqL K F a vs) (l : IsL K F ds vs) : ItD K F (Itl K a) ds where
  go := fun i F1 H e e' hi => by
    obtain ⟨v, hv, _⟩ := l.get (List.getElem?_eq_getElem hi)
    exact ⟨vs, v, SqL.same (e.trans e') h, hv⟩
  stop := fun F1 H e e' => ⟨vs, SqL.same (e.trans e') h, by rw [l.length]; exact Nat.le_refl _⟩
  yld := fun i G F1 H σ en x H' e R hi y => by
    obtain ⟨rfl, y⟩ := y
    obtain ⟨v, hv, iv⟩ := l.get (List.getElem?_eq_getElem hi)
    have hx := y vs (SqL.same (e.trans R.le) h)
    rw [hv] at hx
    cases hx
    exact ⟨F1, Same.refl _, R, _, List.getElem?_eq_getElem hi, Is.mono e _ _ iv⟩
theorem itd_t {F : Hp} {a : Addr} {ds : List D} {vs : List V} (h : SqT K F a vs) (l : IsL K F ds vs) : ItD K F (Itt K a) ds where
  go := fun i F1 H e e' hi => by
    obtain ⟨v, hv, _⟩ := l.get (List.getElem?_eq_getElem hi)
    exact ⟨vs, v, SqT.same (e.trans e') h, hv⟩
  stop := fun F1 H e e' => ⟨vs, SqT.same (e.trans e') h, by rw [l.length]; exact Nat.le_refl _⟩
  yld := fun i G F1 H σ en x H' e R hi y => by
    obtain ⟨rfl, y⟩ := y
    obtain ⟨v, hv, iv⟩ := l.get (List.getElem?_eq_getElem hi)
    have hx := y vs (SqT.same (e.trans R.le) h)
    rw [hv] at hx
    cases hx
    exact ⟨F1, Same.refl _, R, _, List.getElem?_eq_getElem hi, Is.mono e _ _ iv⟩
theorem itd_s {F : Hp} {s : Str} : ItD K F (Its s) (signsD s) where
  go := fun i F1 H e e' hi => by
    show i < s.cps.size
    simpa [signsD] using hi
  stop := fun F1 H e e' => by
    show s.cps.size ≤ _
    simp [signsD]
  yld := fun i G F1 H σ en x H' e R hi y => by
    obtain ⟨rfl, c, hc, rfl⟩ := y
    refine ⟨F1, Same.refl _, R, .str ⟨#[c]⟩, ?_, rfl⟩
    unfold signsD
    rw [List.getElem?_map, Array.getElem?_toList, hc]
    rfl
theorem di_seq {tg e : Expr} {te : TE} {td : TDE} (h : DE X W e te td) : DI X W tg e (iSeq (kk X) te) (diSeq td) := ⟨pi_seq h.pe, fun G F H σ en R' Qd Qe R q x k =>
  h.sim G F H σ en _ _ Qe R q x fun v d F1 H1 en1 e1 R1 i1 q1 => by
    cases d with
    | lst ds =>
      obtain ⟨a, vs, rfl, ha, la⟩ := i1
      exact .inr <| .inl ⟨a, vs, rfl, SqL.of (R1.le _ _ ha), k _ ds F1 H1 en1 e1 R1 (itd_l (SqL.of ha) la) q1⟩
    | lck ds =>
      obtain ⟨a, vs, rfl, ha, la⟩ := i1
      exact .inr <| .inl ⟨a, vs, rfl, SqL.same R1.le ha, k _ ds F1 H1 en1 e1 R1 (itd_l ha la) q1⟩
    | tup ds =>
      obtain ⟨a, vs, rfl, ha, la⟩ := i1
      exact .inr <| .inr (.inl ⟨a, vs, rfl, SqT.same R1.le ha, k _ ds F1 H1 en1 e1 R1 (itd_t ha la) q1⟩)
    | dct ds es =>
      obtain ⟨a, o, u, ks, kvs, us, rfl, h1, h2, h3, h4, h5, h6⟩ := i1
      exact .inl ⟨a, o, ks, kvs, us, rfl, ⟨u, R1.le _ _ h1⟩, h2, h3, k _ ds F1 H1 en1 e1 R1 (itd_x h1 h5) q1⟩
    | str s => cases i1; exact .inr <| .inr (.inr ⟨s, rfl, k _ (signsD s) F1 H1 en1 e1 R1 itd_s q1⟩)
    | _ => exact q1.elim⟩
/-- d.values(), d.items() -/
def iValsX (K : KW) (te : TE) : TI := fun σ H R => te σ H fun x H1 => ∃ a o ks kvs us, x = .ref a ∧ LkAt K H1 a o ∧ (a == sysModules) = false ∧ DictObj K.w o ks kvs us ∧ R (ItX K a o us) H1
def iItemsX (K : KW) (te : TE) : TI := fun σ H R => te σ H fun x H1 => ∃ a o ks kvs us, x = .ref a ∧ LkAt K H1 a o ∧ (a == sysModules) = false ∧ DictObj K.w o ks kvs us ∧ R (ItP K a o kvs us) H1
section
variable {tg e : Expr} {td : TE} {apos cpos : Pos}
theorem pi_valuesX (he : PE X e td) (hbase : attributeBase e "values" X.env (eval e X.env) = eval e X.env := by rfl) (hline : (apos.endLine == cpos.line) = true := by rfl) : PI X tg (.Call (.Attribute e "values" apos) [] [] cpos) (iValsX (kk X) td) := by
  refine ⟨fun pins s σ H R I h => ?_⟩
  refine wpAny_Call_method (T := "dict") (id := "dict.values") hbase rfl hline F.plainAttrs_dict F.slot_dict_values F.type_dict_values (thn (he.run pins s σ H _ I h) fun u s1 ⟨x, H1, I1, rx, d, o, ks, kvs, us, ex, hd, hs, ⟨hx, ⟨es, ep, hdt, en⟩, _⟩, q⟩ => ?_)
  subst ex
  obtain rfl : u = Value.ref d := rx
  have hgd := LkAt.ok I1 hd
  have hT : s1.TypeIs (.ref d) "dict" := ⟨o, hgd, hx.1⟩
  refine ⟨hT, fun b e => by cases e; exact ⟨o, hgd, hx.2.1⟩, ?_⟩
  have I2 : L2.Inv X pins σ H1 { s1 with heap := s1.heap.push { cls := .type "dict_values", data := .fields #[.ref d] } } := I1.kept (t' := s1.toks) fun b ob q => Heap.get?_push_of_some _ q
  have fin : wpAny (model X.prog X.w) X.A (pyIter (.ref s1.heap.objs.size)) (PIE X pins σ tg R) X.xe { s1 with heap := s1.heap.push { cls := .type "dict_values", data := .fields #[.ref d] } } := by
    refine wpAny_pyIter_values_raw (d := d) ⟨_, Heap.get?_push_size _ rfl, rfl, rfl⟩ ⟨o, Heap.get?_push_of_some _ hgd, hx, hdt⟩ (pi_one (tk := s1.toks) I2 _ (turn_valsX hx _ hdt en) ⟨_, Heap.get?_push_size _ rfl, rfl, rfl⟩ q)
  show wpAny _ _ (callWith cpos (.builtin "dict.values") [.ref d] [] []) _ X.xe s1
  exact method_meetsIn F.slot_dict_values F.entry_dict_values rfl (PySem.evalArgs_none ⟨rfl, hT, F.args_dict_values_1 _, _, meets_dict_values_raw d hs, ⟨⟨es, ep, o, hgd, hx, hdt⟩, fin⟩⟩)
theorem pi_itemsX {elts : List Expr} {kk' : Nat} {tpos : Pos} (he : PE X e td) (hbase : attributeBase e "items" X.env (eval e X.env) = eval e X.env := by rfl) (hline : (apos.endLine == cpos.line) = true := by rfl) : PI X (.Tuple elts kk' tpos) (.Call (.Attribute e "items" apos) [] [] cpos) (iItemsX (kk X) td) := by
  refine ⟨fun pins s σ H R I h => ?_⟩
  refine wpAny_Call_method (T := "dict") (id := "dict.items") hbase rfl hline F.plainAttrs_dict F.slot_dict_items F.type_dict_items (thn (he.run pins s σ H _ I h) fun u s1 ⟨x, H1, I1, rx, d, o, ks, kvs, us, ex, hd, hs, ⟨hx, ⟨es, ep, hdt, en⟩, _⟩, q⟩ => ?_)
  subst ex
  obtain rfl : u = Value.ref d := rx
  have hgd := LkAt.ok I1 hd
  have hT : s1.TypeIs (.ref d) "dict" := ⟨o, hgd, hx.1⟩
  refine ⟨hT, fun b e => by cases e; exact ⟨o, hgd, hx.2.1⟩, ?_⟩
  have I2 : L2.Inv X pins σ H1 { s1 with heap := s1.heap.push { cls := .type "dict_items", data := .fields #[.ref d] } } := I1.kept (t' := s1.toks) fun b ob q => Heap.get?_push_of_some _ q
  have fin : wpAny (model X.prog X.w) X.A (pyIter (.ref s1.heap.objs.size)) (PIE X pins σ (.Tuple elts kk' tpos) R) X.xe { s1 with heap := s1.heap.push { cls := .type "dict_items", data := .fields #[.ref d] } } := by
    refine wpAny_pyIter_items_raw (d := d) ⟨_, Heap.get?_push_size _ rfl, rfl, rfl⟩ ⟨o, Heap.get?_push_of_some _ hgd, hx, hdt⟩ (pi_one (tk := s1.toks) I2 _ (turn_itemsX hx _ hdt en) ⟨.none, .none, Heap.get?_push_size _ rfl⟩ q)
  show wpAny _ _ (callWith cpos (.builtin "dict.items") [.ref d] [] []) _ X.xe s1
  exact method_meetsIn F.slot_dict_items F.entry_dict_items rfl (PySem.evalArgs_none ⟨rfl, hT, F.args_dict_items_1 _, _, meets_dict_items_raw d hs, ⟨⟨es, ep, o, hgd, hx, hdt⟩, fin⟩⟩)
variable {te : TE} {dd : TDE}
def diVals (e : TDE) : TDI := fun en Q Qe => e en (fun d en1 => match d with
  | .dct _ es => Q es en1
  | _ => False) Qe
def diItems (e : TDE) : TDI := fun en Q Qe => e en (fun d en1 => match d with
  | .dct ds es => ds.length = es.length ∧ Q (pairsD ds es) en1
  | _ => False) Qe
theorem di_vals (h : DE X W e te dd) (hbase : attributeBase e "values" X.env (eval e X.env) = eval e X.env := by rfl) (hline : (apos.endLine == cpos.line) = true := by rfl) : DI X W tg (.Call (.Attribute e "values" apos) [] [] cpos) (iValsX (kk X) te) (diVals dd) := ⟨pi_valuesX h.pe hbase hline, fun G F H σ en R' Qd Qe R q x k =>
  h.sim G F H σ en _ _ Qe R q x fun v d F1 H1 en1 e1 R1 i1 q1 => by
    cases d with
    | dct ds es =>
      obtain ⟨a, o, u, ks, kvs, us, rfl, h1, h2, h3, h4, h5, h6⟩ := i1
      exact ⟨a, o, ks, kvs, us, rfl, ⟨u, R1.le _ _ h1⟩, h2, h3, k _ es F1 H1 en1 e1 R1 (itd_x h1 h6) q1⟩
    | _ => exact q1.elim⟩
theorem di_items {elts : List Expr} {kk' : Nat} {tpos : Pos} (h : DE X W e te dd) (hbase : attributeBase e "items" X.env (eval e X.env) = eval e X.env := by rfl) (hline : (apos.endLine == cpos.line) = true := by rfl) : DI X W (.Tuple elts kk' tpos) (.Call (.Attribute e "items" apos) [] [] cpos) (iItemsX (kk X) te) (diItems dd) := ⟨pi_itemsX h.pe hbase hline, fun G F H σ en R' Qd Qe R q x k =>
  h.sim G F H σ en _ _ Qe R q x fun v d F1 H1 en1 e1 R1 i1 q1 => by
    cases d with
    | dct ds es =>
      obtain ⟨a, o, u, ks, kvs, us, rfl, h1, h2, h3, h4, h5, h6⟩ := i1
      exact ⟨a, o, ks, kvs, us, rfl, ⟨u, R1.le _ _ h1⟩, h2, h3, k _ _ F1 H1 en1 e1 R1 (itd_p h1 q1.1 h5 h6) q1.2⟩
    | _ => exact q1.elim⟩
end
/-- lo, lo + 1, .. : n of them -/
def rangeD (lo : Int) (n : Nat) : List D := (List.range n).map fun (i : Nat) => .int (lo + (i : Int))
theorem itd_r {F : Hp} {lo : Int} {n : Nat} : ItD K F (Itr lo n) (rangeD lo n) where
  go := fun i F1 H e e' hi => by
    show i < n
    simpa [rangeD] using hi
  stop := fun F1 H e e' => by
    show n ≤ _
    simp [rangeD]
  yld := fun i G F1 H σ en x H' e R hi y => by
    obtain ⟨rfl, rfl⟩ := y
    refine ⟨F1, Same.refl _, R, .int (lo + i), ?_, rfl⟩
    have hi' : i < n := by simpa [rangeD] using hi
    unfold rangeD
    rw [List.getElem?_map, List.getElem?_range hi']
    rfl
def diRng1 (t : TDA) : TDI := fun en Q Qe => t en (fun ds en1 => match ds with
  | [.int j] => -(2 ^ 62) ≤ j ∧ j < 2 ^ 62 ∧ Q (rangeD 0 j.toNat) en1
  | _ => False) Qe
def diRng2 (t : TDA) : TDI := fun en Q Qe => t en (fun ds en1 => match ds with
  | [.int i, .int j] => (-(2 ^ 62) ≤ i ∧ i < 2 ^ 62 ∧ -(2 ^ 62) ≤ j ∧ j < 2 ^ 62) ∧ Q (rangeD i (j - i).toNat) en1
  | _ => False) Qe
theorem di_range1 {tg a : Expr} {ta : TA} {p pos : Pos} {d : TDA} (hg : Gl X "range") (hm : X.mg "range" = none) (h : DA X W [a] ta d) (hs : starEach [a] X.env = [(false, eval a X.env)] := by rfl) : DI X W tg (.Call (.Name "range" p) [a] [] pos) (iRng1 ta) (diRng1 d) :=
  ⟨pi_range1 hg hm h.pa hs, fun G F H σ en R' Qd Qe R q x k => h.sim G F H σ en _ _ Qe R q x fun vs ds F1 H1 en1 e1 R1 i1 q1 => by
    split at q1
    · obtain ⟨v, r, rfl, hv, hr⟩ := i1
      cases hv; cases hr
      exact ⟨_, rfl, q1.1, q1.2.1, k _ _ F1 H1 en1 e1 R1 itd_r q1.2.2⟩
    · exact q1.elim⟩
theorem di_range2 {tg a b : Expr} {ta : TA} {p pos : Pos} {d : TDA} (hg : Gl X "range") (hm : X.mg "range" = none) (h : DA X W [a, b] ta d) (hs : starEach [a, b] X.env = [(false, eval a X.env), (false, eval b X.env)] := by rfl) (hs2 : starEach [b] X.env = [(false, eval b X.env)] := by rfl) :
    DI X W tg (.Call (.Name "range" p) [a, b] [] pos) (iRng2 ta) (diRng2 d) :=
  ⟨pi_range2 hg hm h.pa hs hs2, fun G F H σ en R' Qd Qe R q x k => h.sim G F H σ en _ _ Qe R q x fun vs ds F1 H1 en1 e1 R1 i1 q1 => by
    split at q1
    · obtain ⟨v, r, rfl, hv, w, r', rfl, hw, hr⟩ := i1
      cases hv; cases hw; cases hr
      exact ⟨_, _, rfl, q1.1, k _ _ F1 H1 en1 e1 R1 itd_r q1.2⟩
    · exact q1.elim⟩

/-! ### for -/
def loopD (g : TDG) (body : TDS) (B : DEnds) : List D → En → Prop
  | [], en => B.nx en
  | d :: ds, en => g d en fun en1 => body { B with nx := loopD g body B ds, ct := loopD g body B ds, bk := B.nx } en1
def dFor (it : TDI) (g : TDG) (body : TDS) : TDS := fun B en => it en (fun ds en1 => loopD g body B ds en1) B.ex
theorem ds_for {tg iter : Expr} {body : List Stmt} {pos : Pos} {wi : TI} {di : TDI} {g : TG} {gd : TDG} {tb : TS} {db : TDS} (hp : PassesOwn (model X.prog X.w) X.A X.env X.xe) (hc : X.calm = true) (hi : DI X W tg iter wi di) (hg : DG X tg g gd) (hb : DSs X W body tb db)
    (hs : ∀ x, foldedSetIterable iter X.env x = pure x := by intro _; rfl) : DS X W (.For tg iter body [] pos) (tFor wi g tb) (dFor di gd db) :=
  ⟨ps_for hp hc hi.pi hg.pg hb.ps hs, fun G F H σ en D' B R q k => hi.sim G F H σ en _ _ _ R q k.ex fun J ds F1 H1 en1 e1 R1 it q1 => by
    refine ⟨fun i m σ H => m = ds.length - i ∧ i ≤ ds.length ∧ ∃ F en, Same F1 F ∧ Rel (kk X) G F H σ en ∧ loopD gd db B (ds.drop i) en, ⟨ds.length, by simp, Nat.zero_le _, F1, en1, Same.refl _, R1, q1⟩, ?_⟩
    rintro i m σ H ⟨rfl, hi, F2, en2, e2, R2, q2⟩
    by_cases hlt : i < ds.length
    · refine .inr ⟨it.go i F2 H e2 R2.le hlt, fun σ' H' => ∃ F en, Same F1 F ∧ Rel (kk X) G F H' σ' en ∧ loopD gd db B (ds.drop (i + 1)) en, fun σ' H' ⟨F3, en3, e3, R3, q3⟩ => ⟨ds.length - (i + 1), by omega, rfl, hlt, F3, en3, e3, R3, q3⟩, fun x H' y => ?_⟩
      obtain ⟨F3, e3, R3, d, hd, id⟩ := it.yld i G F2 H σ en2 x H' e2 R2 hlt y
      have hd' : ds[i] = d := by rw [List.getElem?_eq_getElem hlt] at hd; exact Option.some.inj hd
      rw [List.drop_eq_getElem_cons hlt, hd'] at q2
      refine hg.sim G F3 H' σ en2 d x _ _ R3 id q2 fun F4 H4 σ4 en4 e4 R4 q4 => ?_
      refine hb.sim { G with F0 := F1 } F4 H4 σ4 en4 _ _ (R1.fwd R4 ((e2.trans e3).trans e4)) q4 ⟨fun F5 H5 σ5 en5 R5 q5 => ⟨F5, en5, R5.f0, R1.bwd R5, q5⟩, fun v d F5 H5 σ5 en5 z R5 i5 q5 => k.rt v d F5 H5 σ5 en5 z (R1.bwd R5) i5 q5,
        fun F5 H5 σ5 en5 R5 q5 => k.nx F5 H5 σ5 en5 (R1.bwd R5) q5, fun F5 H5 σ5 en5 R5 q5 => ⟨F5, en5, R5.f0, R1.bwd R5, q5⟩, fun x F5 H5 σ5 en5 cls dd R5 => k.ex x F5 H5 σ5 en5 cls dd (R1.bwd R5), fun a d F5 H5 σ5 en5 z R5 T5 q5 => k.rtO a d F5 H5 σ5 en5 z (R1.bwd R5) ⟨T5.nf, T5.at_, T5.n0, T5.ns⟩ q5⟩
    · have e : i = ds.length := by omega
      subst e
      rw [List.drop_length] at q2
      exact .inl ⟨it.stop F2 H e2 R2.le, k.nx F2 H σ en2 R2 q2⟩⟩
end
end DL

/-! The D layer, part 5: defs, calls, instances. -/
namespace DL
open PySem L2

/-! ### promises over plain data -/
/-- what a def promises: the arguments, what is wanted of its value (and of the objects handed in, as it leaves them), of its exceptions -/
abbrev SpD := List D → (D → List D → Prop) → (Exn → List D → Prop) → Prop
/-- the objects handed in: slot, address -/
def ioOf (vs : List V) (io : List Nat) : List (Nat × Addr) := io.filterMap fun i => match (vs[i]? : Option V) with
  | some (V.ref a) => some (i, a)
  | _ => none
structure ArgsR (K : KW) (F H : Hp) (io : List Nat) (vs : List V) (ds : List D) : Prop where
  len : vs.length = ds.length
  fz : ∀ (i : Nat) d, ds[i]? = some d → i ∉ io → ∃ v, vs[i]? = some v ∧ Is K F d v
  ow : ∀ (i : Nat) d, ds[i]? = some d → i ∈ io → ∃ a, vs[i]? = some (V.ref a) ∧ F a = none ∧ OwAt K F H a d
  sep : ∀ (i j : Nat) a, i ∈ io → j ∈ io → vs[i]? = some (V.ref a) → vs[j]? = some (V.ref a) → i = j
structure Post (F H F' H' : Hp) (as : List Addr) : Prop where
  f : Same F F'
  le : Same F' H'
  keep : ∀ a o, H a = some o → a ∉ as → H' a = some o
  new : ∀ a, F a = none → H a ≠ none → F' a = none
  there : ∀ a ∈ as, H' a ≠ none
/-- what is left of the objects handed in -/
inductive OutsR (K : KW) (F H : Hp) : List Addr → List D → Prop
  | nil : OutsR K F H [] []
  | cons {a : Addr} {d : D} {as : List Addr} {ds : List D} : OwAt K F H a d → OutsR K F H as ds → OutsR K F H (a :: as) (d :: ds)
def spOf (K : KW) (io : List Nat) (sd : SpD) : Sp := fun vs H Q E => ∃ F ds Qd Qe, Same F H ∧ ArgsR K F H io vs ds ∧ sd ds Qd Qe ∧
  (∀ v r outs F' H', Post F H F' H' ((ioOf vs io).map (·.2)) → Is K F' r v → OutsR K F' H' ((ioOf vs io).map (·.2)) outs → Qd r outs → Q v H') ∧
  (∀ x outs cls d F' H', Post F H F' H' ((ioOf vs io).map (·.2)) → ExR K F' x cls d → OutsR K F' H' ((ioOf vs io).map (·.2)) outs → Qe x outs → E cls d H')

/-- the same where the value is a new object of one's own -/
def spOfF (K : KW) (io : List Nat) (sd : SpD) : Sp := fun vs H Q E => ∃ F ds Qd Qe, Same F H ∧ ArgsR K F H io vs ds ∧ sd ds Qd Qe ∧
  (∀ a r outs F' H', Post F H F' H' ((ioOf vs io).map (·.2)) → F' a = none → H a = none → OwAt K F' H' a r → OutsR K F' H' ((ioOf vs io).map (·.2)) outs → Qd r outs → Q (.ref a) H') ∧
  (∀ x outs cls d F' H', Post F H F' H' ((ioOf vs io).map (·.2)) → ExR K F' x cls d → OutsR K F' H' ((ioOf vs io).map (·.2)) outs → Qe x outs → E cls d H')
def spOfB (fr : Bool) (K : KW) (io : List Nat) (sd : SpD) : Sp := match fr with
  | true => spOfF K io sd
  | false => spOf K io sd
/-- the slots at a def's entry -/
def startE (n : Nat) (io : List Nat) (ds : List D) : En := (ds.mapIdx fun i d => some (if i ∈ io then Ent.ow true d else Ent.fz d)) ++ List.replicate (n - ds.length) none
def outAt (en : En) (i : Nat) : Option D := match en[i]? with
  | some (some (.ow true d)) => some d
  | _ => none
def outsE (io : List Nat) (en : En) : Option (List D) := match io with
  | [] => some []
  | i :: r => match outAt en i, outsE r en with
    | some d, some ds => some (d :: ds)
    | _, _ => none
/-- the ends of a def's body -/
def endsD (io : List Nat) (Qd : D → List D → Prop) (Qe : Exn → List D → Prop) (fr : Bool := false) : DEnds where
  fr := fr
  nx := fun en => fr = false ∧ ∃ outs, outsE io en = some outs ∧ Qd .non outs
  rt := fun d en => ∃ outs, outsE io en = some outs ∧ Qd d outs
  bk := fun _ => False
  ct := fun _ => False
  ex := fun x en => ∃ outs, outsE io en = some outs ∧ Qe x outs

section
variable {K : KW} {F H F' H' : Hp} {io : List Nat} {vs : List V} {ds : List D}
theorem mem_ioOf {i : Nat} {a : Addr} : (i, a) ∈ ioOf vs io ↔ i ∈ io ∧ vs[i]? = some (V.ref a) := by
  unfold ioOf
  rw [List.mem_filterMap]
  constructor
  · rintro ⟨j, hj, e⟩
    split at e
    · rename_i b hb
      cases e
      exact ⟨hj, hb⟩
    · cases e
  · rintro ⟨h1, h2⟩
    exact ⟨i, h1, by rw [h2]⟩
def gh0 (F H : Hp) (l : List (Nat × Addr)) : Gh := ⟨F, H, fun a => H a ≠ none ∧ ∀ p ∈ l, p.2 ≠ a, l⟩
theorem startE_len {n : Nat} (h : ds.length ≤ n) : (startE n io ds).length = n := by
  unfold startE
  rw [List.length_append, List.length_mapIdx, List.length_replicate]
  omega
theorem startE_get {n : Nat} {i : Nat} {e : Ent} (h : (startE n io ds)[i]? = some (some e)) : ∃ d, ds[i]? = some d ∧ e = if i ∈ io then Ent.ow true d else Ent.fz d := by
  unfold startE at h
  by_cases hl : i < ds.length
  · rw [List.getElem?_append_left (by rw [List.length_mapIdx]; exact hl), List.getElem?_mapIdx, List.getElem?_eq_getElem hl] at h
    simp only [Option.map_some, Option.some.injEq] at h
    exact ⟨_, List.getElem?_eq_getElem hl, h.symm⟩
  · rw [List.getElem?_append_right (by rw [List.length_mapIdx]; omega), List.getElem?_replicate] at h
    split at h <;> cases h
theorem start_get {N : List Str} {i : Nat} {v : V} (h : vs[i]? = some v) : (L2.start N vs)[i]? = some (some v) := by
  unfold L2.start
  have hl : i < vs.length := (List.getElem?_eq_some_iff.mp h).1
  rw [List.getElem?_append_left (by rw [List.length_map]; exact hl), List.getElem?_map, h]
  rfl
theorem start_len {N : List Str} (h : vs.length ≤ N.length) : (L2.start N vs).length = N.length := by
  unfold L2.start
  rw [List.length_append, List.length_map, List.length_replicate]
  omega
theorem start_rel {N : List Str} (e : Same F H) (A : ArgsR K F H io vs ds) (hN : ds.length ≤ N.length) (hio : ∀ i ∈ io, i < ds.length) : Rel K (gh0 F H (ioOf vs io)) F H (L2.start N vs) (startE N.length io ds) where
  le := e
  f0 := Same.refl F
  pr := fun a z => ⟨rfl, z.1, id⟩
  io := fun p hp => by
    obtain ⟨i, a⟩ := p
    obtain ⟨h1, h2⟩ := mem_ioOf.mp hp
    obtain ⟨a', k1, k2, k3⟩ := A.ow i _ (List.getElem?_eq_getElem (hio i h1)) h1
    rw [h2] at k1
    cases k1
    exact ⟨k3.there, k2⟩
  len := by rw [start_len (by rw [A.len]; exact hN), startE_len hN]
  fz := fun i d h => by
    obtain ⟨d', h1, h2⟩ := startE_get h
    split at h2
    · cases h2
    · cases h2
      obtain ⟨v, k1, k2⟩ := A.fz i d h1 (by assumption)
      exact ⟨v, start_get k1, k2⟩
  ow := fun i b d h => by
    obtain ⟨d', h1, h2⟩ := startE_get h
    split at h2
    · cases h2
      rename_i hi
      obtain ⟨a, k1, k2, k3⟩ := A.ow i d h1 hi
      have m : (i, a) ∈ ioOf vs io := mem_ioOf.mpr ⟨hi, k1⟩
      exact ⟨a, start_get k1, k2, k3, fun z => z.2 _ m rfl, (fun z => nomatch z), fun _ => m⟩
    · cases h2
  sep := fun i j b c d e a h1 h2 h3 h4 => by
    obtain ⟨d', k1, k2⟩ := startE_get h1
    obtain ⟨e', k3, k4⟩ := startE_get h2
    split at k2
    · split at k4
      · rename_i hi hj
        obtain ⟨a1, m1, _⟩ := A.ow i d' k1 hi
        obtain ⟨a2, m2, _⟩ := A.ow j e' k3 hj
        have n1 := start_get (N := N) m1
        have n2 := start_get (N := N) m2
        rw [h3] at n1
        rw [h4] at n2
        cases n1
        cases n2
        exact A.sep i j a hi hj m1 m2
      · cases k4
    · cases k2
theorem rel_post {σ : L2.St} {en : En} {l : List (Nat × Addr)} (R : Rel K (gh0 F H l) F' H' σ en) : Post F H F' H' (l.map (·.2)) where
  f := R.f0
  le := R.le
  keep := fun a o h n => by
    have := (R.pr a ⟨by rw [h]; simp, fun p hp z => n (List.mem_map.mpr ⟨p, hp, z⟩)⟩).1
    rw [this]
    exact h
  new := fun a h1 h2 => by
    by_cases m : ∃ p ∈ l, p.2 = a
    · obtain ⟨p, hp, e⟩ := m
      rw [← e]
      exact (R.io p hp).2
    · exact (R.pr a ⟨h2, fun p hp z => m ⟨p, hp, z⟩⟩).2.2 h1
  there := fun a m => by
    obtain ⟨p, hp, e⟩ := List.mem_map.mp m
    rw [← e]
    exact (R.io p hp).1
theorem out_at {σ : L2.St} {en : En} (hN : io.Nodup) (R : Rel K (gh0 F H (ioOf vs io)) F' H' σ en) {i : Nat} {d : D} (h : outAt en i = some d) : ∃ a, vs[i]? = some (V.ref a) ∧ OwAt K F' H' a d := by
  unfold outAt at h
  split at h
  · rename_i e
    cases h
    obtain ⟨a, h1, h2, h3, _, _, h4⟩ := R.ow i true d e
    exact ⟨a, (mem_ioOf.mp (h4 rfl)).2, h3⟩
  · cases h
theorem outs_rel {σ : L2.St} {en : En} (hN : io.Nodup) (R : Rel K (gh0 F H (ioOf vs io)) F' H' σ en) : ∀ {l : List Nat} {outs : List D}, outsE l en = some outs → OutsR K F' H' ((ioOf vs l).map (·.2)) outs
  | [], _, h => by cases h; exact .nil
  | i :: r, outs, h => by
    unfold outsE at h
    cases e1 : outAt en i with
    | none => rw [e1] at h; cases h
    | some d =>
      cases e2 : outsE r en with
      | none => rw [e1, e2] at h; cases h
      | some ds =>
        rw [e1, e2] at h
        cases h
        obtain ⟨a, k1, k2⟩ := out_at hN R e1
        have e : ioOf vs (i :: r) = (i, a) :: ioOf vs r := by
          unfold ioOf
          rw [List.filterMap_cons, k1]
        rw [e]
        exact .cons k2 (outs_rel hN R e2)
end

/-- a def by its promise over plain data -/
abbrev FnD (P : Program) (w : World) (K : Fg) (mg : Str → Option Value) (base : Heap) (k : Nat) (f : Addr) (io : List Nat) (sd : SpD) : Prop := FnR P w K mg base (L2.CX P w) k f (spOf ⟨K, w⟩ io sd)
abbrev wBody (E : XK) : WX := fun cls d _ H => E cls d H

section
variable {P : Program} {w : World} {K : Fg} {mg : Str → Option Value} {base : Heap}
/-- the rule for a def, its function object by name -/
theorem fnOkD_of {x qual : Str} {params : Arguments} {body : List Stmt} {scope : Scope} {f : Addr} {fd : FuncData} {N ps : List Str} {k : Nat} {io : List Nat} {sd : SpD} {td : TDS} (F : FunD K x qual params body scope [] [] f fd) (S : FnScope N ps scope)
    (hps : ps.length ≤ N.length) (hion : io.Nodup) (hio : ∀ i ∈ io, i < ps.length) (len : ∀ ds Qd Qe, sd ds Qd Qe → ds.length = ps.length)
    (walk : ∀ (cdv : Value) (A : Around) (outer : List Env) (s : Shared) (H : Hp) (E : XK), Room k (A.deeper (PyProof.Rows.envOfC qual scope s.heap.objs.size f cdv)) →
      ∃ ts, DSs (cxOf (L2.CX P w) P w K mg base N qual scope f cdv A outer s H E) (wBody E) body ts td)
    (fr : Bool := false) (rd : ∀ ds Qd Qe, sd ds Qd Qe → td (endsD io Qd Qe fr) (startE N.length io ds)) : FnOk P w K mg base (L2.CX P w) (k + 1) f fd ps (spOfB fr ⟨K, w⟩ io sd) := by
  refine F.ok S (fun vs H Q E h => ?_) (fun cdv A outer s H vs Q E hr h => ?_)
  · cases fr with
    | false =>
      obtain ⟨F', ds, Qd, Qe, _, A, h, _⟩ := h
      rw [A.len]
      exact len ds Qd Qe h
    | true =>
      obtain ⟨F', ds, Qd, Qe, _, A, h, _⟩ := h
      rw [A.len]
      exact len ds Qd Qe h
  cases fr with
  | true =>
    obtain ⟨F', ds, Qd, Qe, e, A', h, h1, h2⟩ := h
    obtain ⟨ts, wk⟩ := walk cdv A outer s H E hr
    refine ⟨ts, wk.ps, ?_⟩
    have hl := len ds Qd Qe h
    have R := start_rel (N := N) e A' (by rw [hl]; exact hps) (by rw [hl]; exact hio)
    refine wk.sim _ F' H _ _ _ _ R (rd ds Qd Qe h) ⟨fun F1 H1 σ en R1 q => (nomatch q.1), fun v d F1 H1 σ en z => (nomatch z), fun F1 H1 σ en R1 q => q.elim, fun F1 H1 σ en R1 q => q.elim, fun x F1 H1 σ en cls d R1 i q => ?_, fun a d F1 H1 σ en _ R1 T q => ?_⟩
    · obtain ⟨outs, q1, q2⟩ := q
      exact h2 x outs cls d F1 H1 (rel_post R1) i (outs_rel hion R1 q1) q2
    · obtain ⟨outs, q1, q2⟩ := q
      refine h1 a d outs F1 H1 (rel_post R1) T.nf ?_ T.at_ (outs_rel hion R1 q1) q2
      cases w : H a with
      | none => rfl
      | some o => exact absurd ⟨by rw [w]; simp, T.n0.2⟩ T.n0.1
  | false =>
    obtain ⟨F', ds, Qd, Qe, e, A', h, h1, h2⟩ := h
    obtain ⟨ts, wk⟩ := walk cdv A outer s H E hr
    refine ⟨ts, wk.ps, ?_⟩
    have hl := len ds Qd Qe h
    have R := start_rel (N := N) e A' (by rw [hl]; exact hps) (by rw [hl]; exact hio)
    refine wk.sim _ F' H _ _ _ _ R (rd ds Qd Qe h) ⟨fun F1 H1 σ en R1 q => ?_, fun v d F1 H1 σ en _ R1 i q => ?_, fun F1 H1 σ en R1 q => q.elim, fun F1 H1 σ en R1 q => q.elim, fun x F1 H1 σ en cls d R1 i q => ?_, fun a d F1 H1 σ en z => (nomatch z)⟩
    · obtain ⟨_, outs, q1, q2⟩ := q
      exact h1 _ .non outs F1 H1 (rel_post R1) rfl (outs_rel hion R1 q1) q2
    · obtain ⟨outs, q1, q2⟩ := q
      exact h1 _ d outs F1 H1 (rel_post R1) i (outs_rel hion R1 q1) q2
    · obtain ⟨outs, q1, q2⟩ := q
      exact h2 x outs cls d F1 H1 (rel_post R1) i (outs_rel hion R1 q1) q2
/-- THE RULE for a def -/
theorem fnD_of {x qual : Str} {params : Arguments} {body : List Stmt} {scope : Scope} {f : Addr} {fd : FuncData} {N ps : List Str} {k : Nat} {io : List Nat} {sd : SpD} {td : TDS} (F : FunD K x qual params body scope [] [] f fd) (S : FnScope N ps scope)
    (hb : Binds K fd ps []) (hps : ps.length ≤ N.length) (hion : io.Nodup) (hio : ∀ i ∈ io, i < ps.length) (len : ∀ ds Qd Qe, sd ds Qd Qe → ds.length = ps.length)
    (walk : ∀ (cdv : Value) (A : Around) (outer : List Env) (s : Shared) (H : Hp) (E : XK), Room k (A.deeper (PyProof.Rows.envOfC qual scope s.heap.objs.size f cdv)) →
      ∃ ts, DSs (cxOf (L2.CX P w) P w K mg base N qual scope f cdv A outer s H E) (wBody E) body ts td)
    (fr : Bool := false) (rd : ∀ ds Qd Qe, sd ds Qd Qe → td (endsD io Qd Qe fr) (startE N.length io ds)) : FnR P w K mg base (L2.CX P w) (k + 1) f (spOfB fr ⟨K, w⟩ io sd) := by
  have G : FnOk P w K mg base (L2.CX P w) (k + 1) f fd ps (spOfB fr ⟨K, w⟩ io sd) := fnOkD_of F S hps hion hio len walk fr rd
  refine FnR.imp (FnOk.raw G hb .nil) fun vs H Q E h => ?_
  rw [List.append_nil]
  exact h
end

/-! ### calls -/
section
variable {X : Cx} {W : WX} {K : KW}
theorem run_D {k : Nat} {f : Addr} {sp : Sp} {pins : List (Addr × Obj)} {σ : L2.St} {H : Hp} {s : Shared} {Q : VK} {us : List Value} {vs : List V} (F : FnR X.prog X.w X.K X.mg X.base (L2.CX X.prog X.w) k f sp) (hr : Room k X.A) (tk : Takes X W)
    (I : L2.Inv X pins σ H s) (r : Vals vs us) (h : sp vs H Q (fun c d H => W c d σ H)) : codeAny (model X.prog X.w) X.A (.call (.ref f) ⟨us, []⟩) (fun r s' => match r with | .ok (.ret v) => EP X pins σ Q v s' | .ok _ => False | .error e => X.xe e s') s := by
  refine codeAny_mono (F X.A X.stack s H us vs Q _ hr I.env0 r h) fun r s' hq => ?_
  cases r with
  | error e => exact passAt tk σ pins H s e s' I hq
  | ok fl =>
    cases fl with
    | ret u => exact I.after hq
    | next => exact False.elim hq
    | brk => exact False.elim hq
    | cont => exact False.elim hq
def tCallR (sp : Sp) (W : WX) (t : TA) : TE := fun σ H Q => t σ H fun vs H1 => sp vs H1 Q fun c d H => W c d σ H
section
variable {k : Nat} {f : Addr} {sp : Sp} {x : Str} {p pos : Pos} {e : Expr} {es : List Expr} {t : TA}
theorem pe_callR (F : FnR X.prog X.w X.K X.mg X.base (L2.CX X.prog X.w) k f sp) (hr : Room k X.A) (tk : Takes X W) (hg : Gl X x) (hm : X.mg x = some (.ref f)) (hk : PySem.W.keepIn X.K (.ref f) = true) (ha : PA X (e :: es) t) (hd : (x == ("__debug__" : Str)) = false := by decide)
    (he : starEach (e :: es) X.env = (false, eval e X.env) :: starEach es X.env := by rfl) (hpl : (backTo pos (starEach es X.env)).any (·.1) = false := by rfl) : PE X (.Call (.Name x p) (e :: es) [] pos) (tCallR sp W t) :=
  ⟨fun pins s σ H Q I h => wpAny_Call_Name_kw (ld_glob I hg hm (PySem.W.callWith_K (h₀ := X.base) I.ok.mod.kin hk (thn (ha.run pos pins s σ H _ I h) fun us s1 ⟨vs, H1, I1, r, q⟩ => ⟨I1.kIn, wpAny_call (run_D F hr tk I1 r q)⟩) he hpl) hd)⟩
theorem pe_callR0 (F : FnR X.prog X.w X.K X.mg X.base (L2.CX X.prog X.w) k f sp) (hr : Room k X.A) (tk : Takes X W) (hg : Gl X x) (hm : X.mg x = some (.ref f)) (hk : PySem.W.keepIn X.K (.ref f) = true) (hd : (x == ("__debug__" : Str)) = false := by decide) :
    PE X (.Call (.Name x p) [] [] pos) (tCallR sp W tNil) :=
  ⟨fun pins s σ H Q I h => wpAny_Call_Name_kw (ld_glob I hg hm (PySem.W.callWith_K0 I.kIn hk (wpAny_call (run_D (us := []) F hr tk I .nil h))) hd)⟩
end
def dCall (sd : SpD) (a : TDA) : TDE := fun en Q Qe => a en (fun ds en1 => sd ds (fun r _ => Q r en1) fun x _ => Qe x en1) Qe
theorem argsR_of {G : Gh} {F H : Hp} {σ : L2.St} {en : En} {ds : List D} {vs : List V} (R : Rel K G F H σ en) (i : IsL K F ds vs) : ArgsR K F H [] vs ds where
  len := i.length
  fz := fun j d h _ => i.get h
  ow := fun j d h m => absurd m (by simp)
  sep := fun i j a m => absurd m (by simp)
theorem post_rel {G : Gh} {F H F' H' : Hp} {σ : L2.St} {en : En} (R : Rel K G F H σ en) (p : Post F H F' H' []) : Rel K G F' H' σ en := by
  refine R.step (fun _ => False) p.f p.le (fun a h1 h2 => .inl ?_) (fun a o h _ => p.keep a o h (by simp)) (fun _ z => z.elim) rfl (fun i d e => .inl e) fun i b d e => ?_
  · cases q : H a with
    | none => rfl
    | some o => exact absurd (p.new a h1 (by rw [q]; simp)) h2
  · obtain ⟨a, h1, h2, h3, _⟩ := R.ow i b d e
    exact ⟨a, d, h1, e, h3.new p.f fun a o h => p.keep a o h (by simp)⟩
theorem ioOf_nil {vs : List V} : ioOf vs [] = [] := rfl
/-- the promise, from a simulated argument list -/
theorem sp_run {G : Gh} {F H : Hp} {σ : L2.St} {en : En} {ds : List D} {vs : List V} {sd : SpD} {Q : VK} {E : XK} {Qd : D → Prop} {Qe : Exn → Prop} (R : Rel K G F H σ en) (i : IsL K F ds vs) (q : sd ds (fun r _ => Qd r) fun x _ => Qe x)
    (k : ∀ v r F' H', Same F F' → Rel K G F' H' σ en → Is K F' r v → Qd r → Q v H') (kx : ∀ x cls d F' H', Rel K G F' H' σ en → ExR K F' x cls d → Qe x → E cls d H') : spOf K [] sd vs H Q E :=
  ⟨F, ds, _, _, R.le, argsR_of R i, q, fun v r outs F' H' p i' _ q' => k v r F' H' p.f (post_rel R p) i' q', fun x outs cls d F' H' p i' _ q' => kx x cls d F' H' (post_rel R p) i' q'⟩
theorem sim_call {sd : SpD} {t : TA} {d : TDA} (h : SimA K W t d) : Sim K W (tCallR (spOf K [] sd) W t) (dCall sd d) := fun G F H σ en Q Qd Qe R q x k =>
  h G F H σ en _ _ Qe R q x fun vs ds F1 H1 en1 e1 R1 i1 q1 => sp_run (Qd := fun r => Qd r en1) (Qe := fun x => Qe x en1) R1 i1 q1 (fun v r F2 H2 e2 R2 i2 q2 => k v r F2 H2 en1 (e1.trans e2) R2 i2 q2)
    fun y cls d F2 H2 R2 i2 q2 => x y F2 H2 σ en1 cls d R2 i2 q2
section
variable {k : Nat} {f : Addr} {sd : SpD} {x : Str} {p pos : Pos} {e : Expr} {es : List Expr} {t : TA} {d : TDA}
theorem de_call (F : FnD X.prog X.w X.K X.mg X.base k f [] sd) (hr : Room k X.A) (tk : Takes X W) (hg : Gl X x) (hm : X.mg x = some (.ref f)) (hk : PySem.W.keepIn X.K (.ref f) = true) (ha : DA X W (e :: es) t d) (hd : (x == ("__debug__" : Str)) = false := by decide)
    (he : starEach (e :: es) X.env = (false, eval e X.env) :: starEach es X.env := by rfl) (hpl : (backTo pos (starEach es X.env)).any (·.1) = false := by rfl) : DE X W (.Call (.Name x p) (e :: es) [] pos) (tCallR (spOf (kk X) [] sd) W t) (dCall sd d) := ⟨pe_callR F hr tk hg hm hk ha.pa hd he hpl, sim_call ha.sim⟩
theorem de_call0 (F : FnD X.prog X.w X.K X.mg X.base k f [] sd) (hr : Room k X.A) (tk : Takes X W) (hg : Gl X x) (hm : X.mg x = some (.ref f)) (hk : PySem.W.keepIn X.K (.ref f) = true) (hd : (x == ("__debug__" : Str)) = false := by decide) :
    DE X W (.Call (.Name x p) [] [] pos) (tCallR (spOf (kk X) [] sd) W tNil) (dCall sd dNil) := ⟨pe_callR0 F hr tk hg hm hk hd, sim_call (fun G F H σ en Q Qd Qe R q x k => k [] [] F H en (Same.refl F) R rfl q)⟩
end
/-! ### a call that hands on one object to be changed, as its first argument -/
/-- the slot i holds an object of one's own -/
def ownAt (en : En) (i : Nat) : Option (Bool × D) := match en[i]? with
  | some (some (.ow b d)) => some (b, d)
  | _ => none
def dCallIO (i : Nat) (sd : SpD) (a : TDA) : TDE := fun en Q Qe => (ownAt en i).isSome = true ∧ a en (fun ds en1 => match ownAt en1 i with
  | some (b, d) => sd (d :: ds) (fun r outs => match outs with
      | [d'] => Q r (en1.set i (some (.ow b d')))
      | _ => False) fun x outs => match outs with
      | [d'] => Qe x (en1.set i (some (.ow b d')))
      | _ => False
  | none => False) Qe
theorem ownAt_eq {en : En} {i : Nat} {b : Bool} {d : D} (h : ownAt en i = some (b, d)) : en[i]? = some (some (Ent.ow b d)) := by
  unfold ownAt at h
  split at h
  · cases h; assumption
  · cases h
theorem post_io {G : Gh} {F H F' H' : Hp} {σ : L2.St} {en : En} {i : Nat} {b : Bool} {d d' : D} {a : Addr} (R : Rel K G F H σ en) (h : en[i]? = some (some (Ent.ow b d))) (hs : σ[i]? = some (some (V.ref a))) (p : Post F H F' H' [a]) (o : OwAt K F' H' a d') : Rel K G F' H' σ (en.set i (some (Ent.ow b d'))) := by
  obtain ⟨a', h1, h2, h3, h4, _⟩ := R.ow i b d h
  rw [hs] at h1
  cases h1
  have hlt := get_lt h
  refine R.step (fun z => z = a) p.f p.le (fun c k1 k2 => .inl ?_) (fun c u q m => p.keep c u q (by simpa using m)) (fun c z => by subst z; exact ⟨h4, p.there c (by simp)⟩) (by simp) (fun j f q => ?_) fun j c f q => ?_
  · cases q : H c with
    | none => rfl
    | some o => exact absurd (p.new c k1 (by rw [q]; simp)) k2
  · by_cases z : j = i
    · subst z; rw [List.getElem?_set_self hlt] at q; cases q
    · rw [List.getElem?_set_ne (fun q => z q.symm)] at q; exact .inl q
  · by_cases z : j = i
    · subst z
      rw [List.getElem?_set_self hlt] at q
      cases q
      exact ⟨a, d, hs, h, o⟩
    · rw [List.getElem?_set_ne (fun q => z q.symm)] at q
      obtain ⟨a2, q1, q2, q3, _⟩ := R.ow j c f q
      have ne : a2 ≠ a := fun z2 => by
        subst z2
        exact z (R.sep j i c b f d a2 q h q1 hs)
      refine ⟨a2, f, q1, q, q3.move p.f ?_⟩
      cases w : H a2 with
      | none => exact absurd w q3.there
      | some u => exact p.keep a2 u w (by simpa using ne)
theorem sim_callIO {i : Nat} {sd : SpD} {t : TA} {d : TDA} (h : SimA K W t d) : Sim K W (tCallR (spOf K [0] sd) W (tCons (tVar i) t)) (dCallIO i sd d) := fun G F H σ en Q Qd Qe R q x k => by
  obtain ⟨q0, q⟩ := q
  obtain ⟨⟨b0, d0⟩, e0⟩ := Option.isSome_iff_exists.mp q0
  obtain ⟨a, h1, _⟩ := R.ow i b0 d0 (ownAt_eq e0)
  refine ⟨_, h1, h G F H σ en _ _ Qe R q x fun vs ds F1 H1 en1 e1 R1 i1 q1 => ?_⟩
  split at q1
  · rename_i b d1 e2
    have e2 := ownAt_eq e2
    obtain ⟨a', h1', h2, h3, _⟩ := R1.ow i b d1 e2
    rw [h1] at h1'
    cases h1'
    have io : ioOf (V.ref a :: vs) [0] = [(0, a)] := by simp [ioOf]
    refine ⟨F1, d1 :: ds, _, _, R1.le, ⟨by simp [i1.length], fun j e hj hn => ?_, fun j e hj hn => ?_, fun j l a m1 m2 _ _ => by simp at m1 m2; rw [m1, m2]⟩, q1, fun v r outs F2 H2 p i2 os q2 => ?_, fun y outs cls d F2 H2 p i2 os q2 => ?_⟩
    · cases j with
      | zero => exact absurd (by simp) hn
      | succ j => exact i1.get (by simpa using hj)
    · have : j = 0 := by simpa using hn
      subst this
      cases hj
      exact ⟨a, rfl, h2, h3⟩
    · rw [io] at p os
      cases os with
      | cons o os =>
        cases os
        exact k v r F2 H2 _ (e1.trans p.f) (post_io R1 e2 h1 p o) i2 q2
    · rw [io] at p os
      cases os with
      | cons o os =>
        cases os
        exact x y F2 H2 σ _ cls d (post_io R1 e2 h1 p o) i2 q2
  · exact q1.elim
section
variable {k : Nat} {f : Addr} {sd : SpD} {x y : Str} {p p2 pos : Pos} {es : List Expr} {t : TA} {d : TDA}
theorem de_callIO (i : Nat) (F : FnD X.prog X.w X.K X.mg X.base k f [0] sd) (hr : Room k X.A) (tk : Takes X W) (hg : Gl X x) (hm : X.mg x = some (.ref f)) (hk : PySem.W.keepIn X.K (.ref f) = true) (ha : DA X W es t d) (hd : (x == ("__debug__" : Str)) = false := by decide)
    (hN : X.N[i]? = some y := by rfl) (hv : Vis X.env.scope y := by first | exact Or.inl rfl | exact Or.inr (Or.inl rfl) | exact Or.inr (Or.inr rfl)) (hd2 : (y == ("__debug__" : Str)) = false := by decide) (hcd : (y == ("__classdict__" : Str)) = false := by decide)
    (he : starEach (.Name y p2 :: es) X.env = (false, eval (.Name y p2) X.env) :: starEach es X.env := by rfl) (hpl : (backTo pos (starEach es X.env)).any (·.1) = false := by rfl) : DE X W (.Call (.Name x p) (.Name y p2 :: es) [] pos) (tCallR (spOf (kk X) [0] sd) W (tCons (tVar i) t)) (dCallIO i sd d) :=
  ⟨pe_callR F hr tk hg hm hk (pa_cons (pe_var hN hv hd2 hcd) ha.pa he) hd he hpl, sim_callIO ha.sim⟩
end

/-! ### a call that gives a new object of one's own -/
theorem sim_callF {sd : SpD} {t : TA} {d : TDA} (h : SimA K W t d) : SimO K W (tCallR (spOfF K [] sd) W t) (dCall sd d) := fun G F H σ en Q Qd Qe R q x k =>
  h G F H σ en _ _ Qe R q x fun vs ds F1 H1 en1 e1 R1 i1 q1 => ⟨F1, ds, _, _, R1.le, argsR_of R1 i1, q1, fun a r outs F2 H2 p n2 n1 o _ q2 => k a r F2 H2 en1 (e1.trans p.f) (post_rel R1 p) ⟨n2, o, R1.free0 n1, fun i b e k1 k2 => by
      obtain ⟨a', m1, _, m3, _⟩ := R1.ow i b e k1
      rw [k2] at m1
      cases m1
      exact m3.there n1⟩ q2, fun y outs cls d F2 H2 p i2 _ q2 => x y F2 H2 σ en1 cls d (post_rel R1 p) i2 q2⟩
theorem sim_callIOF {i : Nat} {sd : SpD} {t : TA} {d : TDA} (h : SimA K W t d) : SimO K W (tCallR (spOfF K [0] sd) W (tCons (tVar i) t)) (dCallIO i sd d) := fun G F H σ en Q Qd Qe R q x k => by
  obtain ⟨q0, q⟩ := q
  obtain ⟨⟨b0, d0⟩, e0⟩ := Option.isSome_iff_exists.mp q0
  obtain ⟨a, h1, _⟩ := R.ow i b0 d0 (ownAt_eq e0)
  refine ⟨_, h1, h G F H σ en _ _ Qe R q x fun vs ds F1 H1 en1 e1 R1 i1 q1 => ?_⟩
  split at q1
  · rename_i b d1 e2
    have e2 := ownAt_eq e2
    obtain ⟨a', h1', h2, h3, _⟩ := R1.ow i b d1 e2
    rw [h1] at h1'
    cases h1'
    have io : ioOf (V.ref a :: vs) [0] = [(0, a)] := by simp [ioOf]
    refine ⟨F1, d1 :: ds, _, _, R1.le, ⟨by simp [i1.length], fun j e hj hn => ?_, fun j e hj hn => ?_, fun j l a m1 m2 _ _ => by simp at m1 m2; rw [m1, m2]⟩, q1, fun c r outs F2 H2 p n2 n1 o os q2 => ?_, fun y outs cls d F2 H2 p i2 os q2 => ?_⟩
    · cases j with
      | zero => exact absurd (by simp) hn
      | succ j => exact i1.get (by simpa using hj)
    · have : j = 0 := by simpa using hn
      subst this
      cases hj
      exact ⟨a, rfl, h2, h3⟩
    · rw [io] at p os
      cases os with
      | cons o' os =>
        cases os
        refine k c r F2 H2 _ (e1.trans p.f) (post_io R1 e2 h1 p o') ⟨n2, o, R1.free0 n1, fun j b' e k1 k2 => ?_⟩ q2
        by_cases z : j = i
        · subst z
          rw [h1] at k2
          cases k2
          exact h3.there n1
        · rw [List.getElem?_set_ne (fun q => z q.symm)] at k1
          obtain ⟨a', m1, _, m3, _⟩ := R1.ow j b' e k1
          rw [k2] at m1
          cases m1
          exact m3.there n1
    · rw [io] at p os
      cases os with
      | cons o os =>
        cases os
        exact x y F2 H2 σ _ cls d (post_io R1 e2 h1 p o) i2 q2
  · exact q1.elim
abbrev FnF (P : Program) (w : World) (K : Fg) (mg : Str → Option Value) (base : Heap) (k : Nat) (f : Addr) (io : List Nat) (sd : SpD) : Prop := FnR P w K mg base (L2.CX P w) k f (spOfF ⟨K, w⟩ io sd)
section
variable {k : Nat} {f : Addr} {sd : SpD} {x y : Str} {p p2 pos : Pos} {e : Expr} {es : List Expr} {t : TA} {d : TDA}
theorem do_call (F : FnF X.prog X.w X.K X.mg X.base k f [] sd) (hr : Room k X.A) (tk : Takes X W) (hg : Gl X x) (hm : X.mg x = some (.ref f)) (hk : PySem.W.keepIn X.K (.ref f) = true) (ha : DA X W (e :: es) t d) (hd : (x == ("__debug__" : Str)) = false := by decide)
    (he : starEach (e :: es) X.env = (false, eval e X.env) :: starEach es X.env := by rfl) (hpl : (backTo pos (starEach es X.env)).any (·.1) = false := by rfl) : DO X W (.Call (.Name x p) (e :: es) [] pos) (tCallR (spOfF (kk X) [] sd) W t) (dCall sd d) := ⟨pe_callR F hr tk hg hm hk ha.pa hd he hpl, sim_callF ha.sim⟩
theorem do_call0 (F : FnF X.prog X.w X.K X.mg X.base k f [] sd) (hr : Room k X.A) (tk : Takes X W) (hg : Gl X x) (hm : X.mg x = some (.ref f)) (hk : PySem.W.keepIn X.K (.ref f) = true) (hd : (x == ("__debug__" : Str)) = false := by decide) :
    DO X W (.Call (.Name x p) [] [] pos) (tCallR (spOfF (kk X) [] sd) W tNil) (dCall sd dNil) := ⟨pe_callR0 F hr tk hg hm hk hd, sim_callF (fun G F H σ en Q Qd Qe R q x k => k [] [] F H en (Same.refl F) R rfl q)⟩
theorem do_callIO (i : Nat) (F : FnF X.prog X.w X.K X.mg X.base k f [0] sd) (hr : Room k X.A) (tk : Takes X W) (hg : Gl X x) (hm : X.mg x = some (.ref f)) (hk : PySem.W.keepIn X.K (.ref f) = true) (ha : DA X W es t d) (hd : (x == ("__debug__" : Str)) = false := by decide)
    (hN : X.N[i]? = some y := by rfl) (hv : Vis X.env.scope y := by first | exact Or.inl rfl | exact Or.inr (Or.inl rfl) | exact Or.inr (Or.inr rfl)) (hd2 : (y == ("__debug__" : Str)) = false := by decide) (hcd : (y == ("__classdict__" : Str)) = false := by decide)
    (he : starEach (.Name y p2 :: es) X.env = (false, eval (.Name y p2) X.env) :: starEach es X.env := by rfl) (hpl : (backTo pos (starEach es X.env)).any (·.1) = false := by rfl) : DO X W (.Call (.Name x p) (.Name y p2 :: es) [] pos) (tCallR (spOfF (kk X) [0] sd) W (tCons (tVar i) t)) (dCallIO i sd d) :=
  ⟨pe_callR F hr tk hg hm hk (pa_cons (pe_var hN hv hd2 hcd) ha.pa he) hd he hpl, sim_callIOF ha.sim⟩
end

/-! ### attributes -/
def getF : List String → List D → String → Option D
  | n :: ns, d :: ds, f => if n = f then some d else getF ns ds f
  | _, _, _ => none
def putF' : List String → List D → String → D → List String × List D
  | n :: ns, d :: ds, f, x => if n = f then (n :: ns, x :: ds) else ((n :: (putF' ns ds f x).1), d :: (putF' ns ds f x).2)
  | _, _, f, x => ([f], [x])
theorem ofString_inj {a b : String} : Str.ofString a = Str.ofString b ↔ a = b := ⟨fun h => by
  rw [Str.ofString_eq_toList, Str.ofString_eq_toList] at h
  have h2 : a.toList.map Char.toNat = b.toList.map Char.toNat := by simpa using h
  have h3 : a.toList = b.toList := (List.map_inj_right fun x y e => by
    apply Char.ext
    exact UInt32.toNat_inj.mp e).mp h2
  exact String.toList_inj.mp h3, fun h => by rw [h]⟩
end
end DL

/-! The D layer, part 6: built-ins, attributes, instances, own operators. -/
namespace DL
open PySem L2

section
variable {X : Cx} {W : WX} {K : KW}
/-! ### built-ins by data -/
abbrev CD := List D → (D → Prop) → Prop
def SimC (K : KW) (r : List V → Hp → VK → Prop) (cd : CD) : Prop := ∀ G F H σ en ds vs (Q : VK) Qd, Rel K G F H σ en → IsL K F ds vs → cd ds Qd →
  (∀ z dz F' H', Same F F' → Rel K G F' H' σ en → Is K F' dz z → Qd dz → Q z H') → r vs H Q
def dBlt (cd : CD) (a : TDA) : TDE := fun en Q Qe => a en (fun ds en1 => cd ds fun z => Q z en1) Qe
theorem sim_blt {r : List V → Hp → VK → Prop} {cd : CD} {t : TA} {d : TDA} (hs : SimC K r cd) (h : SimA K W t d) : Sim K W (tCB r t) (dBlt cd d) := fun G F H σ en Q Qd Qe R q x k =>
  h G F H σ en _ _ Qe R q x fun vs ds F1 H1 en1 e1 R1 i1 q1 => hs G F1 H1 σ en1 ds vs Q _ R1 i1 q1 fun z dz F2 H2 e2 R2 i2 q2 => k z dz F2 H2 en1 (e1.trans e2) R2 i2 q2
section
variable {id T : String} {r : List V → Hp → VK → Prop} {cd : CD} {x : Str} {p pos : Pos} {e : Expr} {es : List Expr} {t : TA} {d : TDA}
theorem de_blt (hc : CallR X (.builtin id) r) (hs : SimC (kk X) r cd) (hg : Gl X x) (hm : X.mg x = none) (hv : bootBuiltins x = some (.builtin id)) (ha : DA X W (e :: es) t d) (hn : x ≠ "__name__" := by decide) (hdb : (x == ("__debug__" : Str)) = false := by decide)
    (he : starEach (e :: es) X.env = (false, eval e X.env) :: starEach es X.env := by rfl) (hpl : (backTo pos (starEach es X.env)).any (·.1) = false := by rfl) : DE X W (.Call (.Name x p) (e :: es) [] pos) (tCB r t) (dBlt cd d) := ⟨pe_callB hc hg hm hv ha.pa hn hdb he hpl, sim_blt hs ha.sim⟩
theorem de_bty (hc : CallR X (.type T) r) (hs : SimC (kk X) r cd) (hg : Gl X x) (hm : X.mg x = none) (hv : bootBuiltins x = some (.type T)) (ha : DA X W (e :: es) t d) (hn : x ≠ "__name__" := by decide) (hdb : (x == ("__debug__" : Str)) = false := by decide)
    (he : starEach (e :: es) X.env = (false, eval e X.env) :: starEach es X.env := by rfl) (hpl : (backTo pos (starEach es X.env)).any (·.1) = false := by rfl) : DE X W (.Call (.Name x p) (e :: es) [] pos) (tCB r t) (dBlt cd d) := ⟨pe_callTy hc hg hm hv ha.pa hn hdb he hpl, sim_blt hs ha.sim⟩
end
/-- len -/
def lenD1 : D → Option Nat
  | .str s => if s.length ≤ sizeLine then some s.length else none
  | .lst ds => some ds.length
  | .lck ds => some ds.length
  | .tup ds => some ds.length
  | .dct ds _ => some ds.length
  | _ => none
def lenD : CD := fun ds Q => match ds with
  | [d] => ∃ n, lenD1 d = some n ∧ Q (.int n)
  | _ => False
def LenX (K : KW) (v : V) (H : Hp) (n : Nat) : Prop := LenV K v H n ∨ ∃ a ks kvs us, v = .ref a ∧ DAt K.w H a ks kvs us ∧ n = ks.length ∧ ks.length ≤ sizeLine
abbrev rLenV (K : KW) : List V → Hp → VK → Prop := fun xs H Q => ∃ x n, xs = [x] ∧ LenX K x H n ∧ Q (.int n) H
theorem call_lenX {X : Cx} : CallR X (.builtin "len") (rLenV (kk X)) := by
  intro pins s σ H xs us Q I r h
  obtain ⟨x, n, rfl, h | ⟨a, ks, kvs, vs, rfl, hd, rfl, hz⟩, q⟩ := h
  · exact call_len pins s σ H _ us Q I r ⟨x, n, rfl, h, q⟩
  · cases r with
    | cons r rr =>
      cases rr
      cases r
      obtain ⟨es, ep, hr, en⟩ := hd.raw I
      have hl : es.size = ks.length := by
        have := (ents_len en).1
        rw [Array.length_toList] at this
        exact this
      rw [sizeLine_eq] at hz
      refine PyProof.Rows.call_len_slot (n := ks.length) hr.typeIs PySem.F.slot_dict_len (fun Q' hq => call_len_raw hd.1 hr ?_) (by omega) (by omega) ⟨.int ks.length, H, I.tok _, ⟨_, rfl⟩, q⟩
      rw [hl]
      exact hq
theorem lenV_of {F H : Hp} (e : Same F H) : ∀ {d : D} {v : V} {n : Nat}, Is K F d v → lenD1 d = some n → LenX K v H n
  | .str s, _, _, h, t => by
    cases h
    by_cases hs : s.length ≤ sizeLine
    · have t' : (if s.length ≤ sizeLine then some s.length else none) = some _ := t
      rw [if_pos hs] at t'
      cases t'
      exact .inl ⟨hs, rfl⟩
    · have t' : (if s.length ≤ sizeLine then some s.length else none) = some _ := t
      rw [if_neg hs] at t'
      cases t'
  | .lst ds, _, _, ⟨a, vs, q, s, l⟩, t => by subst q; cases t; exact .inl <| .inl ⟨vs, SqL.of (e _ _ s), l.length.symm⟩
  | .lck ds, _, _, ⟨a, vs, q, s, l⟩, t => by subst q; cases t; exact .inl <| .inl ⟨vs, SqL.same e s, l.length.symm⟩
  | .tup ds, _, _, ⟨a, vs, q, s, l⟩, t => by subst q; cases t; exact .inl <| .inr ⟨vs, SqT.same e s, l.length.symm⟩
  | .non, _, _, _, t => nomatch t
  | .bl _, _, _, _, t => nomatch t
  | .int _, _, _, _, t => nomatch t
  | .dct ds es, _, _, h, t => by
    cases t
    obtain ⟨a, ks, kvs, us, rfl, hh⟩ := dhas_fz e h
    exact .inr ⟨a, ks, kvs, us, rfl, hh.at_, (nkL_len hh.hk).symm, hh.hz⟩
  | .obj _ _ _, _, _, _, t => nomatch t
theorem sim_len : SimC K (rLenV K) lenD := by
  intro G F H σ en ds vs Q Qd R i q k
  unfold lenD at q
  split at q
  · obtain ⟨n, h1, h2⟩ := q
    obtain ⟨v, r, rfl, iv, ir⟩ := i
    cases ir
    exact ⟨v, n, rfl, lenV_of R.le iv h1, k _ _ F H (Same.refl F) R iI h2⟩
  · exact q.elim
/-- len of a name's list, not frozen -/
def dLenV (i : Nat) : TDE := fun en Q _ => match peek en i with
  | some d => ∃ n, lenD1 d = some n ∧ Q (.int n) en
  | none => False
theorem de_lenV {i : Nat} {x y : Str} {p p2 pos : Pos} (hx : x = "len") (hg : Gl X x) (hm : X.mg x = none) (hN : X.N[i]? = some y := by rfl) (hv : Vis X.env.scope y := by first | exact Or.inl rfl | exact Or.inr (Or.inl rfl) | exact Or.inr (Or.inr rfl))
    (hd2 : (y == ("__debug__" : Str)) = false := by decide) (hcd : (y == ("__classdict__" : Str)) = false := by decide) (he : starEach [.Name y p2] X.env = (false, eval (.Name y p2) X.env) :: starEach [] X.env := by rfl) :
    DE X W (.Call (.Name x p) [.Name y p2] [] pos) (tCB (rLenV (kk X)) (tCons (tVar i) tNil)) (dLenV i) :=
  ⟨by
    subst hx
    exact pe_callB call_lenX hg hm PySem.boot_len (pa_cons (pe_var hN hv hd2 hcd) pa_nil he) (by decide) (by decide) he rfl, fun G F H σ en Q Qd Qe R q x k => by
    unfold dLenV at q
    split at q
    · rename_i d e
      obtain ⟨n, h1, h2⟩ := q
      obtain ⟨v, k1, k2⟩ := peek_own R e
      refine ⟨v, k1, v, n, rfl, ?_, k _ _ F H en (Same.refl F) R iI h2⟩
      rcases k2 with k2 | ⟨a, rfl, k2⟩
      · exact lenV_of R.le k2 h1
      · cases d with
        | lst ds =>
          obtain ⟨vs, ha, la⟩ := k2
          cases h1
          exact .inl <| .inl ⟨vs, SqL.of ha, la.length.symm⟩
        | obj C ns ds => cases h1
        | dct ds es =>
          obtain ⟨ks, kvs, us, hh⟩ := dhas_ow k2
          cases h1
          exact .inr ⟨a, ks, kvs, us, rfl, hh.at_, (nkL_len hh.hk).symm, hh.hz⟩
        | _ => exact k2.elim
    · exact q.elim⟩
/-- int, bool, str of an int -/
def intD : CD := fun ds Q => match ds with
  | [.int i] => Q (.int i)
  | [.bl b] => Q (.int (if b then 1 else 0))
  | [.str s] => ∃ n, PySem.intText? s = some n ∧ s.length ≤ 640 ∧ Q (.int n)
  | _ => False
abbrev rIntV : List V → Hp → VK → Prop := fun xs H Q => ((∃ i, xs = [.int i] ∧ Q (.int i) H) ∨ ∃ k, xs = [.bl k] ∧ Q (.int (if k then 1 else 0)) H) ∨ ∃ a n, xs = [.str a] ∧ PySem.intText? a = some n ∧ a.length ≤ 640 ∧ Q (.int n) H
theorem CallR.or {f : Value} {r r' : List V → Hp → VK → Prop} (h : CallR X f r) (h' : CallR X f r') : CallR X f (fun xs H Q => r xs H Q ∨ r' xs H Q) := by
  intro pins s σ H xs us Q I rx q
  rcases q with q | q
  · exact h pins s σ H xs us Q I rx q
  · exact h' pins s σ H xs us Q I rx q
theorem call_intV : CallR X (.type "int") rIntV := call_int1.or call_int_str
theorem sim_int : SimC K rIntV intD := by
  intro G F H σ en ds vs Q Qd R i q k
  unfold intD at q
  split at q
  · obtain ⟨v, r, rfl, iv, ir⟩ := i
    cases ir; cases iv
    exact .inl (.inl ⟨_, rfl, k _ _ F H (Same.refl F) R iI q⟩)
  · obtain ⟨v, r, rfl, iv, ir⟩ := i
    cases ir; cases iv
    exact .inl (.inr ⟨_, rfl, k _ _ F H (Same.refl F) R iI q⟩)
  · obtain ⟨v, r, rfl, iv, ir⟩ := i
    cases ir; cases iv
    obtain ⟨n, h1, h2, h3⟩ := q
    exact .inr ⟨_, n, rfl, h1, h2, k _ _ F H (Same.refl F) R iI h3⟩
  · exact q.elim
def boolD : CD := fun ds Q => match ds with
  | [.int i] => Q (.bl (i != 0))
  | [.bl b] => Q (.bl b)
  | _ => False
abbrev rBoolV : List V → Hp → VK → Prop := fun xs H Q => (∃ i, xs = [.int i] ∧ Q (.bl (i != 0)) H) ∨ ∃ k, xs = [.bl k] ∧ Q (.bl k) H
theorem sim_bool : SimC K rBoolV boolD := by
  intro G F H σ en ds vs Q Qd R i q k
  unfold boolD at q
  split at q
  · obtain ⟨v, r, rfl, iv, ir⟩ := i
    cases ir; cases iv
    exact .inl ⟨_, rfl, k _ _ F H (Same.refl F) R iB q⟩
  · obtain ⟨v, r, rfl, iv, ir⟩ := i
    cases ir; cases iv
    exact .inr ⟨_, rfl, k _ _ F H (Same.refl F) R iB q⟩
  · exact q.elim

/-! ### isinstance -/
/-- a datum's type: a built-in's name, or an own class -/
def tyD : D → Value ⊕ String
  | .non => .inl (.type "NoneType")
  | .bl _ => .inl (.type "bool")
  | .int _ => .inl (.type "int")
  | .str _ => .inl (.type "str")
  | .tup _ => .inl (.type "tuple")
  | .lst _ => .inl (.type "list")
  | .lck _ => .inl (.type "list")
  | .dct _ _ => .inl (.type "dict")
  | .obj C _ _ => .inr C
def tyVal (K : Fg) : Value ⊕ String → Value
  | .inl t => t
  | .inr C => .ref (He.ga K C)
/-- what an own class must have for isinstance of its instances -/
structure IsiC (K : Fg) (C : Addr) : Prop where
  cl : Cls K C
  ha : PySem.W.findIn K (.ref C) "__class__" = some (some (.builtin "object.__class__"))
  hn : PySem.W.specialIn K (.builtin "object.__class__") "__get__" = some (some (.builtin "getset_descriptor.__get__"))
  ht : PySem.W.takesIn K (.builtin "object.__class__") = some true
  hm : PySem.W.mroIn K C (.type "object") = some true
/-- the answers b, of the class c, hold in K -/
def IsiOk (K : Fg) (c : Value) (b : D → Option Bool) : Prop := ∀ d k, b d = some k → PySem.W.kitOne K (tyVal K (tyD d)) c = some k ∧ ∀ C ns vs, d = .obj C ns vs → IsiC K (He.ga K C)
inductive TyY (K : Fg) (H : Hp) : V → Value → Prop where
  | x {v : V} {t : Value} (h : TyX K H v t) : TyY K H v t
  | fD {a : Addr} {o : Obj} {u : HO} (e : H a = some (.frz o u)) (hx : o.ExactDict) : TyY K H (.ref a) (.type "dict")
theorem kit_ofY {X : Cx} {pins : List (Addr × Obj)} {σ : L2.St} {H : Hp} {s : Shared} {x : V} {u t : Value} (I : L2.Inv X pins σ H s) (rx : RelV x u) (ty : TyY X.K H x t) : ∃ P : Heap → Prop, PySem.W.KitX X.K u t P ∧ P s.heap ∧ u ≠ .builtin "__main__.__loader__#opaque" := by
  cases ty with
  | x h => exact kit_of I rx h
  | @fD a o w e hx =>
    cases (show u = Value.ref a from rx)
    exact ⟨_, PySem.W.kitx_dict, ⟨o, (I.hok a _ e).1, hx.1⟩, fun z => nomatch z⟩
def rIsiY (K : Fg) : List V → Hp → VK → Prop := fun xs H Q => ∃ (x c : V) (t u : Value) (b : Bool), xs = [x, c] ∧ ClsV c u ∧ TyY K H x t ∧ PySem.W.kitOne K t u = some b ∧ Q (.bl b) H
theorem call_isiY {X : Cx} : CallR X (.builtin "isinstance") (rIsiY X.K) := by
  intro pins s σ H xs us Q I r h
  obtain ⟨x, c, t, u, b, rfl, k, ty, e, q⟩ := h
  obtain ⟨u1, u2, rfl, r1, r2⟩ := vals2 r
  have e2 := k.eq r2
  subst e2
  obtain ⟨P, Z, p, hx⟩ := kit_ofY I r1 ty
  exact PySem.W.kia_one Z I.kIn p e hx fun tk => ⟨.bl b, H, I.tok tk, rfl, q⟩
theorem tyx_of {F H : Hp} (e : Same F H) {d : D} {v : V} (h : Is K F d v) (hC : ∀ C ns vs, d = .obj C ns vs → IsiC K (He.ga K C)) : TyY K H v (tyVal K (tyD d)) := by
  cases d with
  | non => cases h; exact .x <| .base .non
  | bl b => cases h; exact .x <| .base (.bl b)
  | int b => cases h; exact .x <| .base (.int b)
  | str b => cases h; exact .x <| .base (.str b)
  | tup ds =>
    obtain ⟨a, vs, rfl, s, _⟩ := h
    rcases s with (s | ⟨o, s⟩) | ⟨o, its, n, h1, h2, _⟩
    · exact .x <| .base (.tup (e _ _ s))
    · exact .x <| .fTuple (e _ _ s)
    · exact .x <| .kTuple h1 h2
  | lst ds =>
    obtain ⟨a, vs, rfl, s, _⟩ := h
    exact .x <| .base (.lst (e _ _ s))
  | lck ds =>
    obtain ⟨a, vs, rfl, s, _⟩ := h
    rcases s with (s | ⟨o, s⟩) | ⟨o, its, n, h1, h2, _⟩
    · exact .x <| .base (.lst (e _ _ s))
    · exact .x <| .base (.frz (e _ _ s))
    · exact .x <| .kList h1 h2
  | dct _ _ =>
    obtain ⟨a, o, u, ks, kvs, us, rfl, s, _, ⟨hx, _⟩, _⟩ := h
    exact .fD (e _ _ s) hx
  | obj C ns ds =>
    obtain ⟨a, dx, vs, rfl, s, _⟩ := h
    have c := hC C ns ds rfl
    exact .x <| .base (.ins (e _ _ s) c.cl c.ha c.hn c.ht c.hm)
def dIsi (b : D → Option Bool) (a : TDE) : TDE := fun en Q Qe => a en (fun d en1 => match b d with
  | some k => Q (.bl k) en1
  | none => False) Qe
theorem sim_isi {cv : V} {c : Value} {b : D → Option Bool} {te : TE} {td : TDE} (hc : ClsV cv c) (ok : IsiOk K c b) (h : Sim K W te td) : Sim K W (tCB (rIsiY K) (tCons te (tCons (tC cv) tNil))) (dIsi b td) := fun G F H σ en Q Qd Qe R q x k =>
  h G F H σ en _ _ Qe R q x fun v d F1 H1 en1 e1 R1 i1 q1 => by
    split at q1
    · rename_i kk hk
      obtain ⟨h1, h2⟩ := ok d kk hk
      exact ⟨v, cv, _, c, kk, rfl, hc, tyx_of R1.le i1 h2, h1, k _ _ F1 H1 en1 e1 R1 iB q1⟩
    · exact q1.elim
theorem de_isiT {T : String} {x y : Str} {p p2 pos : Pos} {e : Expr} {b : D → Option Bool} {te : TE} {td : TDE} (hx : x = "isinstance") (ok : IsiOk X.K (.type T) b) (hg : Gl X x) (hm : X.mg x = none) (hgy : Gl X y) (hmy : X.mg y = none) (hv : bootBuiltins y = some (.type T)) (h : DE X W e te td) (hn : y ≠ "__name__" := by decide)
    (hd : (y == ("__debug__" : Str)) = false := by decide) (hs : starEach [e, .Name y p2] X.env = (false, eval e X.env) :: starEach [.Name y p2] X.env := by rfl) (hs2 : starEach [.Name y p2] X.env = (false, eval (.Name y p2) X.env) :: starEach [] X.env := by rfl) (hpl : (backTo pos (starEach [.Name y p2] X.env)).any (·.1) = false := by rfl) :
    DE X W (.Call (.Name x p) [e, .Name y p2] [] pos) (tCB (rIsiY X.K) (tCons te (tCons (tC (.ty T)) tNil))) (dIsi b td) := ⟨by
      subst hx
      exact pe_callB call_isiY hg hm PyProof.Rows.boot_isinstance (pa_cons h.pe (pa_cons (pe_bltn hgy hmy hv (show RelV (.ty T) _ from rfl) hn hd) pa_nil hs2) hs) (by decide) (by decide) hs hpl, sim_isi (.ty T) ok h.sim⟩
theorem pe_cls {C : Addr} {y : Str} {p : Pos} (hg : Gl X y) (hm : X.mg y = some (.ref C)) (hd : (y == ("__debug__" : Str)) = false := by decide) : PE X (.Name y p) (tC (.ref C)) := ⟨fun _ _ _ H _ I h => ld_glob I hg hm ⟨.ref C, H, I, rfl, h⟩ hd⟩
theorem de_isiC {C : Addr} {x y : Str} {p p2 pos : Pos} {e : Expr} {b : D → Option Bool} {te : TE} {td : TDE} (hx : x = "isinstance") (ok : IsiOk X.K (.ref C) b) (hg : Gl X x) (hm : X.mg x = none) (hgy : Gl X y) (hmy : X.mg y = some (.ref C)) (h : DE X W e te td)
    (hd : (y == ("__debug__" : Str)) = false := by decide) (hs : starEach [e, .Name y p2] X.env = (false, eval e X.env) :: starEach [.Name y p2] X.env := by rfl) (hs2 : starEach [.Name y p2] X.env = (false, eval (.Name y p2) X.env) :: starEach [] X.env := by rfl) (hpl : (backTo pos (starEach [.Name y p2] X.env)).any (·.1) = false := by rfl) :
    DE X W (.Call (.Name x p) [e, .Name y p2] [] pos) (tCB (rIsiY X.K) (tCons te (tCons (tC (.ref C)) tNil))) (dIsi b td) := ⟨by
      subst hx
      exact pe_callB call_isiY hg hm PyProof.Rows.boot_isinstance (pa_cons h.pe (pa_cons (pe_cls hgy hmy hd) pa_nil hs2) hs) (by decide) (by decide) hs hpl, sim_isi (.own C) ok h.sim⟩

/-! ### attributes -/
theorem lookup_fields {F : Hp} {f : String} : ∀ {ns : List String} {ds : List D} {vs : List V} {d : D}, IsL K F ds vs → getF ns ds f = some d → ∃ v, (fieldsV ns vs).lookup (Str.ofString f) = some v ∧ Is K F d v
  | [], _, _, _, _, h => by unfold getF at h; cases h
  | n :: ns, [], _, _, _, h => by unfold getF at h; cases h
  | n :: ns, e :: ds, _, d, ⟨v, r, q, i, l⟩, h => by
    subst q
    unfold getF at h
    by_cases hn : n = f
    · rw [if_pos hn] at h
      cases h
      subst hn
      exact ⟨v, by simp [fieldsV, List.lookup], i⟩
    · rw [if_neg hn] at h
      obtain ⟨w, h1, h2⟩ := lookup_fields l h
      refine ⟨w, ?_, h2⟩
      have hne : (Str.ofString f == Str.ofString n) = false := beq_eq_false_iff_ne.mpr fun z => hn (ofString_inj.mp z).symm
      show List.lookup (Str.ofString f) ((Str.ofString n, v) :: fieldsV ns r) = some w
      rw [List.lookup, hne]
      exact h1
/-- an attribute of the instance; cs: the classes whose instances it may be -/
def dFld (cs : List String) (f : String) (e : TDE) : TDE := fun en Q Qe => e en (fun d en1 => match d with
  | .obj C ns vs => C ∈ cs ∧ ∃ x, getF ns vs f = some x ∧ Q x en1
  | _ => False) Qe
def FldOk (K : Fg) (cs : List String) (f : String) : Prop := ∀ C ∈ cs, Cls K (He.ga K C) ∧ NoAttr K (He.ga K C) f
theorem de_fld {cs : List String} {f : String} {e : Expr} {pos : Pos} {te : TE} {td : TDE} (ok : FldOk X.K cs f) (h : DE X W e te td) (hb : attributeBase e f X.env (eval e X.env) = eval e X.env := by rfl) : DE X W (.Attribute e f pos) (tFld X.K te f) (dFld cs f td) :=
  ⟨pe_fld h.pe hb, fun G F H σ en Q Qd Qe R q x k => h.sim G F H σ en _ _ Qe R q x fun v d F1 H1 en1 e1 R1 i1 q1 => by
    cases d with
    | obj C ns ds =>
      obtain ⟨a, dx, vs, rfl, s, n, l⟩ := i1
      obtain ⟨hC, z, h1, h2⟩ := q1
      obtain ⟨w, h3, h4⟩ := lookup_fields l h1
      exact ⟨a, _, dx, _, w, rfl, R1.le _ _ s, (ok C hC).1, (ok C hC).2, h3, k _ _ F1 H1 en1 e1 R1 h4 h2⟩
    | _ => exact q1.elim⟩
/-- x.f of a name's own instance, not frozen -/
def dFldV (i : Nat) (cs : List String) (f : String) : TDE := fun en Q _ => match peek en i with
  | some (.obj C ns vs) => C ∈ cs ∧ ∃ x, getF ns vs f = some x ∧ Q x en
  | _ => False
theorem de_fldV {i : Nat} {cs : List String} {f : String} {y : Str} {p pos : Pos} (ok : FldOk X.K cs f) (hN : X.N[i]? = some y := by rfl) (hv : Vis X.env.scope y := by first | exact Or.inl rfl | exact Or.inr (Or.inl rfl) | exact Or.inr (Or.inr rfl)) (hd2 : (y == ("__debug__" : Str)) = false := by decide)
    (hcd : (y == ("__classdict__" : Str)) = false := by decide) (hb : attributeBase (.Name y p) f X.env (eval (.Name y p) X.env) = eval (.Name y p) X.env := by rfl) : DE X W (.Attribute (.Name y p) f pos) (tFld X.K (tVar i) f) (dFldV i cs f) :=
  ⟨pe_fld (pe_var hN hv hd2 hcd) hb, fun G F H σ en Q Qd Qe R q x k => by
    unfold dFldV at q
    split at q
    · rename_i C ns ds e
      obtain ⟨v, k1, k2⟩ := peek_own R e
      obtain ⟨hC, z, h1, h2⟩ := q
      refine ⟨v, k1, ?_⟩
      rcases k2 with ⟨a, dx, vs, rfl, s, n, l⟩ | ⟨a, rfl, dx, vs, s, n, l⟩
      · obtain ⟨w, h3, h4⟩ := lookup_fields l h1
        exact ⟨a, _, dx, _, w, rfl, R.le _ _ s, (ok C hC).1, (ok C hC).2, h3, k _ _ F H en (Same.refl F) R h4 h2⟩
      · obtain ⟨w, h3, h4⟩ := lookup_fields l h1
        exact ⟨a, _, dx, _, w, rfl, s, (ok C hC).1, (ok C hC).2, h3, k _ _ F H en (Same.refl F) R h4 h2⟩
    · exact q.elim⟩
theorem putF_fields {f : String} {v : V} : ∀ {ns : List String} {ds : List D} {vs : List V} {F : Hp} {d : D}, ns.length = ds.length → IsL K F ds vs → Is K F d v →
    ∃ ws, putF (Str.ofString f) v (fieldsV ns vs) = fieldsV (putF' ns ds f d).1 ws ∧ IsL K F (putF' ns ds f d).2 ws ∧ (putF' ns ds f d).1.length = (putF' ns ds f d).2.length
  | [], [], _, F, d, _, l, i => by
    cases l
    exact ⟨[v], rfl, IsL.single i, rfl⟩
  | n :: ns, e :: ds, _, F, d, hl, ⟨u, r, q, j, l⟩, i => by
    subst q
    unfold putF'
    by_cases hn : n = f
    · rw [if_pos hn]
      subst hn
      refine ⟨v :: r, ?_, ⟨v, r, rfl, i, l⟩, hl⟩
      show (if Str.ofString n = Str.ofString n then (Str.ofString n, v) :: fieldsV ns r else _) = _
      rw [if_pos rfl]
      rfl
    · rw [if_neg hn]
      obtain ⟨ws, h1, h2, h3⟩ := putF_fields (f := f) (v := v) (ns := ns) (by simpa using hl) l i
      refine ⟨u :: ws, ?_, ⟨u, ws, rfl, j, h2⟩, by simpa using h3⟩
      have hne : ¬ Str.ofString n = Str.ofString f := fun z => hn (ofString_inj.mp z)
      show (if Str.ofString n = Str.ofString f then (Str.ofString n, v) :: fieldsV ns r else (Str.ofString n, u) :: putF (Str.ofString f) v (fieldsV ns r)) = _
      rw [if_neg hne, h1]
      rfl
  | [], _ :: _, _, _, _, h, _, _ => by simp at h
  | _ :: _, [], _, _, _, h, _, _ => by simp at h
/-- x.f = e, x a name that holds one's own instance -/
def dFldS (i : Nat) (cs : List String) (f : String) (e : TDE) : TDS := fun B en => e en (fun d en1 => match ownAt en1 i with
  | some (b, .obj C ns vs) => C ∈ cs ∧ ns.length < 1000 ∧ B.nx (en1.set i (some (.ow b (.obj C (putF' ns vs f d).1 (putF' ns vs f d).2))))
  | _ => False) B.ex
theorem ds_fld {i : Nat} {cs : List String} {f : String} {y : Str} {p pos pos' : Pos} {e : Expr} {te : TE} {td : TDE} (ok : FldOk X.K cs f) (h : DE X W e te td) (hN : X.N[i]? = some y := by rfl) (hv : Vis X.env.scope y := by first | exact Or.inl rfl | exact Or.inr (Or.inl rfl) | exact Or.inr (Or.inr rfl))
    (hd2 : (y == ("__debug__" : Str)) = false := by decide) (hcd : (y == ("__classdict__" : Str)) = false := by decide) (hs : swapsWith e (some (.Attribute (.Name y p) f pos')) pos.line X.env = pure false := by rfl) : DS X W (.Assign [.Attribute (.Name y p) f pos'] e pos) (sFld X.K (tVar i) te f) (dFldS i cs f td) :=
  ⟨ps_fld (pe_var hN hv hd2 hcd) h.pe hs, fun G F H σ en D' B R q k => h.sim G F H σ en _ _ _ R q k.ex fun v d F1 H1 en1 e1 R1 i1 q1 => by
    split at q1
    · rename_i b C ns ds eo
      have eo := ownAt_eq eo
      obtain ⟨a, h1, h2, ⟨dx, vs, s, n, l⟩, _⟩ := R1.ow i b _ eo
      obtain ⟨hC, hl, q1⟩ := q1
      obtain ⟨ws, e1, e2, e3⟩ := putF_fields (f := f) n l i1
      refine ⟨_, h1, a, _, dx, _, rfl, s, (ok C hC).1, (ok C hC).2, ?_, ?_⟩
      · unfold fieldsV
        rw [List.length_zip, List.length_map]
        exact Nat.lt_of_le_of_lt (Nat.min_le_left _ _) hl
      · refine k.nx F1 _ σ _ (R1.write (e := .obj C (putF' ns ds f d).1 (putF' ns ds f d).2) eo h1 ⟨dx, ws, ?_, e3, e2⟩) q1
        rw [upd_same]
        exact congrArg (fun z => some (HO.ins _ dx z)) e1
    · exact q1.elim⟩

/-! ### methods, properties, static methods, making -/
theorem none_fields {f : String} : ∀ {ns : List String} {vs : List V}, f ∉ ns → (fieldsV ns vs).lookup (Str.ofString f) = none
  | [], _, _ => rfl
  | n :: ns, [], _ => rfl
  | n :: ns, v :: vs, h => by
    have hne : (Str.ofString f == Str.ofString n) = false := beq_eq_false_iff_ne.mpr fun z => h (by rw [ofString_inj.mp z]; simp)
    show List.lookup (Str.ofString f) ((Str.ofString n, v) :: fieldsV ns vs) = none
    rw [List.lookup, hne]
    exact none_fields fun z => h (List.mem_cons_of_mem _ z)
/-- o.m(e, ..), o a frozen instance of the class C -/
def dMeth (C m : String) (sd : SpD) (o : TDE) (a : TDA) : TDE := fun en Q Qe => o en (fun d en1 => match d with
  | .obj C' ns vs => C' = C ∧ m ∉ ns ∧ a en1 (fun ds en2 => sd (.obj C' ns vs :: ds) (fun r _ => Q r en2) fun x _ => Qe x en2) Qe
  | _ => False) Qe
def tMethR (C : Addr) (m : Str) (sp : Sp) (W : WX) (ta : TE) (t : TA) : TE := fun σ H Q => ta σ H fun x H1 => ∃ a dx fs, x = .ref a ∧ H1 a = some (.ins C dx fs) ∧ fs.lookup m = none ∧ t σ H1 fun vs H2 => sp (x :: vs) H2 Q fun c d H => W c d σ H
section
variable {k : Nat} {f C : Addr} {sp : Sp} {m : Str} {apos pos : Pos} {o e : Expr} {es : List Expr} {ta : TE} {t : TA}
theorem pe_methR {pl : Sem Bool} (he : PE X o ta) (c : Cls X.K C) (hm : Meth X.K C m f) (F : FnR X.prog X.w X.K X.mg X.base (L2.CX X.prog X.w) k f sp) (hr : Room k X.A) (tk : Takes X W) (ha : PA X (e :: es) t)
    (hst : starEach (e :: es) X.env = (false, eval e X.env) :: starEach es X.env := by rfl) (hpl : (backTo pos (starEach es X.env)).any (·.1) = false := by rfl)
    (ht : eval (.Call (.Attribute o m apos) (e :: es) [] pos) X.env = (do let ov ← eval o X.env; standAt apos.atName; let (f, first) ← holding [ov] (getMethod ov m pl); callWith pos f first (backTo pos (starEach (e :: es) X.env)) (backToKw pos (keywordEach [] X.env))) := by rfl) :
    PE X (.Call (.Attribute o m apos) (e :: es) [] pos) (tMethR C m sp W ta t) :=
  ⟨fun pins s σ H Q I h => PySem.W.methodCall_KW (pl := pl) (thn (he.run pins s σ H _ I h) fun u s1 ⟨x, H1, I1, rx, a, dx, fs, ex, ea, l, q⟩ => by
    subst ex
    obtain rfl : u = Value.ref a := rx
    exact getmeth_ok I1 ea c hm l (PySem.W.callWith_K (first := [.ref a]) (h₀ := X.base) I1.ok.mod.kin hm.kp (thn (ha.run pos pins s1 σ H1 _ I1 q) fun us s2 ⟨vs, H2, I2, r, q2⟩ => ⟨I2.kIn, wpAny_call (run_D (us := .ref a :: us) (vs := .ref a :: vs) F hr tk I2 (.cons rfl r) q2)⟩) hst hpl)) ht⟩
theorem pe_methR0 {pl : Sem Bool} (he : PE X o ta) (c : Cls X.K C) (hm : Meth X.K C m f) (F : FnR X.prog X.w X.K X.mg X.base (L2.CX X.prog X.w) k f sp) (hr : Room k X.A) (tk : Takes X W)
    (ht : eval (.Call (.Attribute o m apos) [] [] pos) X.env = (do let ov ← eval o X.env; standAt apos.atName; let (f, first) ← holding [ov] (getMethod ov m pl); callWith pos f first (backTo pos (starEach [] X.env)) (backToKw pos (keywordEach [] X.env))) := by rfl) :
    PE X (.Call (.Attribute o m apos) [] [] pos) (tMethR C m sp W ta tNil) :=
  ⟨fun pins s σ H Q I h => PySem.W.methodCall_KW (pl := pl) (thn (he.run pins s σ H _ I h) fun u s1 ⟨x, H1, I1, rx, a, dx, fs, ex, ea, l, q⟩ => by
    subst ex
    obtain rfl : u = Value.ref a := rx
    exact getmeth_ok I1 ea c hm l (PySem.W.callWith_K0 (first := [.ref a]) I1.kIn hm.kp (wpAny_call (run_D (us := [.ref a]) (vs := [.ref a]) F hr tk I1 (.cons rfl .nil) q)))) ht⟩
end
theorem sim_meth {C m : String} {sd : SpD} {te : TE} {td : TDE} {t : TA} {d : TDA} (h : Sim K W te td) (ha : SimA K W t d) : Sim K W (tMethR (He.ga K C) m (spOf K [] sd) W te t) (dMeth C m sd td d) := fun G F H σ en Q Qd Qe R q x k =>
  h G F H σ en _ _ Qe R q x fun v d F1 H1 en1 e1 R1 i1 q1 => by
    cases d with
    | obj C' ns ds =>
      obtain ⟨rfl, hm, q1⟩ := q1
      obtain ⟨a, dx, vs, rfl, s, n, l⟩ := id i1
      refine ⟨a, dx, _, rfl, R1.le _ _ s, none_fields hm, ha G F1 H1 σ en1 _ _ Qe R1 q1 x fun ws es F2 H2 en2 e2 R2 i2 q2 => ?_⟩
      exact sp_run (ds := .obj C' ns ds :: es) (vs := .ref a :: ws) (Qd := fun r => Qd r en2) (Qe := fun x => Qe x en2) R2 ⟨_, _, rfl, Is.mono e2 _ _ i1, i2⟩ q2 (fun v r F3 H3 e3 R3 i3 q3 => k v r F3 H3 en2 ((e1.trans e2).trans e3) R3 i3 q3)
        fun y cls d F3 H3 R3 i3 q3 => x y F3 H3 σ en2 cls d R3 i3 q3
    | _ => exact q1.elim
section
variable {k : Nat} {f : Addr} {C m : String} {sd : SpD} {apos pos : Pos} {o e : Expr} {es : List Expr} {te : TE} {td : TDE} {t : TA} {d : TDA}
theorem de_meth {pl : Sem Bool} (he : DE X W o te td) (c : Cls X.K (He.ga X.K C)) (hm : Meth X.K (He.ga X.K C) m f) (F : FnD X.prog X.w X.K X.mg X.base k f [] sd) (hr : Room k X.A) (tk : Takes X W) (ha : DA X W (e :: es) t d)
    (hst : starEach (e :: es) X.env = (false, eval e X.env) :: starEach es X.env := by rfl) (hpl : (backTo pos (starEach es X.env)).any (·.1) = false := by rfl)
    (ht : eval (.Call (.Attribute o m apos) (e :: es) [] pos) X.env = (do let ov ← eval o X.env; standAt apos.atName; let (f, first) ← holding [ov] (getMethod ov m pl); callWith pos f first (backTo pos (starEach (e :: es) X.env)) (backToKw pos (keywordEach [] X.env))) := by rfl) :
    DE X W (.Call (.Attribute o m apos) (e :: es) [] pos) (tMethR (He.ga X.K C) m (spOf (kk X) [] sd) W te t) (dMeth C m sd td d) := ⟨pe_methR he.pe c hm F hr tk ha.pa hst hpl ht, sim_meth he.sim ha.sim⟩
theorem de_meth0 {pl : Sem Bool} (he : DE X W o te td) (c : Cls X.K (He.ga X.K C)) (hm : Meth X.K (He.ga X.K C) m f) (F : FnD X.prog X.w X.K X.mg X.base k f [] sd) (hr : Room k X.A) (tk : Takes X W)
    (ht : eval (.Call (.Attribute o m apos) [] [] pos) X.env = (do let ov ← eval o X.env; standAt apos.atName; let (f, first) ← holding [ov] (getMethod ov m pl); callWith pos f first (backTo pos (starEach [] X.env)) (backToKw pos (keywordEach [] X.env))) := by rfl) :
    DE X W (.Call (.Attribute o m apos) [] [] pos) (tMethR (He.ga X.K C) m (spOf (kk X) [] sd) W te tNil) (dMeth C m sd td dNil) := ⟨pe_methR0 he.pe c hm F hr tk ht, sim_meth he.sim fun G F H σ en Q Qd Qe R q x k => k [] [] F H en (Same.refl F) R rfl q⟩
end

/-! ### static methods -/
/-- C.m is a static method: its record at p, its def at g -/
structure Stat (K : Fg) (C : Addr) (mc : Value) (m : Str) (p g : Addr) : Prop where
  cr : ClX.CRead K C mc
  at_ : PySem.W.findCls K (.ref C) mc m = some (.get (.builtin "staticmethod.__get__") (.ref p) .none (.ref C))
  rc : ∃ rest, PySem.W.recIn K p "staticmethod" = some (.ref g :: rest)
  kp : PySem.W.keepIn K (.ref g) = true
section
variable {k : Nat} {g C p0 : Addr} {mc : Value} {sp : Sp} {m y : Str} {p apos pos : Pos} {e : Expr} {es : List Expr} {t : TA}
theorem getstat_ok {pins : List (Addr × Obj)} {σ : L2.St} {H : Hp} {s : Shared} {A : Around} {E : Value → Shared → Prop} {pl : Sem Bool} {Q : Value × List Value → Shared → Prop} (I : L2.Inv X pins σ H s) (c : Stat X.K C mc m p0 g) (h : ∀ s', L2.Inv X pins σ H s' → Q (.ref g, []) s') :
    wpAny (model X.prog X.w) A (getMethod (.ref C) m pl) Q E s := by
  obtain ⟨rest, hp⟩ := c.rc
  refine PySem.W.method_cls I.kIn c.cr.ga (PySem.W.cls_bind I.kIn c.cr.rd c.at_ (wpAny_call (PySem.W.sm_get (s := { s with toks := s.toks + 1 }) I.kIn hp (PySem.W.handed_on rfl ?_))))
  exact h _ (I.tok _)
theorem pe_statR {pl : Sem Bool} (hg : Gl X y) (hy : X.mg y = some (.ref C)) (c : Stat X.K C mc m p0 g) (F : FnR X.prog X.w X.K X.mg X.base (L2.CX X.prog X.w) k g sp) (hr : Room k X.A) (tk : Takes X W) (ha : PA X (e :: es) t) (hd : (y == ("__debug__" : Str)) = false := by decide)
    (hst : starEach (e :: es) X.env = (false, eval e X.env) :: starEach es X.env := by rfl) (hpl : (backTo pos (starEach es X.env)).any (·.1) = false := by rfl)
    (ht : eval (.Call (.Attribute (.Name y p) m apos) (e :: es) [] pos) X.env = (do let ov ← eval (.Name y p) X.env; standAt apos.atName; let (f, first) ← holding [ov] (getMethod ov m pl); callWith pos f first (backTo pos (starEach (e :: es) X.env)) (backToKw pos (keywordEach [] X.env))) := by rfl) :
    PE X (.Call (.Attribute (.Name y p) m apos) (e :: es) [] pos) (tCallR sp W t) :=
  ⟨fun pins s σ H Q I h => PySem.W.methodCall_KW (pl := pl) (thn ((pe_cls hg hy hd).run pins s σ H (fun x H1 => x = V.ref C ∧ t σ H1 fun vs H2 => sp vs H2 Q fun c d H => W c d σ H) I ⟨rfl, h⟩) fun u s1 ⟨x, H1, I1, rx, ex, q⟩ => by
    subst ex
    obtain rfl : u = Value.ref C := rx
    exact getstat_ok I1 c fun s2 I2 => PySem.W.callWith_K (first := []) (h₀ := X.base) I2.ok.mod.kin c.kp (thn (ha.run pos pins s2 σ H1 _ I2 q) fun us s3 ⟨vs, H2, I3, r, q2⟩ => ⟨I3.kIn, wpAny_call (run_D (us := us) F hr tk I3 r q2)⟩) hst hpl) ht⟩
theorem pe_statR0 {pl : Sem Bool} (hg : Gl X y) (hy : X.mg y = some (.ref C)) (c : Stat X.K C mc m p0 g) (F : FnR X.prog X.w X.K X.mg X.base (L2.CX X.prog X.w) k g sp) (hr : Room k X.A) (tk : Takes X W) (hd : (y == ("__debug__" : Str)) = false := by decide)
    (ht : eval (.Call (.Attribute (.Name y p) m apos) [] [] pos) X.env = (do let ov ← eval (.Name y p) X.env; standAt apos.atName; let (f, first) ← holding [ov] (getMethod ov m pl); callWith pos f first (backTo pos (starEach [] X.env)) (backToKw pos (keywordEach [] X.env))) := by rfl) :
    PE X (.Call (.Attribute (.Name y p) m apos) [] [] pos) (tCallR sp W tNil) :=
  ⟨fun pins s σ H Q I h => PySem.W.methodCall_KW (pl := pl) (thn ((pe_cls hg hy hd).run pins s σ H (fun x H1 => x = V.ref C ∧ sp [] H1 Q fun c d H => W c d σ H) I ⟨rfl, h⟩) fun u s1 ⟨x, H1, I1, rx, ex, q⟩ => by
    subst ex
    obtain rfl : u = Value.ref C := rx
    exact getstat_ok I1 c fun s2 I2 => PySem.W.callWith_K0 (first := []) I2.kIn c.kp (wpAny_call (run_D (us := []) F hr tk I2 .nil q))) ht⟩
theorem de_stat {sd : SpD} {d : TDA} {pl : Sem Bool} (hg : Gl X y) (hy : X.mg y = some (.ref C)) (c : Stat X.K C mc m p0 g) (F : FnD X.prog X.w X.K X.mg X.base k g [] sd) (hr : Room k X.A) (tk : Takes X W) (ha : DA X W (e :: es) t d) (hd : (y == ("__debug__" : Str)) = false := by decide)
    (hst : starEach (e :: es) X.env = (false, eval e X.env) :: starEach es X.env := by rfl) (hpl : (backTo pos (starEach es X.env)).any (·.1) = false := by rfl)
    (ht : eval (.Call (.Attribute (.Name y p) m apos) (e :: es) [] pos) X.env = (do let ov ← eval (.Name y p) X.env; standAt apos.atName; let (f, first) ← holding [ov] (getMethod ov m pl); callWith pos f first (backTo pos (starEach (e :: es) X.env)) (backToKw pos (keywordEach [] X.env))) := by rfl) :
    DE X W (.Call (.Attribute (.Name y p) m apos) (e :: es) [] pos) (tCallR (spOf (kk X) [] sd) W t) (dCall sd d) := ⟨pe_statR hg hy c F hr tk ha.pa hd hst hpl ht, sim_call ha.sim⟩
theorem de_stat0 {sd : SpD} {pl : Sem Bool} (hg : Gl X y) (hy : X.mg y = some (.ref C)) (c : Stat X.K C mc m p0 g) (F : FnD X.prog X.w X.K X.mg X.base k g [] sd) (hr : Room k X.A) (tk : Takes X W) (hd : (y == ("__debug__" : Str)) = false := by decide)
    (ht : eval (.Call (.Attribute (.Name y p) m apos) [] [] pos) X.env = (do let ov ← eval (.Name y p) X.env; standAt apos.atName; let (f, first) ← holding [ov] (getMethod ov m pl); callWith pos f first (backTo pos (starEach [] X.env)) (backToKw pos (keywordEach [] X.env))) := by rfl) :
    DE X W (.Call (.Attribute (.Name y p) m apos) [] [] pos) (tCallR (spOf (kk X) [] sd) W tNil) (dCall sd dNil) := ⟨pe_statR0 hg hy c F hr tk hd ht, sim_call fun G F H σ en Q Qd Qe R q x k => k [] [] F H en (Same.refl F) R rfl q⟩
end

/-! ### a new instance -/
def tMakeW (C : Addr) (sp : Sp) (W : WX) (t : TA) : TE := fun σ H Q => t σ H fun vs H1 => ∀ x dx, H1 x = Option.none → H1 dx = Option.none → dx ≠ x →
  sp (V.ref x :: vs) (upd (upd H1 dx (.own x)) x (.ins C dx [])) (fun v H2 => v = .non ∧ Q (.ref x) H2) fun c d H => W c d σ H
section
variable {k : Nat} {f C : Addr} {sp : Sp} {x : Str} {p pos : Pos} {e : Expr} {es : List Expr} {t : TA}
theorem run_makeW {pins : List (Addr × Obj)} {σ : L2.St} {H : Hp} {s : Shared} {Q : VK} {us : List Value} {vs : List V} (M : Mk X.K C f) (F : FnR X.prog X.w X.K X.mg X.base (L2.CX X.prog X.w) k f sp) (hr : Room (k + 1) X.A) (tk : Takes X W) (I : L2.Inv X pins σ H s) (r : Vals vs us)
    (h : ∀ x dx, H x = Option.none → H dx = Option.none → dx ≠ x → sp (V.ref x :: vs) (upd (upd H dx (.own x)) x (.ins C dx [])) (fun v H2 => v = .non ∧ Q (.ref x) H2) fun c d H => W c d σ H) :
    wpAny (model X.prog X.w) X.A (call (.ref C) us) (EP X pins σ Q) X.xe s := by
  have hq := h (s.heap.objs.size + 1) s.heap.objs.size (I.hok.fresh (Nat.le_succ _)) (I.hok.fresh (Nat.le_refl _)) (Nat.ne_of_lt (Nat.lt_succ_self _))
  have I2 := Inv.made (C := C) I
  have r2 : Vals (V.ref (s.heap.objs.size + 1) :: vs) (Value.ref (s.heap.objs.size + 1) :: us) := .cons rfl r
  refine wpAny_call (make_map (f := f) I.kIn M.makes M.init (beq_iff_eq.mp M.fn) (codeAny_mono (F _ X.stack _ _ (Value.ref (s.heap.objs.size + 1) :: us) _ _ _ (hr.make C us []) (I2.env0.make C us []) r2 hq) fun r s' hq' => ?_))
  cases r with
  | error e => exact passAt tk σ pins _ _ e s' I2 hq'
  | ok fl =>
    cases fl with
    | ret u =>
      obtain ⟨v, H', I3, rv, ev, q3⟩ := I2.after hq'
      subst ev
      exact ⟨rv, ⟨V.ref (s.heap.objs.size + 1), H', I3, rfl, q3⟩⟩
    | next => exact False.elim hq'
    | brk => exact False.elim hq'
    | cont => exact False.elim hq'
theorem pe_makeW (M : Mk X.K C f) (F : FnR X.prog X.w X.K X.mg X.base (L2.CX X.prog X.w) k f sp) (hr : Room (k + 1) X.A) (tk : Takes X W) (hg : Gl X x) (hm : X.mg x = some (.ref C)) (ha : PA X (e :: es) t) (hdb : (x == ("__debug__" : Str)) = false := by decide)
    (he : starEach (e :: es) X.env = (false, eval e X.env) :: starEach es X.env := by rfl) (hpl : (backTo pos (starEach es X.env)).any (·.1) = false := by rfl) : PE X (.Call (.Name x p) (e :: es) [] pos) (tMakeW C sp W t) :=
  ⟨fun pins s σ H Q I h => wpAny_Call_Name_kw (ld_glob I hg hm (PySem.W.callWith_K (h₀ := X.base) I.ok.mod.kin M.kp (thn (ha.run pos pins s σ H _ I h) fun us s1 ⟨vs, H1, I1, r, q⟩ => ⟨I1.kIn, run_makeW M F hr tk I1 r q⟩) he hpl) hdb)⟩
theorem pe_makeW0 (M : Mk X.K C f) (F : FnR X.prog X.w X.K X.mg X.base (L2.CX X.prog X.w) k f sp) (hr : Room (k + 1) X.A) (tk : Takes X W) (hg : Gl X x) (hm : X.mg x = some (.ref C)) (hdb : (x == ("__debug__" : Str)) = false := by decide) : PE X (.Call (.Name x p) [] [] pos) (tMakeW C sp W tNil) :=
  ⟨fun pins s σ H Q I h => wpAny_Call_Name_kw (ld_glob I hg hm (PySem.W.callWith_K0 I.kIn M.kp (run_makeW (us := []) M F hr tk I .nil h)) hdb)⟩
end
/-- C(e, ..): __init__ gets a bare instance to fill -/
def dMake (C : String) (sd : SpD) (a : TDA) : TDE := fun en Q Qe => a en (fun ds en1 => sd (.obj C [] [] :: ds) (fun r outs => r = .non ∧ match outs with
  | [d] => Q d en1
  | _ => False) fun x _ => Qe x en1) Qe
theorem sim_make {C : String} {sd : SpD} {t : TA} {d : TDA} (h : SimA K W t d) : SimO K W (tMakeW (He.ga K C) (spOf K [0] sd) W t) (dMake C sd d) := fun G F H σ en Q Qd Qe R q x k =>
  h G F H σ en _ _ Qe R q x fun vs ds F1 H1 en1 e1 R1 i1 q1 a dx ha hdx ne => by
    have hs : Same H1 (upd (upd H1 dx (.own a)) a (.ins (He.ga K C) dx [])) := fun b o e => by
      rw [upd_ne (ne_of_none e ha), upd_ne (ne_of_none e hdx)]
      exact e
    have R2 := R1.grow hs
    have io : ioOf (V.ref a :: vs) [0] = [(0, a)] := by simp [ioOf]
    have na : F1 a = none := R1.free ha
    have ns : ∀ (i : Nat) b e, en1[i]? = some (some (Ent.ow b e)) → σ[i]? ≠ some (some (V.ref a)) := fun i b e h1 h2 => by
      obtain ⟨a', k1, _, k3, _⟩ := R1.ow i b e h1
      rw [h2] at k1
      cases k1
      exact k3.there ha
    -- the state behind __init__
    have after : ∀ F2 H2, Post F1 (upd (upd H1 dx (.own a)) a (.ins (He.ga K C) dx [])) F2 H2 [a] → Rel K G F2 H2 σ en1 := fun F2 H2 p => by
      refine R2.step (fun z => z = a) p.f p.le (fun c k1 k2 => .inl ?_) (fun c u q m => p.keep c u q (by simpa using m)) (fun c z => by subst z; exact ⟨(R1.free0 ha).1, p.there c (by simp)⟩) rfl (fun i d e => .inl e) fun j b e k1 => ?_
      · cases q : upd (upd H1 dx (.own a)) a (.ins (He.ga K C) dx []) c with
        | none => rfl
        | some o => exact absurd (p.new c k1 (by rw [q]; simp)) k2
      · obtain ⟨a2, q1, q2, q3, _⟩ := R2.ow j b e k1
        have ne2 : a2 ≠ a := fun z => by
          subst z
          exact ns j b e k1 q1
        refine ⟨a2, e, q1, k1, q3.move p.f ?_⟩
        cases w : upd (upd H1 dx (.own a)) a (.ins (He.ga K C) dx []) a2 with
        | none => exact absurd w q3.there
        | some u => exact p.keep a2 u w (by simpa using ne2)
    refine ⟨F1, .obj C [] [] :: ds, _, _, R2.le, ⟨by simp [i1.length], fun j e hj hn => ?_, fun j e hj hn => ?_, fun j l a m1 m2 _ _ => by simp at m1 m2; rw [m1, m2]⟩, q1, fun v r outs F2 H2 p i2 os q2 => ?_, fun y outs cls d F2 H2 p i2 os q2 => ?_⟩
    · cases j with
      | zero => exact absurd (by simp) hn
      | succ j => exact i1.get (by simpa using hj)
    · have : j = 0 := by simpa using hn
      subst this
      cases hj
      exact ⟨a, rfl, na, dx, [], upd_same, rfl, rfl⟩
    · rw [io] at p os
      obtain ⟨er, q2⟩ := q2
      subst er
      cases os with
      | cons o os =>
        cases os
        have i2 : v = .non := i2
        exact ⟨i2, k a _ F2 H2 en1 (e1.trans p.f) (after F2 H2 p) ⟨p.new a na (by rw [upd_same]; simp), o, R1.free0 ha, ns⟩ q2⟩
    · rw [io] at p os
      cases os with
      | cons o os =>
        cases os
        exact x y F2 H2 σ en1 cls d (after F2 H2 p) i2 q2
section
variable {k : Nat} {f : Addr} {C : String} {sd : SpD} {x : Str} {p pos : Pos} {e : Expr} {es : List Expr} {t : TA} {d : TDA}
theorem do_make (M : Mk X.K (He.ga X.K C) f) (F : FnD X.prog X.w X.K X.mg X.base k f [0] sd) (hr : Room (k + 1) X.A) (tk : Takes X W) (hg : Gl X x) (hm : X.mg x = some (.ref (He.ga X.K C))) (ha : DA X W (e :: es) t d) (hdb : (x == ("__debug__" : Str)) = false := by decide)
    (he : starEach (e :: es) X.env = (false, eval e X.env) :: starEach es X.env := by rfl) (hpl : (backTo pos (starEach es X.env)).any (·.1) = false := by rfl) : DO X W (.Call (.Name x p) (e :: es) [] pos) (tMakeW (He.ga X.K C) (spOf (kk X) [0] sd) W t) (dMake C sd d) := ⟨pe_makeW M F hr tk hg hm ha.pa hdb he hpl, sim_make ha.sim⟩
theorem do_make0 (M : Mk X.K (He.ga X.K C) f) (F : FnD X.prog X.w X.K X.mg X.base k f [0] sd) (hr : Room (k + 1) X.A) (tk : Takes X W) (hg : Gl X x) (hm : X.mg x = some (.ref (He.ga X.K C))) (hdb : (x == ("__debug__" : Str)) = false := by decide) :
    DO X W (.Call (.Name x p) [] [] pos) (tMakeW (He.ga X.K C) (spOf (kk X) [0] sd) W tNil) (dMake C sd dNil) := ⟨pe_makeW0 M F hr tk hg hm hdb, sim_make fun G F H σ en Q Qd Qe R q x k => k [] [] F H en (Same.refl F) R rfl q⟩
end

/-! ### properties -/
def tPropR (C : Addr) (sp : Sp) (ta : TE) : TE := fun σ H Q => ta σ H fun x H1 => ∃ a dx fs, x = .ref a ∧ H1 a = some (.ins C dx fs) ∧ sp [.ref a] H1 Q fun _ _ _ => False
def dProp (C : String) (sd : SpD) (o : TDE) : TDE := fun en Q Qe => o en (fun d en1 => match d with
  | .obj C' ns vs => C' = C ∧ sd [.obj C' ns vs] (fun r _ => Q r en1) fun _ _ => False
  | _ => False) Qe
theorem getprop_R {k : Nat} {C p g a dx : Addr} {fs : List (Str × V)} {f : Str} {sp : Sp} {pins : List (Addr × Obj)} {σ : L2.St} {H : Hp} {s : Shared} {Q : VK} {b : Bool} {E' : Value → Shared → Prop} (I : L2.Inv X pins σ H s) (ea : H a = some (.ins C dx fs)) (c : Cls X.K C) (hp : PropOf X.K C f p g)
    (F : FnR X.prog X.w X.K X.mg X.base (L2.CX X.prog X.w) k g sp) (hr : Room (k + 1) X.A) (h : sp [.ref a] H Q fun _ _ _ => False) : wpAny (model X.prog X.w) X.A (getAttr (.ref a) f b) (EP X pins σ Q) E' s := by
  obtain ⟨mA, O, _, _, _, _⟩ := ins_get I.hok ea
  obtain ⟨od, J, _⟩ := O.look
  obtain ⟨rest, hrec⟩ := hp.rec_
  have I1 := I.tok (s.toks + 1)
  have hc : (PySem.W.clsIn X.K C).isSome = true := by
    obtain ⟨cd, hc, _⟩ := PySem.W.any_some c.hd
    rw [hc]
    rfl
  refine PySem.W.get_bind I.kIn J (PySem.W.plainGet_of (c.get f)).1 (PySem.W.findObj_data hc hp.at_ hp.get hp.tak) (PySem.W.plainGet_of (c.get f)).2 (wpAny_call (PySem.W.prop_get (s := { s with toks := s.toks + 1 }) I.kIn hrec ?_))
  refine codeAny_mono (F X.A.in1 X.stack { s with toks := s.toks + 1 } H [.ref a] [.ref a] Q _ hr.in1 I1.env0.in1 (.cons rfl .nil) h) fun r s' hq => ?_
  cases r with
  | error er =>
    obtain ⟨_, _, _, _, _, _, _, _, _, _, _, _, z⟩ := hq
    exact z.elim
  | ok fl =>
    cases fl with
    | ret u =>
      obtain ⟨v, H', I3, rv, q3⟩ := I1.after hq
      show wpAny _ _ (handedOut u) _ _ _
      rw [PySem.W.handedOut_of (handed_of rv)]
      exact wpAny_pure ⟨v, H', I3, rv, q3⟩
    | next => exact False.elim hq
    | brk => exact False.elim hq
    | cont => exact False.elim hq
theorem de_prop {k : Nat} {C : String} {p g : Addr} {f : Str} {sd : SpD} {e : Expr} {pos : Pos} {te : TE} {td : TDE} (h : DE X W e te td) (c : Cls X.K (He.ga X.K C)) (hp : PropOf X.K (He.ga X.K C) f p g) (F : FnD X.prog X.w X.K X.mg X.base k g [] sd) (hr : Room (k + 1) X.A)
    (hb : attributeBase e f X.env (eval e X.env) = eval e X.env := by rfl) : DE X W (.Attribute e f pos) (tPropR (He.ga X.K C) (spOf (kk X) [] sd) te) (dProp C sd td) :=
  ⟨⟨fun pins s σ H Q I hq => attr_of hb (thn (h.pe.run pins s σ H _ I hq) fun u s1 ⟨x, H1, I1, rx, a, dx, fs, ex, ea, q⟩ => by
    subst ex
    obtain rfl : u = Value.ref a := rx
    exact getprop_R I1 ea c hp F hr q)⟩, fun G F' H σ en Q Qd Qe R q x k => h.sim G F' H σ en _ _ Qe R q x fun v d F1 H1 en1 e1 R1 i1 q1 => by
    cases d with
    | obj C' ns ds =>
      obtain ⟨rfl, q1⟩ := q1
      obtain ⟨a, dx, vs, rfl, s, n, l⟩ := id i1
      exact ⟨a, dx, _, rfl, R1.le _ _ s, sp_run (ds := [.obj C' ns ds]) (Qd := fun r => Qd r en1) (Qe := fun _ => False) R1 (IsL.single i1) q1 (fun v r F3 H3 e3 R3 i3 q3 => k v r F3 H3 en1 (e1.trans e3) R3 i3 q3) fun _ _ _ _ _ _ _ z => z⟩
    | _ => exact q1.elim⟩

/-! ### own operators -/
/-- a call by values, of an instance of C first -/
def rOwn2 (C : Addr) (sp : Sp) (W : WX) (σ : L2.St) : R2 := fun x y H Q => ∃ a dx fs b dy gs, x = .ref a ∧ H a = some (.ins C dx fs) ∧ y = .ref b ∧ H b = some (.ins C dy gs) ∧ sp [x, y] H Q fun c d H => W c d σ H
def tOwn2 (C : Addr) (sp : Sp) (W : WX) (ta tb : TE) : TE := fun σ H Q => ta σ H fun x H1 => tb σ H1 fun y H2 => rOwn2 C sp W σ x y H2 Q
def dOwn2 (C : String) (sd : SpD) (da db : TDE) : TDE := fun en Q Qe => da en (fun x en1 => db en1 (fun y en2 => (∃ ns vs, x = .obj C ns vs) ∧ (∃ ns vs, y = .obj C ns vs) ∧ sd [x, y] (fun r _ => Q r en2) fun x _ => Qe x en2) Qe) Qe
theorem call_own {k : Nat} {f : Addr} {sp : Sp} {pins : List (Addr × Obj)} {σ : L2.St} {H : Hp} {s : Shared} {Q : VK} {us : List Value} {vs : List V} (F : FnR X.prog X.w X.K X.mg X.base (L2.CX X.prog X.w) k f sp) (hr : Room k X.A) (tk : Takes X W)
    (I : L2.Inv X pins σ H s) (r : Vals vs us) (h : sp vs H Q (fun c d H => W c d σ H)) : wpAny (model X.prog X.w) X.A (call (.ref f) us) (PySem.W.CmpBack (EP X pins σ Q)) X.xe s :=
  thn (wpAny_call (run_D F hr tk I r h)) fun u s' q => by
    obtain ⟨v, H', I', rv, q'⟩ := id q
    cases v with
    | non => cases (show u = Value.none from rv); exact q
    | bl b => cases (show u = Value.bool b from rv); exact q
    | int b => obtain ⟨t, e⟩ := (show ∃ t, u = Value.int b t from rv); cases e; exact q
    | str b => obtain ⟨t, e⟩ := (show ∃ t, u = Value.str b t from rv); cases e; exact q
    | byt b => obtain ⟨t, e⟩ := (show ∃ t, u = Value.bytes b t from rv); cases e; exact q
    | flt b => obtain ⟨t, e⟩ := (show ∃ t, u = Value.float b t from rv); cases e; exact q
    | ref b => cases (show u = Value.ref b from rv); exact q
    | ty b => cases (show u = Value.type b from rv); exact q
/-- what of the text an own operator must have -/
structure BinOk (K : Fg) (C f : Addr) (name : Str) : Prop where
  sf : PySem.W.selfFirst K C = true
  at_ : PySem.W.findIn K (.ref C) name = some (some (.ref f))
  fn : PySem.W.isFn K (.ref f) = true
theorem sim_own2 {C : String} {sd : SpD} {ta tb : TE} {da db : TDE} (ha : Sim K W ta da) (hb : Sim K W tb db) : Sim K W (tOwn2 (He.ga K C) (spOf K [] sd) W ta tb) (dOwn2 C sd da db) := fun G F H σ en Q Qd Qe R q x k =>
  ha G F H σ en _ _ Qe R q x fun v d F1 H1 en1 e1 R1 i1 q1 => hb G F1 H1 σ en1 _ _ Qe R1 q1 x fun u d2 F2 H2 en2 e2 R2 i2 q2 => by
    obtain ⟨⟨ns, ds, rfl⟩, ⟨ms, es, rfl⟩, q2⟩ := q2
    have i1 := Is.mono e2 _ _ i1
    obtain ⟨a, dx, vs, rfl, s, n, l⟩ := id i1
    obtain ⟨b, dy, ws, rfl, s', n', l'⟩ := id i2
    exact ⟨a, dx, _, b, dy, _, rfl, R2.le _ _ s, rfl, R2.le _ _ s', sp_run (ds := [.obj C ns ds, .obj C ms es]) (Qd := fun r => Qd r en2) (Qe := fun x => Qe x en2) R2 ⟨_, _, rfl, i1, IsL.single i2⟩ q2 (fun v r F3 H3 e3 R3 i3 q3 => k v r F3 H3 en2 ((e1.trans e2).trans e3) R3 i3 q3)
      fun y cls d F3 H3 R3 i3 q3 => x y F3 H3 σ en2 cls d R3 i3 q3⟩
theorem de_own2 {k : Nat} {f : Addr} {C : String} {sd : SpD} {op : Operator} {a b : Expr} {pos : Pos} {ta tb : TE} {da db : TDE} (B : BinOk X.K (He.ga X.K C) f (PySem.dunder op.info.2)) (F : FnD X.prog X.w X.K X.mg X.base k f [] sd) (hr : Room k X.A) (tk : Takes X W) (ha : DE X W a ta da) (hb : DE X W b tb db) :
    DE X W (.BinOp a op b pos) (tOwn2 (He.ga X.K C) (spOf (kk X) [] sd) W ta tb) (dOwn2 C sd da db) := ⟨⟨fun pins s σ H Q I h => wpAny_BinOp (binT ha.pe hb.pe I h fun v u s2 x y H2 I2 rx ry q => by
      obtain ⟨a, dx, fs, b, dy, gs, rfl, ea, rfl, eb, q⟩ := q
      obtain rfl : v = Value.ref a := rx
      obtain rfl : u = Value.ref b := ry
      obtain ⟨mA, J, _⟩ := ins_get I2.hok ea
      obtain ⟨mB, J', _⟩ := ins_get I2.hok eb
      obtain ⟨od, J, _⟩ := J.look
      obtain ⟨od', J', _⟩ := J'.look
      obtain ⟨m, hF⟩ := I2.fr
      exact PySem.W.binop_K hF I2.ok.mod.kin J J'.type B.sf B.at_ B.fn (call_own (vs := [.ref a, .ref b]) F hr tk I2 (.cons rfl (.cons rfl .nil)) q))⟩, sim_own2 ha.sim hb.sim⟩
/-- == and its like, by an own method, of two instances of one class -/
structure CmpOk (K : Fg) (C f : Addr) (name : Str) : Prop where
  at_ : PySem.W.findIn K (.ref C) name = some (some (.ref f))
  fn : PySem.W.isFn K (.ref f) = true
theorem cmp_own {k : Nat} {f C : Addr} {sp : Sp} {op : CmpOp} {pins : List (Addr × Obj)} {σ : L2.St} {H : Hp} {s : Shared} {Q : VK} {x y : V} {v u : Value} (B : CmpOk X.K C f (cmpInfo op).2.1) (F : FnR X.prog X.w X.K X.mg X.base (L2.CX X.prog X.w) k f sp) (hr : Room k X.A) (tk : Takes X W)
    (I : L2.Inv X pins σ H s) (rx : RelV x v) (ry : RelV y u) (q : rOwn2 C sp W σ x y H Q) (ho : compareOp op v u = richCompare op v u) : wpAny (model X.prog X.w) X.A (compareOp op v u) (EP X pins σ Q) X.xe s := by
  obtain ⟨a, dx, fs, b, dy, gs, rfl, ea, rfl, eb, q⟩ := q
  obtain rfl : v = Value.ref a := rx
  obtain rfl : u = Value.ref b := ry
  obtain ⟨mA, J, _⟩ := ins_get I.hok ea
  obtain ⟨mB, J', _⟩ := ins_get I.hok eb
  obtain ⟨od, J, _⟩ := J.look
  obtain ⟨od', J', _⟩ := J'.look
  obtain ⟨m, hF⟩ := I.fr
  rw [ho]
  exact PySem.W.cmp_K (op := op) (tb := .ref C) hr.units0 hF I.ok.mod.kin J J'.type (by simp [PySem.W.notFirst]) B.at_ B.fn (call_own (vs := [.ref a, .ref b]) F hr tk I (.cons rfl (.cons rfl .nil)) q)
theorem de_cmpO {k : Nat} {f : Addr} {C : String} {sd : SpD} {op : CmpOp} {a b : Expr} {pos : Pos} {ta tb : TE} {da db : TDE} (B : CmpOk X.K (He.ga X.K C) f (cmpInfo op).2.1) (F : FnD X.prog X.w X.K X.mg X.base k f [] sd) (hr : Room k X.A) (tk : Takes X W) (ha : DE X W a ta da) (hb : DE X W b tb db) (hm : behindInMarks op b = false)
    (ho : ∀ v u, compareOp op v u = richCompare op v u := by intro _ _; rfl) : DE X W (.Compare a [op] [b] pos) (tOwn2 (He.ga X.K C) (spOf (kk X) [] sd) W ta tb) (dOwn2 C sd da db) :=
  ⟨⟨fun pins s σ H Q I h => wpAny_Compare1 (binT ha.pe hb.pe I h fun v u s2 x y H2 I2 rx ry q => cmp_own B F hr tk I2 rx ry q (ho v u)) hm⟩, sim_own2 ha.sim hb.sim⟩
/-- ~x by an own method -/
def tOwn1 (C : Addr) (sp : Sp) (W : WX) (ta : TE) : TE := fun σ H Q => ta σ H fun x H1 => ∃ a dx fs, x = .ref a ∧ H1 a = some (.ins C dx fs) ∧ sp [x] H1 Q fun c d H => W c d σ H
def dOwn1 (C : String) (sd : SpD) (da : TDE) : TDE := fun en Q Qe => da en (fun x en1 => (∃ ns vs, x = .obj C ns vs) ∧ sd [x] (fun r _ => Q r en1) fun x _ => Qe x en1) Qe
theorem de_inv {k : Nat} {f : Addr} {C : String} {sd : SpD} {a : Expr} {pos : Pos} {ta : TE} {da : TDE} (B : CmpOk X.K (He.ga X.K C) f "__invert__") (F : FnD X.prog X.w X.K X.mg X.base k f [] sd) (hr : Room k X.A) (tk : Takes X W) (ha : DE X W a ta da) :
    DE X W (.UnaryOp .Invert a pos) (tOwn1 (He.ga X.K C) (spOf (kk X) [] sd) W ta) (dOwn1 C sd da) :=
  ⟨⟨fun pins s σ H Q I h => PyProof.Rows.UnaryOp_ (thn (ha.pe.run pins s σ H _ I h) fun v s1 ⟨x, H1, I1, rx, a, dx, fs, ex, ea, q⟩ => by
    subst ex
    obtain rfl : v = Value.ref a := rx
    obtain ⟨mA, J, _⟩ := ins_get I1.hok ea
    obtain ⟨od, J, _⟩ := J.look
    obtain ⟨m, hF⟩ := I1.fr
    exact PySem.W.ksp_inv hF I1.ok.mod.kin J B.at_ B.fn (wpAny_call (run_D (vs := [.ref a]) F hr tk I1 (.cons rfl .nil) q)))⟩, fun G F' H σ en Q Qd Qe R q x k => ha.sim G F' H σ en _ _ Qe R q x fun v d F1 H1 en1 e1 R1 i1 q1 => by
    obtain ⟨⟨ns, ds, rfl⟩, q1⟩ := q1
    obtain ⟨a, dx, vs, rfl, s, n, l⟩ := id i1
    exact ⟨a, dx, _, rfl, R1.le _ _ s, sp_run (ds := [.obj C ns ds]) (Qd := fun r => Qd r en1) (Qe := fun x => Qe x en1) R1 (IsL.single i1) q1 (fun v r F3 H3 e3 R3 i3 q3 => k v r F3 H3 en1 (e1.trans e3) R3 i3 q3)
      fun y cls d F3 H3 R3 i3 q3 => x y F3 H3 σ en1 cls d R3 i3 q3⟩⟩
end
end DL

/-! The D layer, part 7: lists that change, comprehensions, the module's constants. -/
namespace DL
open PySem L2

section
variable {X : Cx} {W : WX} {K : KW}
/-! ### the module's constants -/
theorem pe_const {y : Str} {p : Pos} {v : V} {u : Value} (hg : Gl X y) (hm : X.mg y = some u) (r : RelV v u) (hd : (y == ("__debug__" : Str)) = false := by decide) : PE X (.Name y p) (tC v) := ⟨fun _ _ _ H _ I h => ld_glob I hg hm ⟨v, H, I, r, h⟩ hd⟩
theorem de_const {y : Str} {p : Pos} {v : V} {u : Value} {d : D} (hg : Gl X y) (hm : X.mg y = some u) (r : RelV v u) (i : ∀ F, Is (kk X) F d v) (hd : (y == ("__debug__" : Str)) = false := by decide) : DE X W (.Name y p) (tC v) (dC d) := ⟨pe_const hg hm r hd, sim_c i⟩
/-- a name of the module that is there in its tables: an int, a text, a tuple of flat values -/
theorem is_tupC {y : Str} {ds : List D} {vs : List V} {F : Hp} (h : SqT K F (He.ga K y) vs) (l : IsL K F ds vs) : Is K F (.tup ds) (.ref (He.ga K y)) := ⟨_, vs, rfl, h, l⟩

/-! ### append, pop, extend of a name's own list -/
section
variable {i : Nat} {y : Str} {p apos cpos : Pos} {e : Expr} {te : TE} {td : TDE}
def dApp (i : Nat) (e : TDE) : TDE := fun en Q Qe => (ownAt en i).isSome = true ∧ e en (fun d en1 => match ownAt en1 i with
  | some (b, .lst ds) => ds.length < sizeLine ∧ Q .non (en1.set i (some (.ow b (.lst (ds ++ [d])))))
  | _ => False) Qe
/-- an own list stands there -/
theorem own_isL {G : Gh} {F H : Hp} {σ : L2.St} {en : En} {b : Bool} {d : D} (R : Rel K G F H σ en) (h : ownAt en i = some (b, d)) (hl : ∃ ds, d = .lst ds) : ∃ a, σ[i]? = some (some (V.ref a)) ∧ ∃ xs, SqL K H a xs := by
  obtain ⟨ds, rfl⟩ := hl
  obtain ⟨a, h1, _, ⟨vs, h2, _⟩, _⟩ := R.ow i b _ (ownAt_eq h)
  exact ⟨a, h1, vs, SqL.of h2⟩
def isLst : D → Bool
  | .lst _ => true
  | _ => false
theorem isLst_of {d : D} (h : isLst d = true) : ∃ ds, d = .lst ds := by
  cases d with
  | lst ds => exact ⟨ds, rfl⟩
  | _ => cases h
/-- the slot i holds one's own list -/
def ownL (en : En) (i : Nat) : Bool := match ownAt en i with
  | some (_, .lst _) => true
  | _ => false
theorem ownL_of {en : En} (h : ownL en i = true) : ∃ b ds, ownAt en i = some (b, .lst ds) := by
  unfold ownL at h
  split at h
  · rename_i b ds e
    exact ⟨b, ds, e⟩
  · cases h
/-- a method of a list that changes it, by its effect on data: the list, the arguments, what is wanted of the value and of the list left -/
abbrev LM := List D → List D → (D → List D → Prop) → Prop
def SimL (K : KW) (r : V → List V → Hp → VK → Prop) (m : LM) : Prop := ∀ (F H : Hp) (a : Addr) (ds : List D) (vs : List V) (es : List D) (ws : List V) (Q : VK) (Qd : D → List D → Prop), Same F H → F a = none → H a = some (.lst vs) → IsL K F ds vs → IsL K F es ws → m ds es Qd →
  (∀ z dz us ls, Is K F dz z → IsL K F ls us → Qd dz ls → Q z (upd H a (.lst us))) → r (.ref a) ws H Q
def dLM (i : Nat) (m : LM) (a : TDA) : TDE := fun en Q Qe => ownL en i = true ∧ a en (fun es en1 => match ownAt en1 i with
  | some (b, .lst ds) => m ds es fun z ls => Q z (en1.set i (some (.ow b (.lst ls))))
  | _ => False) Qe
theorem sim_lm {r : V → List V → Hp → VK → Prop} {m : LM} {t : TA} {d : TDA} (hm : SimL K r m) (h : SimA K W t d) : Sim K W (tBM K "list" r (tVar i) t) (dLM i m d) := fun G F H σ en Q Qd Qe R q x k => by
  obtain ⟨q0, q⟩ := q
  obtain ⟨b0, ds0, e0⟩ := ownL_of q0
  obtain ⟨a, h1, _, ⟨vs0, h2, _⟩, _⟩ := R.ow i b0 _ (ownAt_eq e0)
  refine ⟨_, h1, .inl ⟨rfl, vs0, SqL.of h2⟩, h G F H σ en _ _ Qe R q x fun ws es F1 H1 en1 e1 R1 i1 q1 => ?_⟩
  split at q1
  · rename_i b ds e2
    have e2 := ownAt_eq e2
    obtain ⟨a', h1', n1, ⟨vs, h3, l3⟩, _⟩ := R1.ow i b _ e2
    rw [h1] at h1'
    cases h1'
    exact hm F1 H1 a ds vs es ws Q _ R1.le n1 h3 l3 i1 q1 fun z dz us ls iz il q2 => k z dz F1 _ _ e1 (R1.write (e := .lst ls) e2 h1 ⟨us, upd_same, il⟩) iz q2
  · exact q1.elim
end
def appM : LM := fun ds es Q => match es with
  | [d] => ds.length < sizeLine ∧ Q .non (ds ++ [d])
  | _ => False
theorem sim_app : SimL K rAppend appM := by
  intro F H a ds vs es ws Q Qd e na ha l le q k
  unfold appM at q
  split at q
  · obtain ⟨v, r, rfl, iv, ir⟩ := le
    cases ir
    exact ⟨a, vs, v, rfl, rfl, ha, by rw [l.length]; exact q.1, k .non .non _ _ rfl (l.append (IsL.single iv)) q.2⟩
  · exact q.elim
def popM : LM := fun ds es Q => match es with
  | [] => ∃ d, ds.getLast? = some d ∧ Q d ds.dropLast
  | _ => False
theorem IsL.dropLast {F : Hp} {ds : List D} {vs : List V} (l : IsL K F ds vs) : IsL K F ds.dropLast vs.dropLast := by
  rw [List.dropLast_eq_take, List.dropLast_eq_take, l.length]
  exact l.take _
theorem sim_pop : SimL K rPop popM := by
  intro F H a ds vs es ws Q Qd e na ha l le q k
  unfold popM at q
  split at q
  · cases le
    obtain ⟨d, h1, h2⟩ := q
    rw [List.getLast?_eq_getElem?] at h1
    obtain ⟨v, h3, h4⟩ := l.get h1
    exact ⟨a, vs, v, rfl, rfl, ha, by rw [l.length]; exact h3, k v d _ _ h4 l.dropLast h2⟩
  · exact q.elim
def extM : LM := fun ds es Q => match es with
  | [.lst xs] => ds.length + xs.length ≤ sizeLine ∧ Q .non (ds ++ xs)
  | _ => False
theorem sim_ext : SimL K rExtend extM := by
  intro F H a ds vs es ws Q Qd e na ha l le q k
  unfold extM at q
  split at q
  · obtain ⟨v, r, rfl, ⟨b, us, rfl, hb, lb⟩, ir⟩ := le
    cases ir
    exact ⟨a, b, vs, us, rfl, rfl, ha, e _ _ hb, by rw [l.length, lb.length]; exact q.1, k .non .non _ _ rfl (l.append lb) q.2⟩
  · exact q.elim
section
variable {i : Nat} {y : Str} {p apos cpos : Pos} {e : Expr} {es : List Expr} {t : TA} {d : TDA} {name : Str} {id : String} {r : V → List V → Hp → VK → Prop} {m : LM}
theorem de_lm (slot : Slot "list" name id) (hty : typeOf (.builtin id) = pure (.type "method_descriptor")) (hm : MtR X id r) (sm : SimL (kk X) r m) (ha : DA X W (e :: es) t d) (hN : X.N[i]? = some y := by rfl) (hv : Vis X.env.scope y := by first | exact Or.inl rfl | exact Or.inr (Or.inl rfl) | exact Or.inr (Or.inr rfl))
    (hd2 : (y == ("__debug__" : Str)) = false := by decide) (hcd : (y == ("__classdict__" : Str)) = false := by decide) (hbase : attributeBase (.Name y p) name X.env (eval (.Name y p) X.env) = eval (.Name y p) X.env := by rfl)
    (hfew : ((backTo cpos (starEach (e :: es) X.env)).all (fun x => !x.1) && (backToKw cpos (keywordEach [] X.env)).all (fun x => x.1.isSome) && decide ((e :: es).length + ([] : List Keyword).length + (if ([] : List Keyword).isEmpty then 0 else 1) < 30)) = true := by rfl)
    (hline : (apos.endLine == cpos.line) = true := by rfl) (hst : starEach (e :: es) X.env = (false, eval e X.env) :: starEach es X.env := by rfl) (hpl : (backTo cpos (starEach es X.env)).any (·.1) = false := by rfl) :
    DE X W (.Call (.Attribute (.Name y p) name apos) (e :: es) [] cpos) (tBM X.K "list" r (tVar i) t) (dLM i m d) := ⟨pe_bm PySem.F.plainAttrs_list slot hty hm (pe_var hN hv hd2 hcd) ha.pa hbase hfew hline hst hpl, sim_lm sm ha.sim⟩
theorem de_lm0 (slot : Slot "list" name id) (hty : typeOf (.builtin id) = pure (.type "method_descriptor")) (hm : MtR X id r) (sm : SimL (kk X) r m) (hN : X.N[i]? = some y := by rfl) (hv : Vis X.env.scope y := by first | exact Or.inl rfl | exact Or.inr (Or.inl rfl) | exact Or.inr (Or.inr rfl))
    (hd2 : (y == ("__debug__" : Str)) = false := by decide) (hcd : (y == ("__classdict__" : Str)) = false := by decide) (hbase : attributeBase (.Name y p) name X.env (eval (.Name y p) X.env) = eval (.Name y p) X.env := by rfl) (hline : (apos.endLine == cpos.line) = true := by rfl) :
    DE X W (.Call (.Attribute (.Name y p) name apos) [] [] cpos) (tBM0 X.K "list" r (tVar i)) (dLM i m dNil) := ⟨pe_bm0 PySem.F.plainAttrs_list slot hty hm (pe_var hN hv hd2 hcd) hbase hline, sim_lm (W := W) sm (fun G F H σ en Q Qd Qe R q x k => k [] [] F H en (Same.refl F) R rfl q)⟩
end
/-! ### x[k] = e of a name's own list -/
def ownC (en : En) (i : Nat) : Bool := match ownAt en i with
  | some (_, .lst _) => true
  | some (_, .dct _ _) => true
  | _ => false
theorem ownC_of {en : En} {i : Nat} (h : ownC en i = true) : ∃ b d, ownAt en i = some (b, d) := by
  unfold ownC at h
  cases e : ownAt en i with
  | none => rw [e] at h; cases h
  | some x => exact ⟨x.1, x.2, rfl⟩
def rSetDct (K : KW) : TSet := fun o i v H Q => ∃ a ks kvs us k, o = .ref a ∧ (a == sysModules) = false ∧ H a = some (.ext (DkΦ K.w a ks kvs us)) ∧ ks.length < sizeLine ∧ Kfit K H ks kvs k i ∧ Q (upd H a (.ext (DkΦ K.w a (putN ks k) (putV ks kvs k i) (putL ks us k v))))
theorem set_dct (hu : X.A.units + 64 < cLine) : PSet X (rSetDct (kk X)) := by
  intro pins s σ H o i v ov iv u Q I ro ri rv ⟨a, ks, kvs, us, k, e, hs, he, hz, hf, q⟩
  subst e
  cases ro
  exact dd_setItem hu I hs he hz hf ri rv fun s' I' => ⟨_, I', q⟩
def rSetX (K : KW) : TSet := fun o i v H Q => rSetL o i v H Q ∨ rSetDct K o i v H Q
theorem set_X (hu : X.A.units + 64 < cLine) : PSet X (rSetX (kk X)) := by
  intro pins s σ H o i v ov iv u Q I ro ri rv q
  rcases q with q | q
  · exact set_list pins s σ H o i v ov iv u Q I ro ri rv q
  · exact set_dct hu pins s σ H o i v ov iv u Q I ro ri rv q
def dStore (i : Nat) (ix e : TDE) : TDS := fun B en => e en (fun d en1 => ownC en1 i = true ∧ ix en1 (fun j en2 => match ownAt en2 i, j with
  | some (b, .lst ds), .int k => ∃ m, ixN ds.length k = some m ∧ B.nx (en2.set i (some (.ow b (.lst (ds.set m d)))))
  | some (b, .dct ds es), j => fitD ds j = true ∧ ds.length < sizeLine ∧ B.nx (en2.set i (some (.ow b (.dct (putDk ds j) (putDv ds es j d)))))
  | _, _ => False) B.ex) B.ex
theorem ds_store (hu : X.A.units + 64 < cLine) {i : Nat} {y : Str} {p pos tpos : Pos} {e ix : Expr} {te ti : TE} {td di : TDE} (h : DE X W e te td) (hi : DE X W ix ti di) (hN : X.N[i]? = some y := by rfl) (hv : Vis X.env.scope y := by first | exact Or.inl rfl | exact Or.inr (Or.inl rfl) | exact Or.inr (Or.inr rfl))
    (hd2 : (y == ("__debug__" : Str)) = false := by decide) (hcd : (y == ("__classdict__" : Str)) = false := by decide)
    (ha : ∀ v, assign (.Subscript (.Name y p) ix tpos) X.env v = (do let ov ← holding [v] (eval (.Name y p) X.env); let iv ← holding [v, ov] (eval ix X.env); standAt tpos; holding [v, ov, iv] (setItem ov iv v); release [v, ov, iv] []) := by intro _; rfl)
    (hs : swapsWithSole [.Subscript (.Name y p) ix tpos] e pos.line X.env = pure false := by rfl) (hw : swappedStores [.Subscript (.Name y p) ix tpos] e X.env = pure none := by rfl)
    (h1 : (assignEach [.Subscript (.Name y p) ix tpos] X.env).map (·.2) = [assign (.Subscript (.Name y p) ix tpos) X.env] := by rfl) : DS X W (.Assign [.Subscript (.Name y p) ix tpos] e pos) (tAsg te (gSub (tVar i) ti (rSetX (kk X)))) (dStore i di td) :=
  ⟨ps_asg h.pe (pg_sub (pe_var hN hv hd2 hcd) hi.pe (set_X hu) ha) hs hw h1, fun G F H σ en D' B R q k => h.sim G F H σ en _ _ _ R q k.ex fun v d F1 H1 en1 e1 R1 i1 q1 => by
    obtain ⟨q0, q1⟩ := q1
    obtain ⟨b0, ds0, e0⟩ := ownC_of q0
    obtain ⟨a, h1, _⟩ := R1.ow i b0 _ (ownAt_eq e0)
    refine ⟨_, h1, hi.sim G F1 H1 σ en1 _ _ _ R1 q1 k.ex fun j dj F2 H2 en2 e2 R2 i2 q2 => ?_⟩
    split at q2
    · rename_i b ds kk e3
      have e3 := ownAt_eq e3
      obtain ⟨a', h1', n1, ⟨vs, h3, l3⟩, _⟩ := R2.ow i b _ e3
      rw [h1] at h1'
      cases h1'
      cases i2
      obtain ⟨m, hm, q3⟩ := q2
      exact .inl ⟨a, vs, kk, m, rfl, rfl, h3, by rw [l3.length]; exact hm, k.nx F2 _ σ _ (R2.write (e := .lst (ds.set m d)) e3 h1 ⟨_, upd_same, IsL.set m l3 (Is.mono e2 _ _ i1)⟩) q3⟩
    · rename_i b ds es e3
      have e3 := ownAt_eq e3
      obtain ⟨a', h1', n1, ⟨ks, kvs, us, h3, hs3, ⟨hk3, hz3⟩, l3, m3⟩, _⟩ := R2.ow i b _ e3
      rw [h1] at h1'
      cases h1'
      obtain ⟨f, hz, q3⟩ := q2
      obtain ⟨j, hj⟩ := fit_some f
      have hl := nkL_len hk3
      obtain ⟨p1, p2⟩ := putK_of hj i2 hk3 l3
      refine .inr ⟨a, ks, kvs, us, j, rfl, hs3, h3, by omega, kfit_of R2.le hk3 l3 hj i2 f, k.nx F2 _ σ _ (R2.write (e := .dct _ _) e3 h1 ⟨_, _, _, upd_same, hs3, ⟨p1, ?_⟩, p2, put_of hj (Is.mono e2 _ _ i1) hk3 m3⟩) q3⟩
      unfold putN
      split
      · exact hz3
      · rw [List.length_append]; simp; omega
    · exact q2.elim⟩

/-! ### comprehensions -/
def wipeE (en : En) : List Nat → En
  | [] => en
  | v :: vs => (wipeE en vs).set v none
/-- the outer names of a comprehension's own are as they were -/
def backE (en0 en : En) : List Nat → En
  | [] => en
  | v :: vs => (backE en0 en vs).set v (match en0[v]? with
    | some (some (.fz d)) => some (.fz d)
    | _ => none)
theorem Rel.sigma {G : Gh} {F H : Hp} {σ σ' : L2.St} {en : En} (R : Rel K G F H σ en) (hl : σ'.length = σ.length) (h : ∀ (i : Nat) e, en[i]? = some (some e) → σ'[i]? = σ[i]?) : Rel K G F H σ' en where
  le := R.le
  f0 := R.f0
  pr := R.pr
  io := R.io
  len := hl.trans R.len
  fz := fun i d e => by rw [h i _ e]; exact R.fz i d e
  ow := fun i b d e => by rw [h i _ e]; exact R.ow i b d e
  sep := fun i j b c d e a h1 h2 h3 h4 => by
    rw [h i _ h1] at h3
    rw [h j _ h2] at h4
    exact R.sep i j b c d e a h1 h2 h3 h4
theorem wipeE_get {en : En} {i : Nat} {e : Ent} : ∀ {vs : List Nat}, (wipeE en vs)[i]? = some (some e) → en[i]? = some (some e) ∧ i ∉ vs
  | [], h => ⟨h, by simp⟩
  | v :: vs, h => by
    unfold wipeE at h
    by_cases z : i = v
    · subst z
      have hlt := get_lt h
      rw [List.length_set] at hlt
      rw [List.getElem?_set_self hlt] at h
      cases h
    · rw [List.getElem?_set_ne (fun q => z q.symm)] at h
      obtain ⟨h1, h2⟩ := wipeE_get h
      exact ⟨h1, by simp only [List.mem_cons, not_or]; exact ⟨z, h2⟩⟩
theorem wipe_get {σ : L2.St} {i : Nat} : ∀ {vs : List Nat}, i ∉ vs → (wipe σ vs)[i]? = σ[i]?
  | [], _ => rfl
  | v :: vs, h => by
    simp only [List.mem_cons, not_or] at h
    unfold wipe
    rw [List.getElem?_set_ne (fun q => h.1 q.symm)]
    exact wipe_get h.2
theorem Rel.wiped {G : Gh} {F H : Hp} {σ : L2.St} {en : En} (R : Rel K G F H σ en) (vs : List Nat) : Rel K G F H (wipe σ vs) (wipeE en vs) := by
  have h1 : ∀ l : List Nat, Rel K G F H σ (wipeE en l) := fun l => by
    induction l with
    | nil => exact R
    | cons v l ih => exact ih.drop none (fun _ _ q => nomatch q) fun _ q => nomatch q
  exact (h1 vs).sigma (wipe_length σ vs) fun i e h => wipe_get (wipeE_get h).2
theorem backE_fz {en0 en : En} {i : Nat} {e : Ent} : ∀ {vs : List Nat}, (backE en0 en vs)[i]? = some (some e) → (i ∉ vs ∧ en[i]? = some (some e)) ∨ (i ∈ vs ∧ ∃ d, e = .fz d ∧ en0[i]? = some (some (.fz d)))
  | [], h => .inl ⟨by simp, h⟩
  | v :: vs, h => by
    unfold backE at h
    by_cases z : i = v
    · subst z
      have hlt := get_lt h
      rw [List.length_set] at hlt
      rw [List.getElem?_set_self hlt] at h
      have h := Option.some.inj h
      split at h
      · rename_i d e0
        cases h
        exact .inr ⟨by simp, d, rfl, e0⟩
      · cases h
    · rw [List.getElem?_set_ne (fun q => z q.symm)] at h
      rcases backE_fz h with ⟨h1, h2⟩ | ⟨h1, h2⟩
      · exact .inl ⟨by simp only [List.mem_cons, not_or]; exact ⟨z, h1⟩, h2⟩
      · exact .inr ⟨List.mem_cons_of_mem _ h1, h2⟩
theorem backE_len {en0 en : En} : ∀ vs : List Nat, (backE en0 en vs).length = en.length
  | [] => rfl
  | v :: vs => by unfold backE; rw [List.length_set, backE_len vs]
theorem backE_wipe {en0 en : En} {vs : List Nat} : backE en0 (wipeE en vs) vs = backE en0 en vs := by
  have hl : ∀ l : List Nat, (wipeE en l).length = en.length := fun l => by
    induction l with
    | nil => rfl
    | cons v l ih => unfold wipeE; rw [List.length_set, ih]
  have hin : ∀ (x y : En) (l : List Nat), x.length = y.length → (∀ i : Nat, i ∉ l → x[i]? = y[i]?) → backE en0 x l = backE en0 y l := fun x y l => by
    intro h1 h2
    apply List.ext_getElem?
    intro i
    by_cases m : i ∈ l
    · have g : ∀ (l : List Nat), i ∈ l → (backE en0 x l)[i]? = (backE en0 y l)[i]? := by
        intro l
        induction l with
        | nil => intro m; simp at m
        | cons v l ih =>
          intro m
          unfold backE
          by_cases z : i = v
          · subst z
            by_cases hlt : i < x.length
            · rw [List.getElem?_set_self (by rw [backE_len]; exact hlt), List.getElem?_set_self (by rw [backE_len, ← h1]; exact hlt)]
            · rw [List.getElem?_eq_none (by rw [List.length_set, backE_len]; omega), List.getElem?_eq_none (by rw [List.length_set, backE_len]; omega)]
          · rw [List.getElem?_set_ne (fun q => z q.symm), List.getElem?_set_ne (fun q => z q.symm)]
            exact ih (by simpa [z] using m)
      exact g l m
    · have g : ∀ (x : En) (l : List Nat), i ∉ l → (backE en0 x l)[i]? = x[i]? := by
        intro x l
        induction l with
        | nil => intro _; rfl
        | cons v l ih =>
          intro m
          simp only [List.mem_cons, not_or] at m
          unfold backE
          rw [List.getElem?_set_ne (fun q => m.1 q.symm)]
          exact ih m.2
      rw [g x l m, g y l m]
      exact h2 i m
  refine hin _ _ vs (hl vs) fun i m => ?_
  have g : ∀ (l : List Nat), i ∉ l → (wipeE en l)[i]? = en[i]? := by
    intro l
    induction l with
    | nil => intro _; rfl
    | cons v l ih =>
      intro m
      simp only [List.mem_cons, not_or] at m
      unfold wipeE
      rw [List.getElem?_set_ne (fun q => m.1 q.symm)]
      exact ih m.2
  exact g vs m
theorem Rel.back {G : Gh} {F0 H0 F H : Hp} {σ : L2.St} {en0 en : En} {vs : List Nat} (R0 : Rel K G F0 H0 σ en0) (e : Same F0 F) (R : Rel K G F H (wipe σ vs) en) : Rel K G F H σ (backE en0 en vs) where
  le := R.le
  f0 := R.f0
  pr := R.pr
  io := R.io
  len := by
    have := R.len
    rw [wipe_length] at this
    rw [backE_len]
    exact this
  fz := fun i d h => by
    rcases backE_fz h with ⟨h1, h2⟩ | ⟨_, d', h1, h2⟩
    · obtain ⟨v, k1, k2⟩ := R.fz i d h2
      rw [wipe_get h1] at k1
      exact ⟨v, k1, k2⟩
    · cases h1
      obtain ⟨v, k1, k2⟩ := R0.fz i d h2
      exact ⟨v, k1, Is.mono e _ _ k2⟩
  ow := fun i b d h => by
    rcases backE_fz h with ⟨h1, h2⟩ | ⟨_, d', h1, h2⟩
    · obtain ⟨a, k1, k2⟩ := R.ow i b d h2
      rw [wipe_get h1] at k1
      exact ⟨a, k1, k2⟩
    · cases h1
  sep := fun i j b c d e a h1 h2 h3 h4 => by
    rcases backE_fz h1 with ⟨n1, m1⟩ | ⟨_, d', z, _⟩
    · rcases backE_fz h2 with ⟨n2, m2⟩ | ⟨_, d', z, _⟩
      · exact R.sep i j b c d e a m1 m2 (by rw [wipe_get n1]; exact h3) (by rw [wipe_get n2]; exact h4)
      · cases z
    · cases z
/-- an object that no slot holds, and that stays through what is read now -/
structure Aside (K : KW) (G : Gh) (F H : Hp) (σ : L2.St) (en : En) (a : Addr) (ds : List D) : Prop where
  nf : F a = none
  at_ : ∃ vs, H a = some (.lst vs) ∧ IsL K F ds vs
  n0 : ¬ G.P a ∧ ∀ p ∈ G.io, p.2 ≠ a
  ns : ∀ (i : Nat) b e, en[i]? = some (some (Ent.ow b e)) → σ[i]? ≠ some (some (V.ref a))
/-- the ghost under which it stays -/
def Gh.plus (G : Gh) (H : Hp) (a : Addr) : Gh := ⟨G.F0, fun b => if b = a then H a else G.H0 b, fun b => G.P b ∨ b = a, G.io⟩
section
variable {G : Gh} {F H F' H' : Hp} {σ σ' : L2.St} {en en' : En} {a : Addr} {ds : List D}
theorem Aside.plus (T : Aside K G F H σ en a ds) (R : Rel K G F H σ en) : Rel K (G.plus H a) F H σ en :=
  { R with
    pr := fun b z => by
      by_cases h : b = a
      · subst h
        obtain ⟨vs, k, _⟩ := T.at_
        show H b = (if b = b then H b else G.H0 b) ∧ (if b = b then H b else G.H0 b) ≠ none ∧ _
        rw [if_pos rfl]
        exact ⟨rfl, by rw [k]; simp, fun _ => T.nf⟩
      · show H b = (if b = a then H a else G.H0 b) ∧ (if b = a then H a else G.H0 b) ≠ none ∧ _
        rw [if_neg h]
        exact R.pr b (z.elim id fun q => absurd q h)
    ow := fun i b d e => by
      obtain ⟨c, h1, h2, h3, h4, h5⟩ := R.ow i b d e
      exact ⟨c, h1, h2, h3, fun z => z.elim h4 fun q => T.ns i b d e (by rw [← q]; exact h1), h5⟩ }
theorem Aside.minus (T : Aside K G F H σ en a ds) (h0 : G.F0 a = none) (R : Rel K (G.plus H a) F' H' σ' en') (e : Same F F') : Rel K G F' H' σ' en' ∧ Aside K G F' H' σ' en' a ds := by
  have p := R.pr a (.inr rfl)
  have p1 : H' a = (if a = a then H a else G.H0 a) := p.1
  rw [if_pos rfl] at p1
  have na : F' a = none := p.2.2 h0
  refine ⟨{ R with
    pr := fun b z => ?_
    ow := fun i b d k => ?_ }, na, ?_, T.n0, fun i b d k1 k2 => ?_⟩
  · have hne : b ≠ a := fun q => T.n0.1 (by rw [← q]; exact z)
    have w := R.pr b (.inl z)
    have w1 : H' b = (if b = a then H a else G.H0 b) := w.1
    have w2 : (if b = a then H a else G.H0 b) ≠ none := w.2.1
    rw [if_neg hne] at w1 w2
    exact ⟨w1, w2, w.2.2⟩
  · obtain ⟨c, h1, h2, h3, h4, h5⟩ := R.ow i b d k
    exact ⟨c, h1, h2, h3, fun z => h4 (.inl z), h5⟩
  · obtain ⟨vs, k, l⟩ := T.at_
    exact ⟨vs, p1.trans k, IsL.mono e _ _ l⟩
  · obtain ⟨c, h1, h2, h3, h4, h5⟩ := R.ow i b d k1
    rw [k2] at h1
    cases h1
    exact h4 (.inr rfl)
/-- such a list grows -/
theorem Aside.push (T : Aside K G F H σ en a ds) (R : Rel K G F H σ en) {d : D} {vs : List V} {v : V} (hv : H a = some (.lst vs)) (i : Is K F d v) : Rel K G F (upd H a (.lst (vs ++ [v]))) σ en ∧ Aside K G F (upd H a (.lst (vs ++ [v]))) σ en a (ds ++ [d]) := by
  obtain ⟨ws, k, l⟩ := T.at_
  rw [hv] at k
  cases k
  refine ⟨?_, T.nf, ⟨_, upd_same, l.append (IsL.single i)⟩, T.n0, T.ns⟩
  refine R.step (fun z => z = a) (Same.refl F) (fun c u q => ?_) (fun c k1 k2 => absurd k1 k2) (fun c u q m => by rw [upd_ne m]; exact q) (fun c z => by subst z; exact ⟨T.n0.1, by rw [upd_same]; simp⟩) rfl (fun j f q => .inl q) fun j b f q => ?_
  · have ne : c ≠ a := fun z => by
      subst z
      rw [T.nf] at q
      cases q
    rw [upd_ne ne]
    exact R.le _ _ q
  · obtain ⟨a2, q1, q2, q3, _⟩ := R.ow j b f q
    refine ⟨a2, f, q1, q, q3.move (Same.refl F) (upd_ne fun z => ?_)⟩
    subst z
    exact T.ns j b f q q1
end
def lcD (vs : List Nat) (g : TDG) (c : TDT) (e : TDE) : List D → List D → En → (List D → En → Prop) → Prop
  | [], acc, en, Q => Q acc en
  | d :: ds, acc, en, Q => g d (wipeE en vs) fun en1 => c en1 (fun b en2 => if b = true then e en2 (fun x en3 => acc.length < sizeLine ∧ lcD vs g c e ds (acc ++ [x]) en3 Q) (fun _ _ => False) else lcD vs g c e ds acc en2 Q) fun _ _ => False
/-- [e for t in it if c] -/
def dLc (vs : List Nat) (it : TDI) (g : TDG) (c : TDT) (e : TDE) : TDE := fun en Q Qe => it en (fun ds en1 => lcD vs g c e ds [] (wipeE en1 vs) fun acc en2 => Q (.lst acc) (backE en1 en2 vs)) Qe
abbrev W0 : WX := fun _ _ _ _ => False
theorem xr0 {G : Gh} : XR K W0 G (fun _ _ => False) := fun _ _ _ _ _ _ _ _ _ z => z
def dYes : TDT := fun en Q _ => Q true en
structure DTs (X : Cx) (ifs : List Expr) (t : TT) (d : TDT) : Prop where
  pts : PTs X ifs t
  sim : SimT (kk X) W0 t d
theorem dts_nil : DTs X [] tYes dYes := ⟨pts_nil, fun G F H σ en Q Qd Qe R q x k => k true F H en (Same.refl F) R q⟩
theorem dts_one {c : Expr} {t : TT} {d : TDT} (h : DT X W0 c t d) : DTs X [c] t d := ⟨pts_one h.pt, h.sim⟩
theorem wipe_wipe (σ : L2.St) : ∀ vs : List Nat, wipe (wipe σ vs) vs = wipe σ vs := fun vs => by
  apply List.ext_getElem?
  intro i
  by_cases h : i ∈ vs
  · have e : ∀ (τ : L2.St) (l : List Nat), i ∈ l → i < τ.length → (wipe τ l)[i]? = some none := by
      intro τ l
      induction l with
      | nil => intro m; simp at m
      | cons v l ih =>
        intro m hl
        unfold wipe
        by_cases z : i = v
        · subst z
          rw [List.getElem?_set_self (by rw [wipe_length]; exact hl)]
        · rw [List.getElem?_set_ne (fun q => z q.symm)]
          exact ih (by simpa [z] using m) hl
    by_cases hl : i < σ.length
    · rw [e _ vs h (by rw [wipe_length]; exact hl), e _ vs h hl]
    · rw [List.getElem?_eq_none (by rw [wipe_length, wipe_length]; omega), List.getElem?_eq_none (by rw [wipe_length]; omega)]
  · rw [wipe_get h]
theorem Rel.rewipe {G : Gh} {F H : Hp} {σ σ2 : L2.St} {en : En} {vs : List Nat} (R : Rel K G F H σ2 en) (e : wipe σ2 vs = wipe σ vs) : Rel K G F H (wipe σ vs) (wipeE en vs) := by
  rw [← e]
  exact R.wiped vs
/-- the target of a comprehension stores its own names alone -/
def OwnTg (g : TG) (vs : List Nat) : Prop := ∀ x τ H (Q : L2.St → Hp → Prop), g x τ H (fun σ2 H2 => wipe σ2 vs = wipe τ vs → Q σ2 H2) → g x τ H fun σ2 H2 => wipe σ2 vs = wipe τ vs ∧ Q σ2 H2
theorem wipe_set {σ : L2.St} {i : Nat} {x : Option V} : ∀ {vs : List Nat}, i ∈ vs → wipe (σ.set i x) vs = wipe σ vs
  | v :: vs, h => by
    unfold wipe
    by_cases z : i = v
    · subst z
      by_cases m : i ∈ vs
      · rw [wipe_set m]
      · have e : ∀ (l : List Nat), i ∉ l → wipe (σ.set i x) l = (wipe σ l).set i x := by
          intro l
          induction l with
          | nil => intro _; rfl
          | cons u l ih =>
            intro hm
            simp only [List.mem_cons, not_or] at hm
            unfold wipe
            rw [ih hm.2, List.set_comm _ _ hm.1]
        rw [e vs m, List.set_set]
    · rw [wipe_set (by simpa [z] using h)]
theorem own_name {i : Nat} {vs : List Nat} (h : i ∈ vs) : OwnTg (gName i) vs := fun x τ H Q q => ⟨wipe_set h, q (wipe_set h)⟩
theorem do_lc {elt tg iter : Expr} {ifs : List Expr} {scope : Scope} {own : List (Str × Nat)} {pos : Pos} {wi : TI} {di : TDI} {g : TG} {gd : TDG} {tt : TT} {td : TDT} {te : TE} {ed : TDE} (hc : X.calm = true) (hN : X.N.Nodup) (hi : DI X W tg iter wi di) (ok : BlkOk X.N X.env.scope scope own)
    (ho : OwnTg g (own.map (·.2)))
    (hg0 : DG (X.blk X.s_0 X.H_0 scope (compEnvC scope [] 0 X.env) []) tg g gd) (hg : ∀ (s : Shared) (H : Hp) (C : Addr) (cl : List (Str × Addr)) (fp : List Addr), DG (X.blk s H scope (compEnvC scope cl C X.env) fp) tg g gd) (ht0 : DTs (X.blk X.s_0 X.H_0 scope (compEnvC scope [] 0 X.env) []) ifs tt td) (ht : ∀ (s : Shared) (H : Hp) (C : Addr) (cl : List (Str × Addr)) (fp : List Addr), DTs (X.blk s H scope (compEnvC scope cl C X.env) fp) ifs tt td)
    (he0 : DE (X.blk X.s_0 X.H_0 scope (compEnvC scope [] 0 X.env) []) W0 elt te ed) (he : ∀ (s : Shared) (H : Hp) (C : Addr) (cl : List (Str × Addr)) (fp : List Addr), DE (X.blk s H scope (compEnvC scope cl C X.env) fp) W0 elt te ed) (hs : ∀ x, foldedSetIterable iter X.env x = pure x := by intro _; rfl) :
    DO X W (.ListComp elt [⟨tg, iter, ifs, 0⟩] scope pos) (tLc wi g tt te (own.map (·.2))) (dLc (own.map (·.2)) di gd td ed) :=
  ⟨pe_lc hc hN hi.pi ok (fun s H C cl fp => (hg s H C cl fp).pg) (fun s H C cl fp => (ht s H C cl fp).pts) (fun s H C cl fp => (he s H C cl fp).pe) hs, fun G F H σ en Q Qd Qe R q x k => by
    have sg : SimG (kk X) g gd := (hg X.s_0 X.H_0 0 [] []).sim
    have st : SimT (kk X) W0 tt td := (ht X.s_0 X.H_0 0 [] []).sim
    have se : Sim (kk X) W0 te ed := (he X.s_0 X.H_0 0 [] []).sim
    generalize own.map (·.2) = vs at ho q k ⊢
    refine hi.sim G F H σ en _ _ Qe R q x fun J ds F1 H1 en1 e1 R1 it q1 D hD => ?_
    have n1 : F1 D = none := R1.free hD
    have n0 : G.F0 D = none := R1.f0.free n1
    have R1' : Rel (kk X) G F1 (upd H1 D (.lst [])) (wipe σ vs) (wipeE en1 vs) := (R1.fresh hD).wiped vs
    have T1 : Aside (kk X) G F1 (upd H1 D (.lst [])) (wipe σ vs) (wipeE en1 vs) D [] := ⟨n1, ⟨[], upd_same, rfl⟩, R1.free0 hD, fun i b e h1 h2 => by
      obtain ⟨h3, h4⟩ := wipeE_get h1
      rw [wipe_get h4] at h2
      obtain ⟨a', k1, _, k3, _⟩ := R1.ow i b e h3
      rw [h2] at k1
      cases k1
      exact k3.there hD⟩
    refine ⟨fun i m H => m = ds.length - i ∧ i ≤ ds.length ∧ ∃ F en acc, Same F1 F ∧ Rel (kk X) G F H (wipe σ vs) (wipeE en vs) ∧ Aside (kk X) G F H (wipe σ vs) (wipeE en vs) D acc ∧ lcD vs gd td ed (ds.drop i) acc en fun acc en2 => Qd (.lst acc) (backE en1 en2 vs), ⟨ds.length, by simp, Nat.zero_le _, F1, wipeE en1 vs, [], Same.refl _, ?_, ?_, q1⟩, ?_⟩
    · have := R1'.wiped vs
      rwa [wipe_wipe] at this
    · refine ⟨n1, T1.at_, T1.n0, fun i b e h1 h2 => T1.ns i b e (wipeE_get h1).1 h2⟩
    rintro i m H ⟨rfl, hi, F2, en2, acc, e2, R2, T2, q2⟩
    by_cases hlt : i < ds.length
    · refine .inr ⟨it.go i F2 H e2 R2.le hlt, fun H' => ∃ F en acc, Same F1 F ∧ Rel (kk X) G F H' (wipe σ vs) (wipeE en vs) ∧ Aside (kk X) G F H' (wipe σ vs) (wipeE en vs) D acc ∧ lcD vs gd td ed (ds.drop (i + 1)) acc en fun acc en2 => Qd (.lst acc) (backE en1 en2 vs),
        fun H' ⟨F3, en3, acc3, e3, R3, T3, q3⟩ => ⟨ds.length - (i + 1), by omega, rfl, hlt, F3, en3, acc3, e3, R3, T3, q3⟩, fun x H' y => ?_⟩
      -- the turn, with the new list aside
      have R2p := T2.plus R2
      obtain ⟨F3, e3, R3, d, hd, id⟩ := it.yld i (G.plus H D) F2 H (wipe σ vs) _ x H' e2 R2p hlt y
      have hd' : ds[i] = d := by rw [List.getElem?_eq_getElem hlt] at hd; exact Option.some.inj hd
      rw [List.drop_eq_getElem_cons hlt, hd'] at q2
      have og := ho x (wipe σ vs) H'
      rw [wipe_wipe] at og
      refine og _ ?_
      refine sg (G.plus H D) F3 H' (wipe σ vs) _ d x _ _ R3 id q2 fun F4 H4 σ4 en4 e4 R4 q4 hw => ?_
      refine st (G.plus H D) F4 H4 σ4 en4 _ _ _ R4 q4 xr0 fun b F5 H5 en5 e5 R5 q5 => ?_
      have e25 : Same F2 F5 := (e3.trans e4).trans e5
      cases b with
      | false =>
        obtain ⟨R6, T6⟩ := T2.minus n0 R5 e25
        refine ⟨F5, en5, acc, e2.trans e25, R6.rewipe hw, ⟨T6.nf, T6.at_, T6.n0, fun i b e h1 h2 => ?_⟩, q5⟩
        obtain ⟨h3, h4⟩ := wipeE_get h1
        rw [wipe_get h4] at h2
        have h5 : (wipe σ4 vs)[i]? = (wipe σ vs)[i]? := by rw [hw]
        rw [wipe_get h4, wipe_get h4, h2] at h5
        exact T6.ns i b e h3 h5
      | true =>
        refine se (G.plus H D) F5 H5 σ4 en5 _ _ _ R5 q5 xr0 fun z dz F6 H6 en6 e6 R6 i6 q6 => ?_
        obtain ⟨R7, T7⟩ := T2.minus n0 R6 (e25.trans e6)
        obtain ⟨vs', hv, lv⟩ := T7.at_
        obtain ⟨R8, T8⟩ := T7.push R7 hv i6
        refine ⟨vs', hv, by rw [lv.length]; exact q6.1, F6, en6, acc ++ [dz], e2.trans (e25.trans e6), R8.rewipe hw, ⟨T8.nf, T8.at_, T8.n0, fun i b e h1 h2 => ?_⟩, q6.2⟩
        obtain ⟨h3, h4⟩ := wipeE_get h1
        rw [wipe_get h4] at h2
        have h5 : (wipe σ4 vs)[i]? = (wipe σ vs)[i]? := by rw [hw]
        rw [wipe_get h4, wipe_get h4, h2] at h5
        exact T8.ns i b e h3 h5
    · have e : i = ds.length := by omega
      subst e
      rw [List.drop_length] at q2
      refine .inl ⟨it.stop F2 H e2 R2.le, ?_⟩
      have R3 := R1.back (en := wipeE en2 vs) e2 R2
      have eb : backE en1 (wipeE en2 vs) vs = backE en1 en2 vs := backE_wipe
      rw [eb] at R3
      refine k D _ F2 H _ (e1.trans e2) R3 ⟨T2.nf, ?_, T2.n0, fun i b e h1 h2 => ?_⟩ q2
      · obtain ⟨vs', hv, lv⟩ := T2.at_
        exact ⟨vs', hv, lv⟩
      · rw [← eb] at h1
        rcases backE_fz h1 with ⟨n1, m1⟩ | ⟨_, d', z, _⟩
        · exact T2.ns i b e m1 (by rw [wipe_get n1]; exact h2)
        · cases z⟩
end
end DL

/-! The D layer, part 8: more statements, isinstance by tables, what the head tells. -/
namespace DL
open PySem L2

section
variable {X : Cx} {W : WX} {K : KW}
theorem sim_set {i : Nat} {te : TE} {td : TDE} (h : Sim K W te td) : SimS K W (tAsg te (gName i)) (dSet i td) := fun G F H σ en D' B R q k => h G F H σ en _ _ _ R q k.ex fun v d F1 H1 en1 e1 R1 i1 q1 => k.nx F1 H1 _ _ (R1.put i1) q1
def tGS (t : TS) : TS := fun D σ H => t { D with nx := fun σ' H' => Lk (D.nx σ') H' } σ H
theorem ps_GS {X : Cx} {st : Stmt} {t : TS} (h : PS X st t) : PS X st (tGS t) := by
  refine ⟨fun pins s σ H D I hw => ?_⟩
  refine thn (h.run pins s σ _ _ I hw) fun f s1 q => ?_
  cases f with
  | next => obtain ⟨σ', H', I2, q⟩ := q; obtain ⟨H2, I3, q3⟩ := lk_inv q I2; exact ⟨σ', H2, I3, q3⟩
  | brk => exact q
  | cont => exact q
  | ret v => exact q
theorem sim_setG {i : Nat} {te : TE} {td : TDE} (h : SimO K W te td) : SimS K W (tGS (tAsg te (gName i))) (dSet i td) := fun G F H σ en D' B R q k => h G F H σ en _ _ _ R q k.ex fun a d F1 H1 en1 e1 R1 T1 q1 => T1.freeze R1 fun F2 H2 e2 R2 i2 => k.nx F2 H2 _ _ (R2.put i2) q1
theorem sim_setO {i : Nat} {te : TE} {td : TDE} (h : SimO K W te td) : SimS K W (tAsg te (gName i)) (dSetO i td) := fun G F H σ en D' B R q k => h G F H σ en _ _ _ R q k.ex fun a d F1 H1 en1 e1 R1 T1 q1 => k.nx F1 H1 _ _ (R1.putO T1) q1
section
variable {i : Nat} {y : Str} {py : Pos} {elt tg iter : Expr} {ifs : List Expr} {scope : Scope} {own : List (Str × Nat)} {pos spos : Pos} {wi : TI} {di : TDI} {g : TG} {gd : TDG} {tt : TT} {td : TDT} {te : TE} {ed : TDE}
/-- y = [..] on one line -/
theorem ps_lcS (hc : X.calm = true) (hN : X.N.Nodup) (hy : X.N[i]? = some y) (hyl : X.env.scope.names.lookup y = some .local) (hsw : swapsWith (.ListComp elt [⟨tg, iter, ifs, 0⟩] scope pos) (some (.Name y py)) spos.line X.env = pure true) (hi : DI X W tg iter wi di) (ok : BlkOk X.N X.env.scope scope own)
    (ho : OwnTg g (own.map (·.2)))
    (hg0 : DG (X.blk X.s_0 X.H_0 scope (compEnvC scope [] 0 X.env) []) tg g gd) (hg : ∀ (s : Shared) (H : Hp) (C : Addr) (cl : List (Str × Addr)) (fp : List Addr), DG (X.blk s H scope (compEnvC scope cl C X.env) fp) tg g gd) (ht0 : DTs (X.blk X.s_0 X.H_0 scope (compEnvC scope [] 0 X.env) []) ifs tt td) (ht : ∀ (s : Shared) (H : Hp) (C : Addr) (cl : List (Str × Addr)) (fp : List Addr), DTs (X.blk s H scope (compEnvC scope cl C X.env) fp) ifs tt td)
    (he0 : DE (X.blk X.s_0 X.H_0 scope (compEnvC scope [] 0 X.env) []) W0 elt te ed) (he : ∀ (s : Shared) (H : Hp) (C : Addr) (cl : List (Str × Addr)) (fp : List Addr), DE (X.blk s H scope (compEnvC scope cl C X.env) fp) W0 elt te ed) (hs : ∀ x, foldedSetIterable iter X.env x = pure x := by intro _; rfl) :
    PS X (.Assign [.Name y py] (.ListComp elt [⟨tg, iter, ifs, 0⟩] scope pos) spos) (tAsg (tLc wi g tt te (own.map (·.2))) (gName i)) ∧ SimO (kk X) W (tLc wi g tt te (own.map (·.2))) (dLc (own.map (·.2)) di gd td ed) :=
  ⟨ps_setLc hc hN hy hyl hsw hi.pi ok (fun s H C cl fp => (hg s H C cl fp).pg) (fun s H C cl fp => (ht s H C cl fp).pts) (fun s H C cl fp => (he s H C cl fp).pe) hs, (do_lc (pos := pos) hc hN hi ok ho hg0 hg ht0 ht he0 he hs).sim⟩
theorem ds_lc (h : PS X (.Assign [.Name y py] (.ListComp elt [⟨tg, iter, ifs, 0⟩] scope pos) spos) (tAsg (tLc wi g tt te (own.map (·.2))) (gName i)) ∧ SimO (kk X) W (tLc wi g tt te (own.map (·.2))) (dLc (own.map (·.2)) di gd td ed)) :
    DS X W (.Assign [.Name y py] (.ListComp elt [⟨tg, iter, ifs, 0⟩] scope pos) spos) (tGS (tAsg (tLc wi g tt te (own.map (·.2))) (gName i))) (dSet i (dLc (own.map (·.2)) di gd td ed)) := ⟨ps_GS h.1, sim_setG h.2⟩
theorem ds_lcO (h : PS X (.Assign [.Name y py] (.ListComp elt [⟨tg, iter, ifs, 0⟩] scope pos) spos) (tAsg (tLc wi g tt te (own.map (·.2))) (gName i)) ∧ SimO (kk X) W (tLc wi g tt te (own.map (·.2))) (dLc (own.map (·.2)) di gd td ed)) :
    DS X W (.Assign [.Name y py] (.ListComp elt [⟨tg, iter, ifs, 0⟩] scope pos) spos) (tAsg (tLc wi g tt te (own.map (·.2))) (gName i)) (dSetO i (dLc (own.map (·.2)) di gd td ed)) := ⟨h.1, sim_setO h.2⟩
end
end

/-! ### isinstance by tables -/
def inCs (cs : List String) (b : Bool) (C : String) : Option Bool := if C ∈ cs then some b else none
def isiInt (cs : List String) : D → Option Bool
  | .int _ => some true | .bl _ => some true | .obj C _ _ => inCs cs false C
  | _ => some false
def isiBool (cs : List String) : D → Option Bool
  | .bl _ => some true | .obj C _ _ => inCs cs false C
  | _ => some false
def isiStr (cs : List String) : D → Option Bool
  | .str _ => some true | .obj C _ _ => inCs cs false C
  | _ => some false
def isiTup (cs : List String) : D → Option Bool
  | .tup _ => some true | .obj C _ _ => inCs cs false C
  | _ => some false
def isiLst (cs : List String) : D → Option Bool
  | .lst _ => some true | .lck _ => some true | .obj C _ _ => inCs cs false C
  | _ => some false
def isiDct (cs : List String) : D → Option Bool
  | .dct _ _ => some true | .obj C _ _ => inCs cs false C
  | _ => some false
/-- an own class: subs, it and those below it; cs, the others -/
def isiCls (subs cs : List String) : D → Option Bool
  | .obj C _ _ => if C ∈ subs then some true else inCs cs false C
  | _ => some false
def isiCB (K : Fg) (C : Addr) : Bool := PySem.W.plainGet K C Str.empty && (PySem.W.hasDictIn K C && (PySem.W.plainOver K C && (He.eqO (PySem.W.findIn K (.ref C) "__setattr__") (some (some (.builtin "object.__setattr__"))) &&
  (He.eqO (PySem.W.findIn K (.ref C) "__class__") (some (some (.builtin "object.__class__"))) && (He.eqO (PySem.W.specialIn K (.builtin "object.__class__") "__get__") (some (some (.builtin "getset_descriptor.__get__"))) &&
  (decide (PySem.W.takesIn K (.builtin "object.__class__") = some true) && decide (PySem.W.mroIn K C (.type "object") = some true)))))))
theorem isiCB_ok {K : Fg} {C : Addr} (h : isiCB K C = true) : IsiC K C := by
  obtain ⟨h1, h⟩ := He.ba h
  obtain ⟨h2, h⟩ := He.ba h
  obtain ⟨h3, h⟩ := He.ba h
  obtain ⟨h4, h⟩ := He.ba h
  obtain ⟨h5, h⟩ := He.ba h
  obtain ⟨h6, h⟩ := He.ba h
  obtain ⟨h7, h8⟩ := He.ba h
  exact ⟨⟨h1, h2, h3, He.eqO_ok h4⟩, He.eqO_ok h5, He.eqO_ok h6, of_decide_eq_true h7, of_decide_eq_true h8⟩
def kindsD (cs : List String) : List D := [D.non, .bl true, .int 0, .str Str.empty, .tup [], .lst [], .lck [], .dct [] []] ++ cs.map fun C => D.obj C [] []
/-- the answers for the kinds of data, for the own classes -/
def isiChk (K : Fg) (c : Value) (b : D → Option Bool) (cs : List String) : Bool :=
  (kindsD cs).all fun d => match b d with
    | some k => decide (PySem.W.kitOne K (tyVal K (tyD d)) c = some k) && (match d with
      | .obj C _ _ => isiCB K (He.ga K C)
      | _ => true)
    | none => true
theorem isi_at {K : Fg} {c : Value} {b : D → Option Bool} {cs : List String} (h : isiChk K c b cs = true) {d d' : D} {k : Bool} (m : d' ∈ kindsD cs)
    (e : tyD d = tyD d') (eb : b d = b d') (hk : b d = some k) : PySem.W.kitOne K (tyVal K (tyD d)) c = some k ∧ ∀ C ns vs, d' = .obj C ns vs → IsiC K (He.ga K C) := by
  have h1 := List.all_eq_true.mp h d' m
  rw [← eb, hk] at h1
  obtain ⟨h2, h3⟩ := He.ba h1
  rw [e]
  refine ⟨of_decide_eq_true h2, fun C ns vs q => ?_⟩
  subst q
  exact isiCB_ok h3
theorem isi_ok {K : Fg} {c : Value} {b : D → Option Bool} {cs : List String} (h : isiChk K c b cs = true) (u1 : ∀ x, b (.bl x) = b (.bl true)) (u2 : ∀ x, b (.int x) = b (.int 0)) (u3 : ∀ x, b (.str x) = b (.str Str.empty)) (u4 : ∀ x, b (.tup x) = b (.tup [])) (u5 : ∀ x, b (.lst x) = b (.lst []))
    (u6 : ∀ x, b (.lck x) = b (.lck [])) (u7 : ∀ x y, b (.dct x y) = b (.dct [] [])) (u8 : ∀ C x y, b (.obj C x y) = b (.obj C [] [])) (u9 : ∀ C k, b (.obj C [] []) = some k → C ∈ cs) : IsiOk K c b := by
  intro d k hk
  cases d with
  | non => exact ⟨(isi_at (d := .non) h (d' := .non) (by simp [kindsD]) rfl rfl hk).1, fun _ _ _ z => nomatch z⟩
  | bl x => exact ⟨(isi_at (d := .bl x) h (d' := .bl true) (by simp [kindsD]) rfl (u1 x) hk).1, fun _ _ _ z => nomatch z⟩
  | int x => exact ⟨(isi_at (d := .int x) h (d' := .int 0) (by simp [kindsD]) rfl (u2 x) hk).1, fun _ _ _ z => nomatch z⟩
  | str x => exact ⟨(isi_at (d := .str x) h (d' := .str Str.empty) (by simp [kindsD]) rfl (u3 x) hk).1, fun _ _ _ z => nomatch z⟩
  | tup x => exact ⟨(isi_at (d := .tup x) h (d' := .tup []) (by simp [kindsD]) rfl (u4 x) hk).1, fun _ _ _ z => nomatch z⟩
  | lst x => exact ⟨(isi_at (d := .lst x) h (d' := .lst []) (by simp [kindsD]) rfl (u5 x) hk).1, fun _ _ _ z => nomatch z⟩
  | lck x => exact ⟨(isi_at (d := .lck x) h (d' := .lck []) (by simp [kindsD]) rfl (u6 x) hk).1, fun _ _ _ z => nomatch z⟩
  | dct x y => exact ⟨(isi_at (d := .dct x y) h (d' := .dct [] []) (by simp [kindsD]) rfl (u7 x y) hk).1, fun _ _ _ z => nomatch z⟩
  | obj C x y =>
    have hC : C ∈ cs := u9 C k (by rw [← u8 C x y]; exact hk)
    obtain ⟨h1, h2⟩ := isi_at (d := .obj C x y) h (d' := .obj C [] []) (by simp [kindsD, hC]) rfl (u8 C x y) hk
    exact ⟨h1, fun C' ns vs z => by cases z; exact h2 C [] [] rfl⟩
theorem inCs_of {cs : List String} {b : Bool} {C : String} {k : Bool} (h : inCs cs b C = some k) : C ∈ cs := by
  unfold inCs at h
  split at h
  · assumption
  · cases h
section
variable {K : Fg} {cs subs : List String} {c : Value}
theorem isiInt_ok (h : isiChk K c (isiInt cs) cs = true) : IsiOk K c (isiInt cs) := isi_ok h (fun _ => rfl) (fun _ => rfl) (fun _ => rfl) (fun _ => rfl) (fun _ => rfl) (fun _ => rfl) (fun _ _ => rfl) (fun _ _ _ => rfl) fun _ _ z => inCs_of z
theorem isiBool_ok (h : isiChk K c (isiBool cs) cs = true) : IsiOk K c (isiBool cs) := isi_ok h (fun _ => rfl) (fun _ => rfl) (fun _ => rfl) (fun _ => rfl) (fun _ => rfl) (fun _ => rfl) (fun _ _ => rfl) (fun _ _ _ => rfl) fun _ _ z => inCs_of z
theorem isiStr_ok (h : isiChk K c (isiStr cs) cs = true) : IsiOk K c (isiStr cs) := isi_ok h (fun _ => rfl) (fun _ => rfl) (fun _ => rfl) (fun _ => rfl) (fun _ => rfl) (fun _ => rfl) (fun _ _ => rfl) (fun _ _ _ => rfl) fun _ _ z => inCs_of z
theorem isiTup_ok (h : isiChk K c (isiTup cs) cs = true) : IsiOk K c (isiTup cs) := isi_ok h (fun _ => rfl) (fun _ => rfl) (fun _ => rfl) (fun _ => rfl) (fun _ => rfl) (fun _ => rfl) (fun _ _ => rfl) (fun _ _ _ => rfl) fun _ _ z => inCs_of z
theorem isiLst_ok (h : isiChk K c (isiLst cs) cs = true) : IsiOk K c (isiLst cs) := isi_ok h (fun _ => rfl) (fun _ => rfl) (fun _ => rfl) (fun _ => rfl) (fun _ => rfl) (fun _ => rfl) (fun _ _ => rfl) (fun _ _ _ => rfl) fun _ _ z => inCs_of z
theorem isiDct_ok (h : isiChk K c (isiDct cs) cs = true) : IsiOk K c (isiDct cs) := isi_ok h (fun _ => rfl) (fun _ => rfl) (fun _ => rfl) (fun _ => rfl) (fun _ => rfl) (fun _ => rfl) (fun _ _ => rfl) (fun _ _ _ => rfl) fun _ _ z => inCs_of z
theorem isiCls_ok (h : isiChk K c (isiCls subs cs) (subs ++ cs) = true) : IsiOk K c (isiCls subs cs) := isi_ok h (fun _ => rfl) (fun _ => rfl) (fun _ => rfl) (fun _ => rfl) (fun _ => rfl) (fun _ => rfl) (fun _ _ => rfl) (fun _ _ _ => rfl) fun C k z => by
  have z : (if C ∈ subs then some true else inCs cs false C) = some k := z
  split at z
  · exact List.mem_append_left _ (by assumption)
  · exact List.mem_append_right _ (inCs_of z)
end

/-! ### the head's facts -/
/-- a def as it stands behind the top: where, its row's own text -/
structure DefX where
  at_ : Fg → Addr
  name : Str
  qual : Str
  params : Arguments
  body : List Stmt
  scope : Scope
  dfl : List He.Dv := []
  kwd : List (Str × He.Dv) := []
def fnAt (K : Fg) (a : Addr) : He.FnW := match K.lookup a with
  | some ⟨_, _, .func fd, _⟩ => some (fd.name, fd.qualname, fd.params, fd.body, fd.scope, fd.globals, fd.closure, fd.builtins)
  | _ => none
def DefX.val (d : DefX) : He.FnW := some (d.name, d.qual, d.params, .stmts d.body, d.scope, mainGlobals, [], builtinsNs)
def DefX.dvs (K : Fg) (d : DefX) : List V := d.dfl.map (He.Dv.v K)
def DefX.kws (K : Fg) (d : DefX) : List (Str × V) := d.kwd.map fun q => (q.1, q.2.v K)
def DefX.ok (K : Fg) (d : DefX) : Bool := PySem.W.keepIn K (.ref (d.at_ K)) && (match K.lookup (d.at_ K) with
  | some ⟨_, _, .func fd, _⟩ => PySem.W.codeIn K fd.code d.qual && (He.dflB K fd.defaults (d.dvs K) && He.kwdB K fd.kwdefaults (d.kws K))
  | _ => false)
theorem DefX.funD {K : Fg} {d : DefX} (e : fnAt K (d.at_ K) = d.val) (c : d.ok K = true) : ∃ fd, FunD K d.name d.qual d.params d.body d.scope (d.dvs K) (d.kws K) (d.at_ K) fd := by
  obtain ⟨kp, c2⟩ := He.ba c
  unfold fnAt at e
  cases q : K.lookup (d.at_ K) with
  | none => rw [q] at c2; cases c2
  | some o =>
    obtain ⟨oc, od, dt, osl⟩ := o
    rw [q] at c2 e
    cases dt with
    | func fd =>
      obtain ⟨n1, n2, n3, n4, n5, n6, n7, n8, n9, n10, n11, n12, n13, n14, n15⟩ := fd
      have e2 : (some (n1, n2, n3, n4, n5, n6, n7, n15) : He.FnW) = some (d.name, d.qual, d.params, .stmts d.body, d.scope, mainGlobals, [], builtinsNs) := e
      simp only [Option.some.injEq, Prod.mk.injEq] at e2
      obtain ⟨h1, h2, h3, h4, h5, h6, h7, h8⟩ := e2
      subst h1 h2 h3 h4 h5 h6 h7 h8
      obtain ⟨k1, k2⟩ := He.ba (show (PySem.W.codeIn K n13 d.qual && (He.dflB K n8 (d.dvs K) && He.kwdB K n9 (d.kws K))) = true from c2)
      obtain ⟨k3, k4⟩ := He.ba k2
      exact ⟨_, ⟨oc, od, n8, n9, n10, n11, n12, n13, n14, osl, rfl, q, k1, He.dflB_ok k3, He.kwdB_ok k4⟩, kp⟩
    | _ => cases c2
abbrev AlX : Type := (Bool × List He.FnW) × List (Option (List (Option (Str × Int))))
def obsX (fx : List (Fg → Bool)) (fn : List DefX) (ts : List He.Tab) (K : Fg) : AlX := (((fx.all fun f => f K) && fn.all fun d => d.ok K, fn.map fun d => fnAt K (d.at_ K)), ts.map fun t => He.dicW K (t.1 K))
def valX (fn : List DefX) (ts : List He.Tab) (w : World) : AlX := ((true, fn.map DefX.val), ts.map fun t => some (He.keysIn w.params t.2))
def SaysX (fx : List (Fg → Bool)) (fn : List DefX) (ts : List He.Tab) (w : World) (K : Fg) : Prop := obsX fx fn ts K = valX fn ts w
def obsXG (n : Nat) (fx : List (Fg → Bool)) (fn : List DefX) (ts : List He.Tab) (g : Addr → Option Obj) : AlX := obsX fx fn ts (He.frG g (He.asD g n ++ [PySem.cStatics]))
def hookX (n : Nat) (fx : List (Fg → Bool)) (fn : List DefX) (ts : List He.Tab) : PySem.W.Hook where
  α := AlX
  obs := fun s => obsXG n fx fn ts s.heap.get?
  val := fun w => valX fn ts w
  says := fun w h => ∃ K : Fg, K.In h ∧ SaysX fx fn ts w K
  of := fun _ _ e => ⟨_, He.frG_in, e⟩
  keeps := fun _ _ _ ⟨K, hK, c⟩ k => ⟨K, PySem.W.Frag.In.keeps hK k, c⟩
theorem obsXG_eq {n : Nat} {fx : List (Fg → Bool)} {fn : List DefX} {ts : List He.Tab} {g : Addr → Option Obj} {s : Shared} (h : ∀ a, g a = s.heap.get? a) : obsXG n fx fn ts g = (hookX n fx fn ts).obs s := by
  have e : g = s.heap.get? := funext h
  rw [e] <;> rfl
section
variable {fx : List (Fg → Bool)} {fn : List DefX} {ts : List He.Tab} {w : World} {K : Fg}
theorem SaysX.fact (c : SaysX fx fn ts w K) (i : Nat) {f : Fg → Bool} (h : fx[i]? = some f := by rfl) : f K = true := by
  have c1 := (He.ba (show ((fx.all fun f => f K) && fn.all fun d => d.ok K) = true from congrArg (fun z : AlX => z.1.1) c)).1
  exact List.all_eq_true.mp c1 f (List.mem_of_getElem? h)
theorem SaysX.def_ (c : SaysX fx fn ts w K) (i : Nat) {d : DefX} (h : fn[i]? = some d := by rfl) : ∃ fd, FunD K d.name d.qual d.params d.body d.scope (d.dvs K) (d.kws K) (d.at_ K) fd := by
  have c2 := (He.ba (show ((fx.all fun f => f K) && fn.all fun d => d.ok K) = true from congrArg (fun z : AlX => z.1.1) c)).2
  have e : fn.map (fun d => fnAt K (d.at_ K)) = fn.map DefX.val := congrArg (fun z : AlX => z.1.2) c
  have e2 : (fn.map fun d => fnAt K (d.at_ K))[i]? = (fn.map DefX.val)[i]? := by rw [e]
  rw [List.getElem?_map, List.getElem?_map, h] at e2
  exact DefX.funD (Option.some.inj e2) (List.all_eq_true.mp c2 d (List.mem_of_getElem? h))
theorem SaysX.tab (c : SaysX fx fn ts w K) (i : Nat) {t : He.Tab} (h : ts[i]? = some t := by rfl) : ∃ es n, KDict K w (t.1 K) es n := by
  have e : ts.map (fun t => He.dicW K (t.1 K)) = ts.map fun t => some (He.keysIn w.params t.2) := congrArg (fun z : AlX => z.2) c
  have e2 : (ts.map fun t => He.dicW K (t.1 K))[i]? = (ts.map fun t => some (He.keysIn w.params t.2))[i]? := by rw [e]
  rw [List.getElem?_map, List.getElem?_map, h] at e2
  exact He.dicW_ok (Option.some.inj e2)
end
/-- the facts, with the module's names -/
def TX (fx : List (Fg → Bool)) (fn : List DefX) (ts : List He.Tab) (w : World) (K : Fg) (mg : Str → Option Value) : Prop := ∃ h : Heap, K.In h ∧ h.Ns mainGlobals mg ∧ SaysX fx fn ts w K
/-- where a property's getter, a static method's def stands -/
def prA (K : Fg) (C f : Str) : Addr := match PySem.W.recIn K (He.ma K (He.ga K C) f) "property" with
  | some (.ref g :: _) => g
  | _ => 0
def stA (K : Fg) (C f : Str) : Addr := match PySem.W.recIn K (stP K C f) "staticmethod" with
  | some (.ref g :: _) => g
  | _ => 0
where stP (K : Fg) (C f : Str) : Addr := match PySem.W.findCls K (.ref (He.ga K C)) (.type "type") f with
  | some (.get _ (.ref p) _ _) => p
  | _ => 0
def prB (C f : Str) (K : Fg) : Bool := He.eqO (PySem.W.findIn K (.ref (He.ga K C)) f) (some (some (.ref (He.ma K (He.ga K C) f)))) && (He.eqO (PySem.W.specialIn K (.ref (He.ma K (He.ga K C) f)) "__get__") (some (some (.builtin "property.__get__"))) &&
  (decide (PySem.W.takesIn K (.ref (He.ma K (He.ga K C) f)) = some true) && (match PySem.W.recIn K (He.ma K (He.ga K C) f) "property" with
    | some (.ref _ :: _) => true
    | _ => false)))
theorem prB_ok {K : Fg} {C f : Str} (h : prB C f K = true) : PropOf K (He.ga K C) f (He.ma K (He.ga K C) f) (prA K C f) := by
  obtain ⟨h1, h⟩ := He.ba h
  obtain ⟨h2, h⟩ := He.ba h
  obtain ⟨h3, h4⟩ := He.ba h
  refine ⟨He.eqO_ok h1, He.eqO_ok h2, of_decide_eq_true h3, ?_⟩
  unfold prA
  split at h4
  · rename_i g rest e
    rw [e]
    exact ⟨rest, rfl⟩
  · cases h4
def stB (C f : Str) (K : Fg) : Bool := PySem.W.readsIn K (He.ga K C) (.type "type") && (He.eqO (PySem.W.specialIn K (.ref (He.ga K C)) "__getattribute__") (some (some (.builtin "type.__getattribute__"))) && ((match PySem.W.findCls K (.ref (He.ga K C)) (.type "type") f with
  | some (.get g (.ref _) o t) => decide (g = .builtin "staticmethod.__get__") && (decide (o = .none) && decide (t = .ref (He.ga K C)))
  | _ => false) && ((match PySem.W.recIn K (stA.stP K C f) "staticmethod" with
    | some (.ref _ :: _) => true
    | _ => false) && PySem.W.keepIn K (.ref (stA K C f)))))
theorem stB_ok {K : Fg} {C f : Str} (h : stB C f K = true) : Stat K (He.ga K C) (.type "type") f (stA.stP K C f) (stA K C f) := by
  obtain ⟨h1, h⟩ := He.ba h
  obtain ⟨h2, h⟩ := He.ba h
  obtain ⟨h3, h⟩ := He.ba h
  obtain ⟨h4, h5⟩ := He.ba h
  refine ⟨⟨h1, He.eqO_ok h2⟩, ?_, ?_, h5⟩
  · unfold stA.stP
    split at h3
    · rename_i g a o t e
      obtain ⟨k1, k⟩ := He.ba h3
      obtain ⟨k2, k3⟩ := He.ba k
      rw [e, of_decide_eq_true k1, of_decide_eq_true k2, of_decide_eq_true k3]
    · cases h3
  · unfold stA
    split at h4
    · rename_i g rest e
      rw [e]
      exact ⟨rest, rfl⟩
    · cases h4
/-- an own operator: the class is first in its order, the method is a def -/
def opB (C m : Str) (K : Fg) : Bool := PySem.W.selfFirst K (He.ga K C) && (He.eqO (PySem.W.findIn K (.ref (He.ga K C)) m) (some (some (.ref (He.ma K (He.ga K C) m)))) && PySem.W.isFn K (.ref (He.ma K (He.ga K C) m)))
theorem opB_ok {K : Fg} {C m : Str} (h : opB C m K = true) : BinOk K (He.ga K C) (He.ma K (He.ga K C) m) m := by
  obtain ⟨h1, h⟩ := He.ba h
  obtain ⟨h2, h3⟩ := He.ba h
  exact ⟨h1, He.eqO_ok h2, h3⟩
theorem BinOk.cmp {K : Fg} {C f : Addr} {m : Str} (h : BinOk K C f m) : CmpOk K C f m := ⟨h.at_, h.fn⟩
/-- the module's tuple of flat values -/
def tupB (x : Str) (vs : List He.Dv) (K : Fg) : Bool := He.tupB K x vs
end DL

/-! The D layer, part 9: what is never reached; a constant tuple's index. -/
namespace DL
open PySem L2

def tNeverE : TE := fun _ _ _ => False
def deNever : TDE := fun _ _ _ => False
section
variable {X : Cx} {W : WX} {K : Fg}
theorem de_never {e : Expr} : DE X W e tNeverE deNever := ⟨⟨fun _ _ _ _ _ _ h => h.elim⟩, fun _ _ _ _ _ _ _ _ _ q => q.elim⟩
theorem fnD_no {P : Program} {w : World} {mg : Str → Option Value} {base : Heap} {k : Nat} {f : Addr} {io : List Nat} : FnD P w K mg base k f io (fun _ _ _ => False) :=
  fun _ _ _ _ _ _ _ _ _ _ _ h => by
    obtain ⟨_, _, _, _, _, _, h, _⟩ := h
    exact h.elim
/-- a constant tuple has no attributes of its own -/
def tupNB (x : Str) (K : Fg) : Bool := match K.lookup (He.ga K x) with
  | some ⟨.type c, .none, _, _⟩ => decide (c = "tuple")
  | _ => false
theorem tupNB_ok {x : Str} {H : Hp} (h : tupNB x K = true) : tyV K "tuple" (.ref (He.ga K x)) H := by
  unfold tupNB at h
  split at h
  · rename_i c _ _ e
    exact .inr (.inl ⟨rfl, _, e, by rw [of_decide_eq_true h], rfl⟩)
  · cases h
def dTupIx (ys : List Str) (e : TDE) : TDE := fun en Q Qe => e en (fun d en1 => ∃ z j, d = .str z ∧ ys[j]? = some z ∧ (∀ m, m < j → ys[m]? ≠ some z) ∧ Q (.int (j : Nat)) en1) Qe
def tTupIx (K : Fg) (y : Str) (te : TE) : TE := tBM K "tuple" (fun x xs H Q => ∃ p, ∃ ys : List Str, ∃ z j, x = .ref p ∧ xs = [.str z] ∧ SqT K H p (ys.map V.str) ∧ ys[j]? = some z ∧ (∀ m, m < j → ys[m]? ≠ some z) ∧ Q (.int (j : Nat)) H) (tC (.ref (He.ga K y))) (tCons te tNil)
theorem de_tupIx {y : Str} {p apos cpos : Pos} {e : Expr} {ys : List Str} {te : TE} {td : TDE} (hg : Gl X y) (hm : X.mg y = some (.ref (He.ga X.K y))) (ht : tupNB y X.K = true) (hs : ∀ F, SqT X.K F (He.ga X.K y) (ys.map V.str)) (ha : DE X W e te td)
    (hd : (y == ("__debug__" : Str)) = false := by decide)
    (hbase : attributeBase (.Name y p) "index" X.env (eval (.Name y p) X.env) = eval (.Name y p) X.env := by rfl)
    (hfew : ((backTo cpos (starEach [e] X.env)).all (fun x => !x.1) && (backToKw cpos (keywordEach [] X.env)).all (fun x => x.1.isSome)
      && decide ([e].length + ([] : List Keyword).length + (if ([] : List Keyword).isEmpty then 0 else 1) < 30)) = true := by rfl)
    (hline : (apos.endLine == cpos.line) = true := by rfl) (hst : starEach [e] X.env = (false, eval e X.env) :: starEach [] X.env := by rfl) (hplain : (backTo cpos (starEach [] X.env)).any (·.1) = false := by rfl) :
    DE X W (.Call (.Attribute (.Name y p) "index" apos) [e] [] cpos) (tTupIx X.K y te) (dTupIx ys td) :=
  ⟨pe_bm PySem.F.plainAttrs_tuple PySem.F.slot_tuple_index PySem.F.type_tuple_index mt_tup_index (pe_const hg hm rfl hd) (pa_cons ha.pe pa_nil hst) hbase hfew hline hst hplain, fun G F H σ en Q Qd Qe R q x k => by
    refine ⟨tupNB_ok ht, ha.sim G F H σ en _ _ Qe R q x fun v d F1 H1 en1 e1 R1 i1 q1 => ?_⟩
    obtain ⟨z, j, rfl, h1, h2, q2⟩ := q1
    cases i1
    exact ⟨_, ys, z, j, rfl, rfl, hs _, h1, h2, k _ (.int (j : Nat)) F1 H1 en1 e1 R1 (by rfl) q2⟩⟩
end
end DL

/-! The D layer, part 10: what the readings unfold to. -/
namespace DL
open PySem L2

/-- ds[k] = d -/
def setD (ds : List D) (k : Int) (d : D) (Q : List D → Prop) : Prop := ∃ m, ixN ds.length k = some m ∧ Q (ds.set m d)
theorem atI_nonneg {α : Type} {l : List α} {i : Int} {j : Nat} (h : i = j) : atI l i = l[j]? := by
  subst h
  unfold atI ixN
  by_cases q : (j : Int) < l.length
  · simp [q]
  · simp only [q]
    have : ¬ j < l.length := by omega
    simp [this]
theorem ixN_nat {n : Nat} {i : Int} {j : Nat} (h : i = j) (h' : j < n) : ixN n i = some j := by
  subst h
  unfold ixN
  have : (j : Int) < n := by omega
  simp [this]
@[simp ↓] theorem r_C {d : D} {en : En} {Q : D → En → Prop} {Qe : Qx} : dC d en Q Qe = Q d en := by rfl
@[simp ↓] theorem r_Var {i : Nat} {en : En} {Q : D → En → Prop} {Qe : Qx} : dVar i en Q Qe = (match en[i]? with | some (some (.fz d)) => Q d en | some (some (.ow false d)) => Q d (en.set i (some (.fz d))) | _ => False) := by rfl
@[simp ↓] theorem r_Give {i : Nat} {en : En} {Q : D → En → Prop} {Qe : Qx} : dGive i en Q Qe = (match en[i]? with | some (some (.ow false d)) => Q d (en.set i none) | _ => False) := by rfl
@[simp ↓] theorem r_Op {rd : RD} {a b : TDE} {en : En} {Q : D → En → Prop} {Qe : Qx} : dOp rd a b en Q Qe = a en (fun x en1 => b en1 (fun y en2 => rd x y fun z => Q z en2) Qe) Qe := by rfl
@[simp ↓] theorem r_Un {rd : UD} {a : TDE} {en : En} {Q : D → En → Prop} {Qe : Qx} : dUn rd a en Q Qe = a en (fun x en1 => rd x fun z => Q z en1) Qe := by rfl
@[simp ↓] theorem r_Test {a : TDE} {en : En} {Q : Bool → En → Prop} {Qe : Qx} : dTest a en Q Qe = a en (fun d en1 => match d with | .bl b => Q b en1 | _ => False) Qe := by rfl
@[simp ↓] theorem r_Tru {a : TDE} {en : En} {Q : Bool → En → Prop} {Qe : Qx} : dTru a en Q Qe = a en (fun d en1 => match truD d with | some b => Q b en1 | none => False) Qe := by rfl
@[simp ↓] theorem r_Yes {en : En} {Q : Bool → En → Prop} {Qe : Qx} : dYes en Q Qe = Q true en := by rfl
@[simp ↓] theorem r_Chain {r1 r2 : RD} {a b c : TDE} {en : En} {Q : D → En → Prop} {Qe : Qx} : dChain r1 r2 a b c en Q Qe = a en (fun x en1 => b en1 (fun y en2 => r1 x y fun z => match z with | .bl true => c en2 (fun w en3 => r2 y w fun u => Q u en3) Qe | .bl false => Q (.bl false) en2 | _ => False) Qe) Qe := by rfl
@[simp ↓] theorem r_And {t u : TDT} {en : En} {Q : Bool → En → Prop} {Qe : Qx} : dAnd t u en Q Qe = t en (fun b en1 => if b = true then u en1 Q Qe else Q false en1) Qe := by rfl
@[simp ↓] theorem r_Or {t u : TDT} {en : En} {Q : Bool → En → Prop} {Qe : Qx} : dOr t u en Q Qe = t en (fun b en1 => if b = true then Q true en1 else u en1 Q Qe) Qe := by rfl
@[simp ↓] theorem r_Not {t : TDT} {en : En} {Q : Bool → En → Prop} {Qe : Qx} : dNot t en Q Qe = t en (fun b en1 => Q (!b) en1) Qe := by rfl
@[simp ↓] theorem r_If {t : TDT} {a b : TDE} {en : En} {Q : D → En → Prop} {Qe : Qx} : dIf t a b en Q Qe = t en (fun c en1 => if c = true then a en1 Q Qe else b en1 Q Qe) Qe := by rfl
@[simp ↓] theorem r_AndV {a b : TDE} {en : En} {Q : D → En → Prop} {Qe : Qx} : dAndV a b en Q Qe = a en (fun d en1 => match truD d with | some true => b en1 Q Qe | some false => Q d en1 | none => False) Qe := by rfl
@[simp ↓] theorem r_OrV {a b : TDE} {en : En} {Q : D → En → Prop} {Qe : Qx} : dOrV a b en Q Qe = a en (fun d en1 => match truD d with | some true => Q d en1 | some false => b en1 Q Qe | none => False) Qe := by rfl
@[simp ↓] theorem r_NotV {a : TDE} {en : En} {Q : D → En → Prop} {Qe : Qx} : dNotV a en Q Qe = a en (fun d en1 => match truD d with | some b => Q (.bl (!b)) en1 | none => False) Qe := by rfl
@[simp ↓] theorem r_Nil {en : En} {Q : List D → En → Prop} {Qe : Qx} : dNil en Q Qe = Q [] en := by rfl
@[simp ↓] theorem r_Cons {a : TDE} {r : TDA} {en : En} {Q : List D → En → Prop} {Qe : Qx} : dCons a r en Q Qe = a en (fun d en1 => r en1 (fun ds en2 => Q (d :: ds) en2) Qe) Qe := by rfl
@[simp ↓] theorem r_Tup {a : TDA} {en : En} {Q : D → En → Prop} {Qe : Qx} : dTup a en Q Qe = a en (fun ds en1 => ds.length ≤ sizeLine ∧ Q (.tup ds) en1) Qe := by rfl
@[simp ↓] theorem r_Lst {a : TDA} {en : En} {Q : D → En → Prop} {Qe : Qx} : dLst a en Q Qe = a en (fun ds en1 => ds.length ≤ sizeLine ∧ Q (.lst ds) en1) Qe := by rfl
@[simp ↓] theorem r_Next {B : DEnds} {en : En} : dNext B en = B.nx en := by rfl
@[simp ↓] theorem r_Seq {t u : TDS} {B : DEnds} {en : En} : dSeq t u B en = t { B with nx := u B } en := by rfl
@[simp ↓] theorem r_IfS {c : TDT} {t u : TDS} {B : DEnds} {en : En} : dIfS c t u B en = c en (fun b en1 => if b = true then t B en1 else u B en1) B.ex := by rfl
@[simp ↓] theorem r_Ret {e : TDE} {B : DEnds} {en : En} : dRet e B en = (B.fr = false ∧ e en B.rt B.ex) := by rfl
@[simp ↓] theorem r_RetO {e : TDE} {B : DEnds} {en : En} : dRetO e B en = (B.fr = true ∧ e en B.rt B.ex) := by rfl
@[simp ↓] theorem r_RetN {B : DEnds} {en : En} : dRetN B en = (B.fr = false ∧ B.rt .non en) := by rfl
@[simp ↓] theorem r_Drop {e : TDE} {B : DEnds} {en : En} : dDrop e B en = e en (fun _ en1 => B.nx en1) B.ex := by rfl
@[simp ↓] theorem r_Break {B : DEnds} {en : En} : dBreak B en = B.bk en := by rfl
@[simp ↓] theorem r_Cont {B : DEnds} {en : En} : dCont B en = B.ct en := by rfl
@[simp ↓] theorem r_Never {B : DEnds} {en : En} : dNever B en = False := by rfl
@[simp ↓] theorem r_deNever {en : En} {Q : D → En → Prop} {Qe : Qx} : deNever en Q Qe = False := by rfl
@[simp ↓] theorem r_Set {i : Nat} {e : TDE} {B : DEnds} {en : En} : dSet i e B en = e en (fun d en1 => B.nx (en1.set i (some (.fz d)))) B.ex := by rfl
@[simp ↓] theorem r_SetO {i : Nat} {e : TDE} {B : DEnds} {en : En} : dSetO i e B en = e en (fun d en1 => B.nx (en1.set i (some (.ow false d)))) B.ex := by rfl
@[simp ↓] theorem r_addI {i j : Int} {Q : D → Prop} : addD (.int i) (.int j) Q = Q (.int (i + j)) := by rfl
@[simp ↓] theorem r_addS {i j : Str} {Q : D → Prop} : addD (.str i) (.str j) Q = (i.length + j.length ≤ sizeLine ∧ Q (.str (i ++ j))) := by rfl
@[simp ↓] theorem r_addL {i j : List D} {Q : D → Prop} : addD (.lst i) (.lst j) Q = (i.length + j.length ≤ sizeLine ∧ Q (.lst (i ++ j))) := by rfl
@[simp ↓] theorem r_addT {i j : List D} {Q : D → Prop} : addD (.tup i) (.tup j) Q = (i.length + j.length ≤ sizeLine ∧ Q (.tup (i ++ j))) := by rfl
@[simp ↓] theorem r_subI {i j : Int} {Q : D → Prop} : subD (.int i) (.int j) Q = Q (.int (i - j)) := by rfl
@[simp ↓] theorem r_mulI {i j : Int} {Q : D → Prop} : mulD (.int i) (.int j) Q = ((CMul i j ∨ CMulW i j) ∧ Q (.int (i * j))) := by rfl
@[simp ↓] theorem r_divI {i j : Int} {Q : D → Prop} : divD (.int i) (.int j) Q = ((CDivN i j ∨ CDivW i j) ∧ Q (.int (i.fdiv j))) := by rfl
@[simp ↓] theorem r_modI {i j : Int} {Q : D → Prop} : modD (.int i) (.int j) Q = (j ≠ 0 ∧ Q (.int (i.fmod j))) := by rfl
@[simp ↓] theorem r_powI {i j : Int} {Q : D → Prop} : powD (.int i) (.int j) Q = (CPow i j ∧ Q (.int (i ^ j.toNat))) := by rfl
@[simp ↓] theorem r_negI {i : Int} {Q : D → Prop} : negD (.int i) Q = Q (.int (-i)) := by rfl
@[simp ↓] theorem r_lt {i j : Int} {Q : D → Prop} : ltD (.int i) (.int j) Q = Q (.bl (decide (i < j))) := by rfl
@[simp ↓] theorem r_le {i j : Int} {Q : D → Prop} : leD (.int i) (.int j) Q = Q (.bl (decide (i ≤ j))) := by rfl
@[simp ↓] theorem r_gt {i j : Int} {Q : D → Prop} : gtD (.int i) (.int j) Q = Q (.bl (decide (j < i))) := by rfl
@[simp ↓] theorem r_ge {i j : Int} {Q : D → Prop} : geD (.int i) (.int j) Q = Q (.bl (decide (j ≤ i))) := by rfl
@[simp ↓] theorem r_isN {n : Bool} {x : D} {Q : D → Prop} : isD n x .non Q = Q (.bl (isNon x != n)) := by rfl
@[simp ↓] theorem r_isB {n b : Bool} {x : D} {Q : D → Prop} : isD n x (.bl b) Q = Q (.bl (isBl b x != n)) := by rfl
@[simp ↓] theorem r_isNon  : isNon .non = true := by rfl
@[simp ↓] theorem r_eqI {i j : Int} {n : Bool} {Q : D → Prop} : eqBD n (.int i) (.int j) Q = Q (.bl (decide (i = j) != n)) := by rfl
@[simp ↓] theorem r_eqS {i j : Str} {n : Bool} {Q : D → Prop} : eqBD n (.str i) (.str j) Q = Q (.bl (decide (i = j) != n)) := by rfl
@[simp ↓] theorem r_eqB {i j : Bool} {n : Bool} {Q : D → Prop} : eqBD n (.bl i) (.bl j) Q = Q (.bl (decide (i = j) != n)) := by rfl
@[simp ↓] theorem r_eqN {n : Bool} {Q : D → Prop} : eqBD n .non .non Q = Q (.bl (true != n)) := by rfl
@[simp ↓] theorem r_eqNI {i : Int} {n : Bool} {Q : D → Prop} : eqBD n .non (.int i) Q = Q (.bl (false != n)) := by rfl
@[simp ↓] theorem r_eqIN {i : Int} {n : Bool} {Q : D → Prop} : eqBD n (.int i) .non Q = Q (.bl (false != n)) := by rfl
@[simp ↓] theorem r_eqSN {i : Str} {n : Bool} {Q : D → Prop} : eqBD n (.str i) .non Q = Q (.bl (false != n)) := by rfl
@[simp ↓] theorem r_eqNS {i : Str} {n : Bool} {Q : D → Prop} : eqBD n .non (.str i) Q = Q (.bl (false != n)) := by rfl
@[simp ↓] theorem r_eqIS {i : Int} {j : Str} {n : Bool} {Q : D → Prop} : eqBD n (.int i) (.str j) Q = Q (.bl (false != n)) := by rfl
@[simp ↓] theorem r_eqSI {i : Int} {j : Str} {n : Bool} {Q : D → Prop} : eqBD n (.str j) (.int i) Q = Q (.bl (false != n)) := by rfl
@[simp ↓ high] theorem r_ixL0 {a : D} {l : List D} {Q : D → Prop} : ixD (.lst (a :: l)) (.int 0) Q = Q a := propext ⟨fun ⟨d, h, q⟩ => by
  rw [atI_nonneg (i := 0) (j := 0) rfl] at h
  cases h
  exact q, fun q => ⟨_, (atI_nonneg (i := 0) (j := 0) rfl).trans rfl, q⟩⟩
@[simp ↓ high] theorem r_ixK0 {a : D} {l : List D} {Q : D → Prop} : ixD (.lck (a :: l)) (.int 0) Q = Q a := propext ⟨fun ⟨d, h, q⟩ => by
  rw [atI_nonneg (i := 0) (j := 0) rfl] at h
  cases h
  exact q, fun q => ⟨_, (atI_nonneg (i := 0) (j := 0) rfl).trans rfl, q⟩⟩
@[simp ↓ high] theorem r_ixT0 {a : D} {l : List D} {Q : D → Prop} : ixD (.tup (a :: l)) (.int 0) Q = Q a := propext ⟨fun ⟨d, h, q⟩ => by
  rw [atI_nonneg (i := 0) (j := 0) rfl] at h
  cases h
  exact q, fun q => ⟨_, (atI_nonneg (i := 0) (j := 0) rfl).trans rfl, q⟩⟩
@[simp ↓ high] theorem r_set0 {a z : D} {l : List D} {Q : List D → Prop} : setD (a :: l) 0 z Q = Q (z :: l) := propext ⟨fun ⟨m, h, q⟩ => by
  rw [ixN_nat (i := 0) (j := 0) rfl (by simp)] at h
  cases h
  exact q, fun q => ⟨0, ixN_nat rfl (by simp), q⟩⟩
@[simp ↓ high] theorem r_ixL1 {a b : D} {l : List D} {Q : D → Prop} : ixD (.lst (a :: b :: l)) (.int 1) Q = Q b := propext ⟨fun ⟨d, h, q⟩ => by
  rw [atI_nonneg (i := 1) (j := 1) rfl] at h
  cases h
  exact q, fun q => ⟨_, (atI_nonneg (i := 1) (j := 1) rfl).trans rfl, q⟩⟩
@[simp ↓ high] theorem r_ixK1 {a b : D} {l : List D} {Q : D → Prop} : ixD (.lck (a :: b :: l)) (.int 1) Q = Q b := propext ⟨fun ⟨d, h, q⟩ => by
  rw [atI_nonneg (i := 1) (j := 1) rfl] at h
  cases h
  exact q, fun q => ⟨_, (atI_nonneg (i := 1) (j := 1) rfl).trans rfl, q⟩⟩
@[simp ↓ high] theorem r_ixT1 {a b : D} {l : List D} {Q : D → Prop} : ixD (.tup (a :: b :: l)) (.int 1) Q = Q b := propext ⟨fun ⟨d, h, q⟩ => by
  rw [atI_nonneg (i := 1) (j := 1) rfl] at h
  cases h
  exact q, fun q => ⟨_, (atI_nonneg (i := 1) (j := 1) rfl).trans rfl, q⟩⟩
@[simp ↓ high] theorem r_set1 {a b z : D} {l : List D} {Q : List D → Prop} : setD (a :: b :: l) 1 z Q = Q (a :: z :: l) := propext ⟨fun ⟨m, h, q⟩ => by
  rw [ixN_nat (i := 1) (j := 1) rfl (by simp)] at h
  cases h
  exact q, fun q => ⟨1, ixN_nat rfl (by simp), q⟩⟩
@[simp ↓ high] theorem r_ixL2 {a b c : D} {l : List D} {Q : D → Prop} : ixD (.lst (a :: b :: c :: l)) (.int 2) Q = Q c := propext ⟨fun ⟨d, h, q⟩ => by
  rw [atI_nonneg (i := 2) (j := 2) rfl] at h
  cases h
  exact q, fun q => ⟨_, (atI_nonneg (i := 2) (j := 2) rfl).trans rfl, q⟩⟩
@[simp ↓ high] theorem r_ixK2 {a b c : D} {l : List D} {Q : D → Prop} : ixD (.lck (a :: b :: c :: l)) (.int 2) Q = Q c := propext ⟨fun ⟨d, h, q⟩ => by
  rw [atI_nonneg (i := 2) (j := 2) rfl] at h
  cases h
  exact q, fun q => ⟨_, (atI_nonneg (i := 2) (j := 2) rfl).trans rfl, q⟩⟩
@[simp ↓ high] theorem r_ixT2 {a b c : D} {l : List D} {Q : D → Prop} : ixD (.tup (a :: b :: c :: l)) (.int 2) Q = Q c := propext ⟨fun ⟨d, h, q⟩ => by
  rw [atI_nonneg (i := 2) (j := 2) rfl] at h
  cases h
  exact q, fun q => ⟨_, (atI_nonneg (i := 2) (j := 2) rfl).trans rfl, q⟩⟩
@[simp ↓ high] theorem r_set2 {a b c z : D} {l : List D} {Q : List D → Prop} : setD (a :: b :: c :: l) 2 z Q = Q (a :: b :: z :: l) := propext ⟨fun ⟨m, h, q⟩ => by
  rw [ixN_nat (i := 2) (j := 2) rfl (by simp)] at h
  cases h
  exact q, fun q => ⟨2, ixN_nat rfl (by simp), q⟩⟩
@[simp ↓ high] theorem r_ixL3 {a b c d : D} {l : List D} {Q : D → Prop} : ixD (.lst (a :: b :: c :: d :: l)) (.int 3) Q = Q d := propext ⟨fun ⟨d, h, q⟩ => by
  rw [atI_nonneg (i := 3) (j := 3) rfl] at h
  cases h
  exact q, fun q => ⟨_, (atI_nonneg (i := 3) (j := 3) rfl).trans rfl, q⟩⟩
@[simp ↓ high] theorem r_ixK3 {a b c d : D} {l : List D} {Q : D → Prop} : ixD (.lck (a :: b :: c :: d :: l)) (.int 3) Q = Q d := propext ⟨fun ⟨d, h, q⟩ => by
  rw [atI_nonneg (i := 3) (j := 3) rfl] at h
  cases h
  exact q, fun q => ⟨_, (atI_nonneg (i := 3) (j := 3) rfl).trans rfl, q⟩⟩
@[simp ↓ high] theorem r_ixT3 {a b c d : D} {l : List D} {Q : D → Prop} : ixD (.tup (a :: b :: c :: d :: l)) (.int 3) Q = Q d := propext ⟨fun ⟨d, h, q⟩ => by
  rw [atI_nonneg (i := 3) (j := 3) rfl] at h
  cases h
  exact q, fun q => ⟨_, (atI_nonneg (i := 3) (j := 3) rfl).trans rfl, q⟩⟩
@[simp ↓ high] theorem r_set3 {a b c d z : D} {l : List D} {Q : List D → Prop} : setD (a :: b :: c :: d :: l) 3 z Q = Q (a :: b :: c :: z :: l) := propext ⟨fun ⟨m, h, q⟩ => by
  rw [ixN_nat (i := 3) (j := 3) rfl (by simp)] at h
  cases h
  exact q, fun q => ⟨3, ixN_nat rfl (by simp), q⟩⟩
@[simp ↓ high] theorem r_ixL4 {a b c d e : D} {l : List D} {Q : D → Prop} : ixD (.lst (a :: b :: c :: d :: e :: l)) (.int 4) Q = Q e := propext ⟨fun ⟨d, h, q⟩ => by
  rw [atI_nonneg (i := 4) (j := 4) rfl] at h
  cases h
  exact q, fun q => ⟨_, (atI_nonneg (i := 4) (j := 4) rfl).trans rfl, q⟩⟩
@[simp ↓ high] theorem r_ixK4 {a b c d e : D} {l : List D} {Q : D → Prop} : ixD (.lck (a :: b :: c :: d :: e :: l)) (.int 4) Q = Q e := propext ⟨fun ⟨d, h, q⟩ => by
  rw [atI_nonneg (i := 4) (j := 4) rfl] at h
  cases h
  exact q, fun q => ⟨_, (atI_nonneg (i := 4) (j := 4) rfl).trans rfl, q⟩⟩
@[simp ↓ high] theorem r_ixT4 {a b c d e : D} {l : List D} {Q : D → Prop} : ixD (.tup (a :: b :: c :: d :: e :: l)) (.int 4) Q = Q e := propext ⟨fun ⟨d, h, q⟩ => by
  rw [atI_nonneg (i := 4) (j := 4) rfl] at h
  cases h
  exact q, fun q => ⟨_, (atI_nonneg (i := 4) (j := 4) rfl).trans rfl, q⟩⟩
@[simp ↓ high] theorem r_set4 {a b c d e z : D} {l : List D} {Q : List D → Prop} : setD (a :: b :: c :: d :: e :: l) 4 z Q = Q (a :: b :: c :: d :: z :: l) := propext ⟨fun ⟨m, h, q⟩ => by
  rw [ixN_nat (i := 4) (j := 4) rfl (by simp)] at h
  cases h
  exact q, fun q => ⟨4, ixN_nat rfl (by simp), q⟩⟩
@[simp ↓ high] theorem r_ixL5 {a b c d e f : D} {l : List D} {Q : D → Prop} : ixD (.lst (a :: b :: c :: d :: e :: f :: l)) (.int 5) Q = Q f := propext ⟨fun ⟨d, h, q⟩ => by
  rw [atI_nonneg (i := 5) (j := 5) rfl] at h
  cases h
  exact q, fun q => ⟨_, (atI_nonneg (i := 5) (j := 5) rfl).trans rfl, q⟩⟩
@[simp ↓ high] theorem r_ixK5 {a b c d e f : D} {l : List D} {Q : D → Prop} : ixD (.lck (a :: b :: c :: d :: e :: f :: l)) (.int 5) Q = Q f := propext ⟨fun ⟨d, h, q⟩ => by
  rw [atI_nonneg (i := 5) (j := 5) rfl] at h
  cases h
  exact q, fun q => ⟨_, (atI_nonneg (i := 5) (j := 5) rfl).trans rfl, q⟩⟩
@[simp ↓ high] theorem r_ixT5 {a b c d e f : D} {l : List D} {Q : D → Prop} : ixD (.tup (a :: b :: c :: d :: e :: f :: l)) (.int 5) Q = Q f := propext ⟨fun ⟨d, h, q⟩ => by
  rw [atI_nonneg (i := 5) (j := 5) rfl] at h
  cases h
  exact q, fun q => ⟨_, (atI_nonneg (i := 5) (j := 5) rfl).trans rfl, q⟩⟩
@[simp ↓ high] theorem r_set5 {a b c d e f z : D} {l : List D} {Q : List D → Prop} : setD (a :: b :: c :: d :: e :: f :: l) 5 z Q = Q (a :: b :: c :: d :: e :: z :: l) := propext ⟨fun ⟨m, h, q⟩ => by
  rw [ixN_nat (i := 5) (j := 5) rfl (by simp)] at h
  cases h
  exact q, fun q => ⟨5, ixN_nat rfl (by simp), q⟩⟩
@[simp ↓ high] theorem r_ixL6 {a b c d e f g : D} {l : List D} {Q : D → Prop} : ixD (.lst (a :: b :: c :: d :: e :: f :: g :: l)) (.int 6) Q = Q g := propext ⟨fun ⟨d, h, q⟩ => by
  rw [atI_nonneg (i := 6) (j := 6) rfl] at h
  cases h
  exact q, fun q => ⟨_, (atI_nonneg (i := 6) (j := 6) rfl).trans rfl, q⟩⟩
@[simp ↓ high] theorem r_ixK6 {a b c d e f g : D} {l : List D} {Q : D → Prop} : ixD (.lck (a :: b :: c :: d :: e :: f :: g :: l)) (.int 6) Q = Q g := propext ⟨fun ⟨d, h, q⟩ => by
  rw [atI_nonneg (i := 6) (j := 6) rfl] at h
  cases h
  exact q, fun q => ⟨_, (atI_nonneg (i := 6) (j := 6) rfl).trans rfl, q⟩⟩
@[simp ↓ high] theorem r_ixT6 {a b c d e f g : D} {l : List D} {Q : D → Prop} : ixD (.tup (a :: b :: c :: d :: e :: f :: g :: l)) (.int 6) Q = Q g := propext ⟨fun ⟨d, h, q⟩ => by
  rw [atI_nonneg (i := 6) (j := 6) rfl] at h
  cases h
  exact q, fun q => ⟨_, (atI_nonneg (i := 6) (j := 6) rfl).trans rfl, q⟩⟩
@[simp ↓ high] theorem r_set6 {a b c d e f g z : D} {l : List D} {Q : List D → Prop} : setD (a :: b :: c :: d :: e :: f :: g :: l) 6 z Q = Q (a :: b :: c :: d :: e :: f :: z :: l) := propext ⟨fun ⟨m, h, q⟩ => by
  rw [ixN_nat (i := 6) (j := 6) rfl (by simp)] at h
  cases h
  exact q, fun q => ⟨6, ixN_nat rfl (by simp), q⟩⟩
@[simp ↓] theorem r_ixL {l : List D} {i : Int} {Q : D → Prop} : ixD (.lst l) (.int i) Q = ∃ d, atI l i = some d ∧ Q d := by rfl
@[simp ↓] theorem r_ixK {l : List D} {i : Int} {Q : D → Prop} : ixD (.lck l) (.int i) Q = ∃ d, atI l i = some d ∧ Q d := by rfl
@[simp ↓] theorem r_ixT {l : List D} {i : Int} {Q : D → Prop} : ixD (.tup l) (.int i) Q = ∃ d, atI l i = some d ∧ Q d := by rfl
@[simp ↓] theorem r_ixV {i : Nat} {b : TDE} {en : En} {Q : D → En → Prop} {Qe : Qx} : dIxV i b en Q Qe = ((peek en i).isSome = true ∧ b en (fun y en2 => match peek en2 i with | some x => ixD x y fun z => Q z en2 | none => False) Qe) := by rfl
@[simp ↓] theorem r_peek {en : En} {i : Nat} : peek en i = (match en[i]? with | some (some (.fz d)) => some d | some (some (.ow _ d)) => some d | _ => none) := by rfl
@[simp ↓] theorem r_ownAt {en : En} {i : Nat} : ownAt en i = (match en[i]? with | some (some (.ow b d)) => some (b, d) | _ => none) := by rfl
@[simp ↓] theorem r_ownC {en : En} {i : Nat} : ownC en i = (match ownAt en i with | some (_, .lst _) => true | some (_, .dct _ _) => true | _ => false) := by rfl
@[simp ↓] theorem r_ownL {en : En} {i : Nat} : ownL en i = (match ownAt en i with | some (_, .lst _) => true | _ => false) := by rfl
@[simp ↓] theorem r_outAt {en : En} {i : Nat} : outAt en i = (match en[i]? with | some (some (.ow true d)) => some d | _ => none) := by rfl
@[simp ↓] theorem r_outs0 {en : En} : outsE [] en = some [] := by rfl
@[simp ↓] theorem r_outs1 {en : En} {i : Nat} {r : List Nat} : outsE (i :: r) en = (match outAt en i, outsE r en with | some d, some ds => some (d :: ds) | _, _ => none) := by rw [outsE] <;> rfl
@[simp ↓] theorem r_NoP {en : En} {Q : Option Int → En → Prop} {Qe : Qx} : dNoP en Q Qe = Q none en := by rfl
@[simp ↓] theorem r_SomeP {e : TDE} {en : En} {Q : Option Int → En → Prop} {Qe : Qx} : dSomeP e en Q Qe = e en (fun d en1 => match d with | .int i => Q (some i) en1 | _ => False) Qe := by rfl
@[simp ↓] theorem r_Sl {e : TDE} {l h : TDO} {en : En} {Q : D → En → Prop} {Qe : Qx} : dSl e l h en Q Qe = e en (fun x en1 => l en1 (fun lo en2 => h en2 (fun hi en3 => sliceD x lo hi fun z => Q z en3) Qe) Qe) Qe := by rfl
@[simp ↓] theorem r_SlL {e : TDE} {l h : TDO} {en : En} {Q : D → En → Prop} {Qe : Qx} : dSlL e l h en Q Qe = e en (fun x en1 => l en1 (fun lo en2 => h en2 (fun hi en3 => sliceL x lo hi fun z => Q z en3) Qe) Qe) Qe := by rfl
@[simp ↓] theorem r_SlV {i : Nat} {l h : TDO} {en : En} {Q : D → En → Prop} {Qe : Qx} : dSlV i l h en Q Qe = ((peek en i).isSome = true ∧ l en (fun lo en2 => h en2 (fun hi en3 => match peek en3 i with | some x => sliceL x lo hi fun z => Q z en3 | none => False) Qe) Qe) := by rfl
@[simp ↓] theorem r_slDL {x : List D} {lo hi : Option Int} {Q : D → Prop} : sliceD (.lst x) lo hi Q = Q (.lst (cutD x lo hi)) := by rfl
@[simp ↓] theorem r_slDK {x : List D} {lo hi : Option Int} {Q : D → Prop} : sliceD (.lck x) lo hi Q = Q (.lst (cutD x lo hi)) := by rfl
@[simp ↓] theorem r_slLL {x : List D} {lo hi : Option Int} {Q : D → Prop} : sliceL (.lst x) lo hi Q = Q (.lst (cutD x lo hi)) := by rfl
@[simp ↓] theorem r_slLK {x : List D} {lo hi : Option Int} {Q : D → Prop} : sliceL (.lck x) lo hi Q = Q (.lst (cutD x lo hi)) := by rfl
@[simp ↓] theorem r_slDT {x : List D} {lo hi : Option Int} {Q : D → Prop} : sliceD (.tup x) lo hi Q = Q (.tup (cutD x lo hi)) := by rfl
@[simp ↓] theorem r_slDS {x : Str} {lo hi : Option Int} {Q : D → Prop} : sliceD (.str x) lo hi Q = (x.length ≤ sizeLine ∧ Q (.str (cutS x lo hi))) := by rfl
@[simp ↓] theorem r_gName {i : Nat} {d : D} {en : En} {Q : En → Prop} : dgName i d en Q = Q (en.set i (some (.fz d))) := by rfl
@[simp ↓] theorem r_gTupT {n : Nat} {u : TDGs} {l : List D} {en : En} {Q : En → Prop} : dgTup n u (.tup l) en Q = (l.length = n ∧ u l en Q) := by rfl
@[simp ↓] theorem r_gNil {ds : List D} {en : En} {Q : En → Prop} : dgNil ds en Q = (ds = [] ∧ Q en) := by rfl
@[simp ↓] theorem r_gCons {t : TDG} {u : TDGs} {d : D} {r : List D} {en : En} {Q : En → Prop} : dgCons t u (d :: r) en Q = t d en fun en1 => u r en1 Q := by rfl
@[simp ↓] theorem r_Asg {e : TDE} {g : TDG} {B : DEnds} {en : En} : dAsg e g B en = e en (fun d en1 => g d en1 B.nx) B.ex := by rfl
@[simp ↓] theorem r_iSeq {e : TDE} {en : En} {Q : List D → En → Prop} {Qe : Qx} : diSeq e en Q Qe = e en (fun d en1 => match itemsD d with | some ds => Q ds en1 | none => False) Qe := by rfl
@[simp ↓] theorem r_itL {l : List D} : itemsD (.lst l) = some l := by rfl
@[simp ↓] theorem r_itK {l : List D} : itemsD (.lck l) = some l := by rfl
@[simp ↓] theorem r_itD {l m : List D} : itemsD (.dct l m) = some l := by rfl
@[simp ↓] theorem r_ixD {l m : List D} {j : D} {Q : D → Prop} : ixD (.dct l m) j Q = (fitD l j = true ∧ ∃ e, lkD l m j = some e ∧ Q e) := by rfl
@[simp ↓] theorem r_inDct {n : Bool} {l m : List D} {x : D} {Q : D → Prop} : inD n x (.dct l m) Q = (fitD l x = true ∧ Q (.bl ((lkD l m x).isSome != n))) := by rfl
@[simp ↓] theorem r_lenDD {l m : List D} : lenD1 (.dct l m) = some l.length := by rfl
@[simp ↓] theorem r_iVals {e : TDE} {en : En} {Q : List D → En → Prop} {Qe : Qx} : diVals e en Q Qe = e en (fun d en1 => match d with | .dct _ es => Q es en1 | _ => False) Qe := by rfl
@[simp ↓] theorem r_iItems {e : TDE} {en : En} {Q : List D → En → Prop} {Qe : Qx} : diItems e en Q Qe = e en (fun d en1 => match d with | .dct ds es => ds.length = es.length ∧ Q (pairsD ds es) en1 | _ => False) Qe := by rfl
@[simp ↓] theorem r_itT {l : List D} : itemsD (.tup l) = some l := by rfl
@[simp ↓] theorem r_iRng1 {t : TDA} {en : En} {Q : List D → En → Prop} {Qe : Qx} : diRng1 t en Q Qe = t en (fun ds en1 => match ds with | [.int j] => -(2 ^ 62) ≤ j ∧ j < 2 ^ 62 ∧ Q (rangeD 0 j.toNat) en1 | _ => False) Qe := by rfl
@[simp ↓] theorem r_iRng2 {t : TDA} {en : En} {Q : List D → En → Prop} {Qe : Qx} : diRng2 t en Q Qe = t en (fun ds en1 => match ds with | [.int i, .int j] => (-(2 ^ 62) ≤ i ∧ i < 2 ^ 62 ∧ -(2 ^ 62) ≤ j ∧ j < 2 ^ 62) ∧ Q (rangeD i (j - i).toNat) en1 | _ => False) Qe := by rfl
@[simp ↓] theorem r_For {it : TDI} {g : TDG} {b : TDS} {B : DEnds} {en : En} : dFor it g b B en = it en (fun ds en1 => loopD g b B ds en1) B.ex := by rfl
@[simp ↓] theorem r_Blt {c : CD} {a : TDA} {en : En} {Q : D → En → Prop} {Qe : Qx} : dBlt c a en Q Qe = a en (fun ds en1 => c ds fun z => Q z en1) Qe := by rfl
@[simp ↓] theorem r_len_lst {l : List D} {Q : D → Prop} : lenD [.lst l] Q = Q (.int l.length) := propext ⟨fun ⟨n, h, q⟩ => by
  cases h
  exact q, fun q => ⟨_, rfl, q⟩⟩
@[simp ↓] theorem r_len_lck {l : List D} {Q : D → Prop} : lenD [.lck l] Q = Q (.int l.length) := propext ⟨fun ⟨n, h, q⟩ => by
  cases h
  exact q, fun q => ⟨_, rfl, q⟩⟩
@[simp ↓] theorem r_len_tup {l : List D} {Q : D → Prop} : lenD [.tup l] Q = Q (.int l.length) := propext ⟨fun ⟨n, h, q⟩ => by
  cases h
  exact q, fun q => ⟨_, rfl, q⟩⟩
 theorem r_len {d : D} {Q : D → Prop} : lenD [d] Q = ∃ n, lenD1 d = some n ∧ Q (.int n) := by rfl
@[simp ↓] theorem r_lenL {l : List D} : lenD1 (.lst l) = some l.length := by rfl
@[simp ↓] theorem r_lenK {l : List D} : lenD1 (.lck l) = some l.length := by rfl
@[simp ↓] theorem r_lenT {l : List D} : lenD1 (.tup l) = some l.length := by rfl
@[simp ↓] theorem r_LenV {i : Nat} {en : En} {Q : D → En → Prop} {Qe : Qx} : dLenV i en Q Qe = (match peek en i with | some d => lenD [d] fun z => Q z en | none => False) := by rfl
@[simp ↓] theorem r_intI {i : Int} {Q : D → Prop} : intD [.int i] Q = Q (.int i) := by rfl
@[simp ↓] theorem r_intB {i : Bool} {Q : D → Prop} : intD [.bl i] Q = Q (.int (if i then 1 else 0)) := by rfl
@[simp ↓] theorem r_boolI {i : Int} {Q : D → Prop} : boolD [.int i] Q = Q (.bl (i != 0)) := by rfl
@[simp ↓] theorem r_boolB {i : Bool} {Q : D → Prop} : boolD [.bl i] Q = Q (.bl i) := by rfl
@[simp ↓] theorem r_Isi {b : D → Option Bool} {a : TDE} {en : En} {Q : D → En → Prop} {Qe : Qx} : dIsi b a en Q Qe = a en (fun d en1 => match b d with | some k => Q (.bl k) en1 | none => False) Qe := by rfl
@[simp ↓] theorem r_Fld {cs : List String} {f : String} {e : TDE} {en : En} {Q : D → En → Prop} {Qe : Qx} : dFld cs f e en Q Qe = e en (fun d en1 => match d with | .obj C ns vs => C ∈ cs ∧ ∃ x, getF ns vs f = some x ∧ Q x en1 | _ => False) Qe := by rfl
@[simp ↓] theorem r_FldV {i : Nat} {cs : List String} {f : String} {en : En} {Q : D → En → Prop} {Qe : Qx} : dFldV i cs f en Q Qe = (match peek en i with | some (.obj C ns vs) => C ∈ cs ∧ ∃ x, getF ns vs f = some x ∧ Q x en | _ => False) := by rfl
@[simp ↓] theorem r_FldS {i : Nat} {cs : List String} {f : String} {e : TDE} {B : DEnds} {en : En} : dFldS i cs f e B en = e en (fun d en1 => match ownAt en1 i with | some (b, .obj C ns vs) => C ∈ cs ∧ ns.length < 1000 ∧ B.nx (en1.set i (some (.ow b (.obj C (putF' ns vs f d).1 (putF' ns vs f d).2)))) | _ => False) B.ex := by rfl
@[simp ↓] theorem r_Meth {C m : String} {sd : SpD} {o : TDE} {a : TDA} {en : En} {Q : D → En → Prop} {Qe : Qx} : dMeth C m sd o a en Q Qe = o en (fun d en1 => match d with | .obj C' ns vs => C' = C ∧ m ∉ ns ∧ a en1 (fun ds en2 => sd (.obj C' ns vs :: ds) (fun r _ => Q r en2) fun x _ => Qe x en2) Qe | _ => False) Qe := by rfl
@[simp ↓] theorem r_Make {C : String} {sd : SpD} {a : TDA} {en : En} {Q : D → En → Prop} {Qe : Qx} : dMake C sd a en Q Qe = a en (fun ds en1 => sd (.obj C [] [] :: ds) (fun r outs => r = .non ∧ match outs with | [d] => Q d en1 | _ => False) fun x _ => Qe x en1) Qe := by rfl
@[simp ↓] theorem r_Prop {C : String} {sd : SpD} {o : TDE} {en : En} {Q : D → En → Prop} {Qe : Qx} : dProp C sd o en Q Qe = o en (fun d en1 => match d with | .obj C' ns vs => C' = C ∧ sd [.obj C' ns vs] (fun r _ => Q r en1) fun _ _ => False | _ => False) Qe := by rfl
@[simp ↓] theorem r_Own2 {C : String} {sd : SpD} {a b : TDE} {en : En} {Q : D → En → Prop} {Qe : Qx} : dOwn2 C sd a b en Q Qe = a en (fun x en1 => b en1 (fun y en2 => (∃ ns vs, x = .obj C ns vs) ∧ (∃ ns vs, y = .obj C ns vs) ∧ sd [x, y] (fun r _ => Q r en2) fun x _ => Qe x en2) Qe) Qe := by rfl
@[simp ↓] theorem r_Own1 {C : String} {sd : SpD} {a : TDE} {en : En} {Q : D → En → Prop} {Qe : Qx} : dOwn1 C sd a en Q Qe = a en (fun x en1 => (∃ ns vs, x = .obj C ns vs) ∧ sd [x] (fun r _ => Q r en1) fun x _ => Qe x en1) Qe := by rfl
@[simp ↓] theorem r_Call {sd : SpD} {a : TDA} {en : En} {Q : D → En → Prop} {Qe : Qx} : dCall sd a en Q Qe = a en (fun ds en1 => sd ds (fun r _ => Q r en1) fun x _ => Qe x en1) Qe := by rfl
@[simp ↓] theorem r_CallIO {i : Nat} {sd : SpD} {a : TDA} {en : En} {Q : D → En → Prop} {Qe : Qx} : dCallIO i sd a en Q Qe = ((ownAt en i).isSome = true ∧ a en (fun ds en1 => match ownAt en1 i with | some (b, d) => sd (d :: ds) (fun r outs => (match outs with | [d'] => Q r (en1.set i (some (.ow b d'))) | _ => False)) (fun x outs => (match outs with | [d'] => Qe x (en1.set i (some (.ow b d'))) | _ => False)) | none => False) Qe) := by rfl
@[simp ↓] theorem r_LM {i : Nat} {m : LM} {a : TDA} {en : En} {Q : D → En → Prop} {Qe : Qx} : dLM i m a en Q Qe = (ownL en i = true ∧ a en (fun es en1 => match ownAt en1 i with | some (b, .lst ds) => m ds es fun z ls => Q z (en1.set i (some (.ow b (.lst ls)))) | _ => False) Qe) := by rfl
@[simp ↓] theorem r_app {l : List D} {d : D} {Q : D → List D → Prop} : appM l [d] Q = (l.length < sizeLine ∧ Q .non (l ++ [d])) := by rfl
@[simp ↓] theorem r_pop {l : List D} {Q : D → List D → Prop} : popM l [] Q = ∃ d, l.getLast? = some d ∧ Q d l.dropLast := by rfl
@[simp ↓] theorem r_ext {l x : List D} {Q : D → List D → Prop} : extM l [.lst x] Q = (l.length + x.length ≤ sizeLine ∧ Q .non (l ++ x)) := by rfl
@[simp ↓] theorem r_Store {i : Nat} {x e : TDE} {B : DEnds} {en : En} : dStore i x e B en = e en (fun d en1 => ownC en1 i = true ∧ x en1 (fun j en2 => match ownAt en2 i, j with | some (b, .lst ds), .int k => setD ds k d fun ls => B.nx (en2.set i (some (.ow b (.lst ls)))) | some (b, .dct ds es), j => fitD ds j = true ∧ ds.length < sizeLine ∧ B.nx (en2.set i (some (.ow b (.dct (putDk ds j) (putDv ds es j d))))) | _, _ => False) B.ex) B.ex := by rfl
@[simp ↓] theorem r_Lc {vs : List Nat} {it : TDI} {g : TDG} {c : TDT} {e : TDE} {en : En} {Q : D → En → Prop} {Qe : Qx} : dLc vs it g c e en Q Qe = it en (fun ds en1 => lcD vs g c e ds [] (wipeE en1 vs) fun acc en2 => Q (.lst acc) (backE en1 en2 vs)) Qe := by rfl
@[simp ↓] theorem r_TupIx {ys : List Str} {e : TDE} {en : En} {Q : D → En → Prop} {Qe : Qx} : dTupIx ys e en Q Qe = e en (fun d en1 => ∃ z j, d = .str z ∧ ys[j]? = some z ∧ (∀ m, m < j → ys[m]? ≠ some z) ∧ Q (.int (j : Nat)) en1) Qe := by rfl
@[simp ↓] theorem r_tru_non  : truD .non = some false := by rfl
@[simp ↓] theorem r_tru_bl {b : Bool} : truD (.bl b) = some b := by rfl
@[simp ↓] theorem r_tru_int {b : Int} : truD (.int b) = some (b != 0) := by rfl
@[simp ↓] theorem r_tru_lst {b : List D} : truD (.lst b) = some (!b.isEmpty) := by rfl
@[simp ↓] theorem r_tru_lck {b : List D} : truD (.lck b) = some (!b.isEmpty) := by rfl
@[simp ↓] theorem r_tru_tup {b : List D} : truD (.tup b) = some (!b.isEmpty) := by rfl
@[simp ↓] theorem r_e_nx {io : List Nat} {Qd : D → List D → Prop} {Qe : Exn → List D → Prop} {fr : Bool} {en : En} : (endsD io Qd Qe fr).nx en = (fr = false ∧ ∃ outs, outsE io en = some outs ∧ Qd .non outs) := by rfl
@[simp ↓] theorem r_e_rt {io : List Nat} {Qd : D → List D → Prop} {Qe : Exn → List D → Prop} {fr : Bool} {en : En} {d : D} : (endsD io Qd Qe fr).rt d en = ∃ outs, outsE io en = some outs ∧ Qd d outs := by rfl
@[simp ↓] theorem r_e_ex {io : List Nat} {Qd : D → List D → Prop} {Qe : Exn → List D → Prop} {fr : Bool} {en : En} {x : Exn} : (endsD io Qd Qe fr).ex x en = ∃ outs, outsE io en = some outs ∧ Qe x outs := by rfl
@[simp ↓] theorem r_e_fr {io : List Nat} {Qd : D → List D → Prop} {Qe : Exn → List D → Prop} {fr : Bool} : (endsD io Qd Qe fr).fr = fr := by rfl
@[simp ↓] theorem r_len_dct {l m : List D} {Q : D → Prop} : lenD [.dct l m] Q = Q (.int l.length) := propext ⟨fun ⟨n, h, q⟩ => by
  cases h
  exact q, fun q => ⟨_, rfl, q⟩⟩
@[simp] theorem r_sizeLine : sizeLine = 16777216 := by unfold sizeLine; rfl
end DL

/-! The D layer, part 11: plain lemmas. -/
namespace DL
open PySem L2

theorem rangeD_zero {lo : Int} : rangeD lo 0 = [] := rfl
theorem rangeD_succ {lo : Int} {n : Nat} : rangeD lo (n + 1) = .int lo :: rangeD (lo + 1) n := by
  unfold rangeD
  rw [List.range_succ_eq_map, List.map_cons, List.map_map]
  congr 1
  · simp
  · apply List.map_congr_left
    intro i _
    simp only [Function.comp]
    congr 1
    push_cast
    omega
theorem atI_map {α β : Type} {f : α → β} {l : List α} {i : Int} : atI (l.map f) i = (atI l i).map f := by
  unfold atI
  rw [List.length_map]
  cases ixN l.length i with
  | none => rfl
  | some j => simp
theorem atI_some {α : Type} {l : List α} {i : Int} (h : -(l.length : Int) ≤ i) (h' : i < l.length) : ∃ a, atI l i = some a := by
  unfold atI ixN
  by_cases q : 0 ≤ i
  · have : i.toNat < l.length := by omega
    simp [q, h', this]
  · have : (i + l.length).toNat < l.length := by omega
    simp [q, h, this]
theorem cutD_map {α : Type} {f : α → D} {l : List α} {lo hi : Option Int} : ∃ k : List α, cutD (l.map f) lo hi = k.map f ∧ k.length ≤ l.length := by
  refine ⟨(l.drop (HT.sIx l.length 0 lo)).take (HT.sIx l.length l.length hi - HT.sIx l.length 0 lo), ?_, ?_⟩
  · unfold cutD
    rw [List.length_map, ← List.map_drop, ← List.map_take]
  · rw [List.length_take, List.length_drop]
    omega
theorem dCutHead {l : List D} {n : Nat} : cutD l none (some (n : Int)) = l.take n := by
  unfold cutD
  rw [HT.sIx_none, HT.sIx_nat, List.drop_zero, Nat.sub_zero]
  by_cases h : n ≤ l.length
  · rw [Nat.min_eq_left h]
  · rw [Nat.min_eq_right (by omega), List.take_of_length_le (by omega), List.take_of_length_le (by omega)]
theorem fmod_range {a m : Int} (h : 0 < m) : 0 ≤ a.fmod m ∧ a.fmod m < m := by
  rw [Int.fmod_eq_emod_of_nonneg _ (by omega)]
  exact ⟨Int.emod_nonneg _ (by omega), Int.emod_lt_of_pos _ h⟩
theorem last_split {α : Type} : ∀ (l : List α), 0 < l.length → ∃ r x, l = r ++ [x]
  | [], h => nomatch h
  | a :: r, _ => by
    rcases r with _ | ⟨b, r⟩
    · exact ⟨[], a, rfl⟩
    · obtain ⟨s, x, e⟩ := last_split (b :: r) (by simp)
      exact ⟨a :: s, x, by rw [e]; rfl⟩
theorem atI_mem {α : Type} {l : List α} {i : Int} {a : α} (h : atI l i = some a) : a ∈ l := by
  unfold atI at h
  cases e : ixN l.length i with
  | none => rw [e] at h; cases h
  | some j => rw [e] at h; exact List.mem_of_getElem? h
theorem mul_r {i j : Int} (h : -18446744073709551616 < j) (h' : j < 18446744073709551616) : CMul i j ∨ CMulW i j := .inl (.inr ⟨by simpa using h, by simpa using h'⟩)
theorem mul_l {i j : Int} (h : -18446744073709551616 < i) (h' : i < 18446744073709551616) : CMul i j ∨ CMulW i j := .inl (.inl ⟨by simpa using h, by simpa using h'⟩)
theorem div_r {i j : Int} (h : 0 < j) (h' : j < 1073741824) : CDivN i j ∨ CDivW i j := .inl ⟨by omega, by omega⟩
theorem pow_ok {i j : Int} (h : 0 ≤ j) (h' : j ≤ 1000000) (k : -18446744073709551616 < i) (k' : i < 18446744073709551616) : CPow i j := ⟨h, h', by
  have : (2 : Nat) ^ 64 = 18446744073709551616 := by decide
  rw [this]
  omega⟩
end DL

/-! The D layer, part 12: a law's end. -/
namespace DL
open PySem L2

theorem is_ints {K : KW} {F : Hp} : ∀ ns : List Int, IsL K F (ns.map D.int) (ns.map V.int)
  | [] => rfl
  | n :: ns => ⟨_, _, rfl, rfl, is_ints ns⟩
/-- what a law's def is asked -/
def LawSp (n : Nat) (sd : SpD) : Prop := ∀ ns : List Int, ns.length ≤ n → (∀ z ∈ ns, Builtin.Int.intBits z ≤ 1048576) → sd [.lck (ns.map D.int)] (fun r _ => r = .bl true) fun _ _ => False
theorem walk_law {l : PySem.W.OpenLaw} {n k : Nat} {q : Program} {loose : List Str} {XP : (Str → Option Value) → Heap → Prop} {YP : World → Heap → Prop} {d : DefRec} {sd : SpD} {x : Str} (hn : l.most = some n) (hn2 : n ≤ sizeLine) (hdf : d.params.defaults = []) (hr : Room k callerA) (hsd : LawSp n sd)
    (F : ∀ (w : World) (mg : Str → Option Value) (fa : Addr) (h : Heap), YP w h → h.Ns mainGlobals mg → mg d.name = some (.ref fa) →
      ∃ (K : Fg) (fd : FuncData), K.In h ∧ (∀ (s : Shared) (u : Value), BindsTo s fd ⟨[u], []⟩ [(x, u)]) ∧ ∀ base : Heap, K.In base → base.Ns mainGlobals mg → FnOk l.prog w K mg base (L2.CX l.prog w) k fa fd [x] (spOf ⟨K, w⟩ [] sd)) :
    PySem.W.WalkO q loose XP YP l.row.toRowW d [] (fun f vs => PySem.call f vs) := by
  refine Att.attach_callB hn hdf fun w s₀ s₁ mg mb fa o pm cd doc a vs ns G Y ho hd hcd hmg hobj hints hlen hbits hg => ?_
  obtain ⟨K, fd, KX, hb, hF⟩ := F w mg fa _ Y G.T.g hmg
  refine law_call KX G.T.g G.T.b G.T.builtins G.T.nolimit hg hobj hints (Nat.le_trans hlen hn2) hr hF hb (fun H hO hS => ⟨H, _, _, _, Same.refl H, ⟨rfl, fun i e h1 h2 => ?_, fun i e h1 h2 => ?_, fun i j b h1 => ?_⟩, hsd ns hlen hbits, fun v r outs F' H' p i o q => ?_, fun x outs cls dd F' H' p i o q => q.elim⟩) fun H e s' c => ?_
  · cases i with
    | zero =>
      cases h1
      exact ⟨_, rfl, _, _, rfl, hS, is_ints ns⟩
    | succ i => cases h1
  · cases h2
  · cases h1
  · cases q
    exact i
  · obtain ⟨_, _, _, _, _, _, _, _, _, _, _, _, z⟩ := c
    exact z
end DL

/-! The D layer, part 18: the hook over what the used names reach; what was seen is a number, bit by bit. -/
namespace DL
open PySem L2

def refsB (g : Addr → Option Obj) (a : Addr) : List Addr := if Nat.blt a 4 = true then [] else match g a with
  | some o => He.refsD o
  | none => []
/-- those of a list that were not seen, and what is seen behind them -/
def pickB : List Addr → Nat → List Addr → List Addr × Nat
  | [], s, acc => (acc, s)
  | a :: r, s, acc => HandSHeadRun.frNat a fun a => match Nat.land (Nat.shiftRight s a) 1 with
    | 0 => HandSHeadRun.frNat (Nat.lor s (Nat.shiftLeft 1 a)) fun s => pickB r s (a :: acc)
    | _ + 1 => pickB r s acc
def goB (g : Addr → Option Obj) : Nat → List Addr → Nat → List Addr → List Addr
  | 0, _, _, all => all
  | n + 1, front, s, all => match pickB (front.flatMap (refsB g)) s [] with
    | (new, s) => goB g n new s (all ++ new)
def asB (g : Addr → Option Obj) (xs : List Str) (n : Nat) : List Addr := match pickB (xs.map (He.ga (He.frG g [mainGlobals]))) 0 [] with
  | (new, s) => goB g n new s (mainGlobals :: PySem.cStatics :: new)
def obsBG (xs : List Str) (n : Nat) (fx : List (Fg → Bool)) (fn : List DefX) (ts : List He.Tab) (g : Addr → Option Obj) : AlX := obsX fx fn ts (He.frG g (asB g xs n))
def hookB (xs : List Str) (n : Nat) (fx : List (Fg → Bool)) (fn : List DefX) (ts : List He.Tab) : PySem.W.Hook where
  α := AlX
  obs := fun s => obsBG xs n fx fn ts s.heap.get?
  val := fun w => valX fn ts w
  says := fun w h => ∃ K : Fg, K.In h ∧ SaysX fx fn ts w K
  of := fun _ _ e => ⟨_, He.frG_in, e⟩
  keeps := fun _ _ _ ⟨K, hK, c⟩ k => ⟨K, PySem.W.Frag.In.keeps hK k, c⟩
theorem obsBG_eq {xs : List Str} {n : Nat} {fx : List (Fg → Bool)} {fn : List DefX} {ts : List He.Tab} {g : Addr → Option Obj} {s : Shared} (h : ∀ a, g a = s.heap.get? a) : obsBG xs n fx fn ts g = (hookB xs n fx fn ts).obs s := by
  have e : g = s.heap.get? := funext h
  rw [e] <;> rfl
end DL

/-! The D layer, part 13: tuple(..), list(..), str(..), join, defs with *args, constant tables. -/
namespace DL
open PySem L2

section
variable {X : Cx} {W : WX} {K : KW}
/-! ### tuple(x), list(x), str(x) -/
def tupleD : CD := fun ds Q => match ds with
  | [.lst xs] => Q (.tup xs)
  | [.lck xs] => Q (.tup xs)
  | [.tup xs] => Q (.tup xs)
  | _ => False
abbrev rTupOf (K : Fg) : List V → Hp → VK → Prop := fun xs H Q => ∃ p ys, xs = [.ref p] ∧ ((SqL K H p ys ∧ ∀ l, H l = none → Q (.ref l) (upd H l (.tup ys))) ∨ (SqT K H p ys ∧ Q (.ref p) H))
theorem sim_tuple : SimC K (rTupOf K) tupleD := by
  intro G F H σ en ds vs Q Qd R i q k
  unfold tupleD at q
  split at q
  · obtain ⟨v, r, rfl, ⟨a, ws, rfl, ha, la⟩, ir⟩ := i
    cases ir
    refine ⟨a, ws, rfl, .inl ⟨SqL.of (R.le _ _ ha), fun p hp => ?_⟩⟩
    obtain ⟨h1, h2, h3⟩ := new_tup R la hp
    exact k _ _ _ _ h1 h2 h3 q
  · obtain ⟨v, r, rfl, ⟨a, ws, rfl, ha, la⟩, ir⟩ := i
    cases ir
    refine ⟨a, ws, rfl, .inl ⟨SqL.same R.le ha, fun p hp => ?_⟩⟩
    obtain ⟨h1, h2, h3⟩ := new_tup R la hp
    exact k _ _ _ _ h1 h2 h3 q
  · obtain ⟨v, r, rfl, ⟨a, ws, rfl, ha, la⟩, ir⟩ := i
    cases ir
    exact ⟨a, ws, rfl, .inr ⟨SqT.same R.le ha, k (.ref a) (.tup _) F H (Same.refl F) R ⟨a, ws, rfl, ha, la⟩ q⟩⟩
  · exact q.elim
def seqOf : D → Option (List D)
  | .lst xs => some xs
  | .lck xs => some xs
  | .tup xs => some xs
  | _ => none
def dList (a : TDE) : TDE := fun en Q Qe => a en (fun d en1 => match seqOf d with
  | some xs => Q (.lst xs) en1
  | none => False) Qe
abbrev rLstOf (K : Fg) : List V → Hp → VK → Prop := fun xs H Q => ∃ p ys, xs = [.ref p] ∧ (SqL K H p ys ∨ SqT K H p ys) ∧ ∀ l, H l = none → Q (.ref l) (upd H l (.lst ys))
theorem seq_is {F H : Hp} (e : Same F H) : ∀ {d : D} {v : V} {xs : List D}, Is K F d v → seqOf d = some xs → ∃ p ws, v = .ref p ∧ (SqL K H p ws ∨ SqT K H p ws) ∧ IsL K F xs ws
  | .lst ds, _, _, ⟨a, ws, q, ha, la⟩, h => by cases h; exact ⟨a, ws, q, .inl (SqL.of (e _ _ ha)), la⟩
  | .lck ds, _, _, ⟨a, ws, q, ha, la⟩, h => by cases h; exact ⟨a, ws, q, .inl (SqL.same e ha), la⟩
  | .tup ds, _, _, ⟨a, ws, q, ha, la⟩, h => by cases h; exact ⟨a, ws, q, .inr (SqT.same e ha), la⟩
  | .non, _, _, _, h => nomatch h
  | .bl _, _, _, _, h => nomatch h
  | .int _, _, _, _, h => nomatch h
  | .str _, _, _, _, h => nomatch h
  | .dct _ _, _, _, _, h => nomatch h
  | .obj _ _ _, _, _, _, h => nomatch h
theorem do_list {x : Str} {p pos : Pos} {e : Expr} {te : TE} {td : TDE} (hx : x = "list") (hg : Gl X x) (hm : X.mg x = none) (h : DE X W e te td) (hdb : (x == ("__debug__" : Str)) = false := by decide)
    (he : starEach [e] X.env = (false, eval e X.env) :: starEach [] X.env := by rfl) : DO X W (.Call (.Name x p) [e] [] pos) (tCB (rLstOf X.K) (tCons te tNil)) (dList td) :=
  ⟨by
    subst hx
    exact pe_callTy call_list_of hg hm PyProof.Rows.boot_list (pa_cons h.pe pa_nil he) (by decide) (by decide) he rfl, fun G F H σ en Q Qd Qe R q x k => h.sim G F H σ en _ _ Qe R q x fun v d F1 H1 en1 e1 R1 i1 q1 => by
      split at q1
      · rename_i xs hs
        obtain ⟨a, ws, rfl, ha, la⟩ := seq_is R1.le i1 hs
        exact ⟨a, ws, rfl, ha, fun p hp => by
          obtain ⟨h1, h2⟩ := new_lst R1 la hp
          exact k _ _ _ _ en1 e1 h1 h2 q1⟩
      · exact q1.elim⟩
def strD : CD := fun ds Q => match ds with
  | [.int i] => i.natAbs.log2 < 1920 ∧ Q (.str (toString i))
  | [.str a] => Q (.str a)
  | _ => False
abbrev rStrV : List V → Hp → VK → Prop := fun xs H Q => (∃ i, xs = [.int i] ∧ i.natAbs.log2 < 1920 ∧ Q (.str (toString i)) H) ∨ ∃ a, xs = [.str a] ∧ Q (.str a) H
theorem call_strV : CallR X (.type "str") rStrV := call_str_int.or SkE.call_str_str
theorem sim_str : SimC K rStrV strD := by
  intro G F H σ en ds vs Q Qd R i q k
  unfold strD at q
  split at q
  · obtain ⟨v, r, rfl, iv, ir⟩ := i
    cases ir; cases iv
    exact .inl ⟨_, rfl, q.1, k _ (.str _) F H (Same.refl F) R rfl q.2⟩
  · obtain ⟨v, r, rfl, iv, ir⟩ := i
    cases ir; cases iv
    exact .inr ⟨_, rfl, k _ (.str _) F H (Same.refl F) R rfl q⟩
  · exact q.elim
/-! ### s.join(x) -/
def strsOf : List D → Option (List Str)
  | [] => some []
  | .str s :: r => (strsOf r).map (s :: ·)
  | _ => none
theorem strs_is {F : Hp} : ∀ {ds : List D} {ys : List Str} {vs : List V}, strsOf ds = some ys → IsL K F ds vs → vs = ys.map V.str
  | [], _, _, h, i => by cases h; exact i
  | .str s :: r, ys, vs, h, ⟨v, rs, e, i, l⟩ => by
    unfold strsOf at h
    cases q : strsOf r with
    | none => rw [q] at h; cases h
    | some zs =>
      rw [q] at h
      cases h
      cases i
      rw [e, strs_is q l]
      rfl
  | .non :: _, _, _, h, _ => nomatch h
  | .bl _ :: _, _, _, h, _ => nomatch h
  | .int _ :: _, _, _, h, _ => nomatch h
  | .tup _ :: _, _, _, h, _ => nomatch h
  | .lst _ :: _, _, _, h, _ => nomatch h
  | .lck _ :: _, _, _, h, _ => nomatch h
  | .dct _ _ :: _, _, _, h, _ => nomatch h
  | .obj _ _ _ :: _, _, _, h, _ => nomatch h
def joinD (x y : D) (Q : D → Prop) : Prop := ∃ s xs ys, x = .str s ∧ seqOf y = some xs ∧ strsOf xs = some ys ∧ (ys.map (·.length)).sum + ys.length * s.length ≤ 16777216 ∧ Q (.str (Str.join s ys))
def dJoin (a b : TDE) : TDE := fun en Q Qe => a en (fun x en1 => (∃ s, x = .str s) ∧ b en1 (fun y en2 => joinD x y fun z => Q z en2) Qe) Qe
theorem de_join {a b : Expr} {apos pos : Pos} {ta tb : TE} {da db : TDE} (ha : DE X W a ta da) (hb : DE X W b tb db) (hs : starEach [b] X.env = [(false, eval b X.env)] := by rfl) (hbase : attributeBase a "join" X.env (eval a X.env) = eval a X.env := by rfl) (hline : (apos.endLine == pos.line) = true := by rfl) :
    DE X W (.Call (.Attribute a "join" apos) [b] [] pos) (tM1 (fun x xs H Q => ∃ a p, ∃ ys : List Str, x = .str a ∧ xs = [.ref p] ∧ (SqL X.K H p (ys.map V.str) ∨ SqT X.K H p (ys.map V.str)) ∧
      (ys.map (·.length)).sum + ys.length * a.length ≤ 16777216 ∧ Q (.str (Txt.join a ys)) H) ta tb) (dJoin da db) :=
  ⟨pe_join ha.pe hb.pe hs hbase hline, fun G F H σ en Q Qd Qe R q x k => ha.sim G F H σ en _ _ Qe R q x fun v d F1 H1 en1 e1 R1 i1 q1 => by
    obtain ⟨⟨s, rfl⟩, q1⟩ := q1
    cases i1
    refine ⟨⟨s, rfl⟩, hb.sim G F1 H1 σ en1 _ _ Qe R1 q1 x fun u y F2 H2 en2 e2 R2 i2 q2 => ?_⟩
    obtain ⟨s', xs, ys, e, h1, h2, h3, h4⟩ := q2
    cases e
    obtain ⟨p, ws, rfl, hp, l⟩ := seq_is R2.le i2 h1
    have e := strs_is h2 l
    subst e
    exact ⟨s, p, ys, rfl, rfl, hp, h3, by
      rw [TL.join_eq]
      exact k _ (.str _) F2 H2 en2 (e1.trans e2) R2 rfl h4⟩⟩
/-! ### a constant table with text keys -/
def KTab (K : Fg) (w : World) (a : Addr) (tb : List (Str × D)) : Prop := ∀ z d, tb.lookup z = some d → ∃ v, KDct K w a z v ∧ ∀ F, Is ⟨K, w⟩ F d v
def dKdx (tb : List (Str × D)) (e : TDE) : TDE := fun en Q Qe => e en (fun d en1 => ∃ z v, d = .str z ∧ tb.lookup z = some v ∧ Q v en1) Qe
theorem de_kdx {y : Str} {tb : List (Str × D)} {p pos : Pos} {e : Expr} {te : TE} {td : TDE} (hg : Gl X y) (hm : X.mg y = some (.ref (He.ga X.K y))) (ht : KTab X.K X.w (He.ga X.K y) tb) (h : DE X W e te td) (hs : PlainIx e := by exact fun _ _ => rfl) (hd : (y == ("__debug__" : Str)) = false := by decide) :
    DE X W (.Subscript (.Name y p) e pos) (tOp (rIxD X.K X.w) (tC (.ref (He.ga X.K y))) te) (dKdx tb td) := ⟨pe_ix ix_kdict (pe_const hg hm rfl hd) h.pe hs, fun G F H σ en Q Qd Qe R q x k => h.sim G F H σ en _ _ Qe R q x fun v d F1 H1 en1 e1 R1 i1 q1 => by
  obtain ⟨z, u, rfl, h1, h2⟩ := q1
  cases i1
  obtain ⟨w, h3, h4⟩ := ht z u h1
  exact ⟨_, z, w, rfl, rfl, h3, k w u F1 H1 en1 e1 R1 (h4 F1) h2⟩⟩
/-- the table's values, flat -/
def dvD : He.Dv → Option D
  | .non => some .non
  | .bl b => some (.bl b)
  | .int i => some (.int i)
  | .str s => some (.str s)
  | _ => none
theorem dvD_is {F : Hp} : ∀ {v : He.Dv} {d : D}, dvD v = some d → Is K F d (v.v K)
  | .non, _, h => by cases h; rfl
  | .bl _, _, h => by cases h; rfl
  | .int _, _, h => by cases h; rfl
  | .str _, _, h => by cases h; rfl
  | .byt _, _, h => nomatch h
  | .flt _, _, h => nomatch h
  | .ty _, _, h => nomatch h
  | .glo _, _, h => nomatch h
  | .adr _, _, h => nomatch h
theorem ktab_of {w : World} {a : Addr} {kvs : List (Str × He.Dv)} {tb : List (Str × D)} (hk : ∃ es n, KDict K w a es n) (hv : He.valsB K a kvs = true) (he : kvs.map (fun q => (q.1, dvD q.2)) = tb.map fun q => (q.1, some q.2)) : KTab K w a tb := by
  obtain ⟨es, n, hk⟩ := hk
  intro z d hz
  have m : (z, d) ∈ tb := by
    clear he
    induction tb with
    | nil => cases hz
    | cons p r ih =>
      rw [List.lookup_cons] at hz
      split at hz
      · rename_i e
        cases hz
        have : z = p.1 := by simpa using e
        rw [this]
        exact List.mem_cons_self ..
      · exact List.mem_cons_of_mem _ (ih hz)
  have m2 : (z, some d) ∈ kvs.map (fun q => (q.1, dvD q.2)) := by
    rw [he]
    exact List.mem_map.mpr ⟨_, m, rfl⟩
  obtain ⟨q, hq, e⟩ := List.mem_map.mp m2
  obtain ⟨u, h1, h2⟩ := He.valsB_ok hv hq
  injection e with e1 e2
  subst e1
  exact ⟨_, ⟨es, n, u, hk.at_, hk.lit, h1, h2⟩, fun F => dvD_is e2⟩
end

/-! ### def f(a, .., *rest) -/
/-- what the caller hands: n values and the rest -/
def stSp (n : Nat) (sd : SpD) : SpD := fun ds Qd Qe => n ≤ ds.length ∧ ds.length ≤ sizeLine ∧ sd (ds.take n ++ [.tup (ds.drop n)]) Qd Qe
section
variable {P : Program} {w : World} {K : KW} {mg : Str → Option Value} {base : Heap}
theorem spOf_star {n : Nat} {sd : SpD} {vs : List V} {H : Hp} {Q : VK} {E : XK} (h : spOf K [] (stSp n sd) vs H Q E) : ∃ ws rest, vs = ws ++ rest ∧ ws.length = n ∧ rest.length ≤ sizeLine ∧ ∀ p, H p = Option.none → spOf K [] sd (ws ++ [V.ref p]) (upd H p (.tup rest)) Q E := by
  obtain ⟨F, ds, Qd, Qe, e, A, ⟨h1, h2, h3⟩, k1, k2⟩ := h
  have hl := A.len
  refine ⟨vs.take n, vs.drop n, (List.take_append_drop n vs).symm, by rw [List.length_take]; omega, by rw [List.length_drop]; omega, fun p hp => ?_⟩
  have fp : F p = none := by
    cases q : F p with
    | none => rfl
    | some u => rw [e _ _ q] at hp; cases hp
  have eF : Same F (upd F p (.tup (vs.drop n))) := same_upd fp
  have il : IsL K F ds vs := by
    clear h1 h2 h3 k1 k2
    have go : ∀ (ds : List D) (vs : List V), vs.length = ds.length → (∀ (i : Nat) d, ds[i]? = some d → ∃ v, vs[i]? = some v ∧ Is K F d v) → IsL K F ds vs := by
      intro ds
      induction ds with
      | nil =>
        intro vs hl _
        cases vs with
        | nil => rfl
        | cons v r => simp at hl
      | cons d r ih =>
        intro vs hl hg
        cases vs with
        | nil => simp at hl
        | cons v rv =>
          obtain ⟨u, hu, i⟩ := hg 0 d rfl
          cases hu
          exact ⟨v, rv, rfl, i, ih rv (by simpa using hl) fun i d h => hg (i + 1) d (by simpa using h)⟩
    exact go ds vs hl fun i d h => A.fz i d h (by simp)
  refine ⟨upd F p (.tup (vs.drop n)), ds.take n ++ [.tup (ds.drop n)], Qd, Qe, fun a o q => ?_, argsL ((IsL.mono eF _ _ (il.take n)).append (IsL.single (show Is K _ (.tup (ds.drop n)) _ from ⟨p, vs.drop n, rfl, .inl (.inl upd_same), IsL.mono eF _ _ (il.drop n)⟩))), h3, fun v r outs F' H' po i os q => k1 v r outs F' H' (post_upd hp fp po) i os q, fun x outs cls d F' H' po i os q => k2 x outs cls d F' H' (post_upd hp fp po) i os q⟩
  by_cases z : a = p
  · subst z
    rw [upd_same] at q ⊢
    exact q
  · rw [upd_ne z] at q ⊢
    exact e _ _ q
where
  argsL {F H : Hp} {ds : List D} {vs : List V} (i : IsL K F ds vs) : ArgsR K F H [] vs ds := ⟨i.length, fun j d h _ => i.get h, fun j d h m => absurd m (by simp), fun i j a m => absurd m (by simp)⟩
  post_upd {F H F' H' : Hp} {p : Addr} {u : HO} {as : List Addr} (hp : H p = none) (fp : F p = none) (po : Post (upd F p u) (upd H p u) F' H' as) : Post F H F' H' as := ⟨(same_upd fp).trans po.f, po.le, fun a o q m => po.keep a o (by
      rw [upd_ne (fun z => by rw [z, hp] at q; cases q)]
      exact q) m, fun a q1 q2 => po.new a (by
      rw [upd_ne (fun z => by rw [z] at q2; exact q2 hp)]
      exact q1) (by
      rw [upd_ne (fun z => by rw [z] at q2; exact q2 hp)]
      exact q2), po.there⟩
/-- a def whose last parameter takes what is left over -/
theorem fnD_star {K : Fg} {x qual : Str} {params : Arguments} {body : List Stmt} {scope : Scope} {f : Addr} {fd : FuncData} {N ps : List Str} {pv : Str} {k : Nat} {sd : SpD} {td : TDS} (F : FunD K x qual params body scope [] [] f fd) (S : FnScope N (ps ++ [pv]) scope)
    (hb : ∀ (kV doc pm : Value) (an : Option Addr) (cdv ct : Value) (us rest : List Value), us.length = ps.length → bindArgs (PySem.W.fnOf x qual params body scope .none kV doc pm an cdv ct) ⟨us ++ rest, []⟩ = (newTuple rest >>= fun t => pure (ps.zip us ++ [(pv, t)])))
    (hps : (ps ++ [pv]).length ≤ N.length) (len : ∀ ds Qd Qe, sd ds Qd Qe → ds.length = (ps ++ [pv]).length)
    (walk : ∀ (cdv : Value) (A : Around) (outer : List Env) (s : Shared) (H : Hp) (E : XK), Room k (A.deeper (PyProof.Rows.envOfC qual scope s.heap.objs.size f cdv)) →
      ∃ ts, DSs (cxOf (L2.CX P w) P w K mg base N qual scope f cdv A outer s H E) (wBody E) body ts td)
    (rd : ∀ ds Qd Qe, sd ds Qd Qe → td (endsD [] Qd Qe) (startE N.length [] ds)) : FnD P w K mg base (k + 1) f [] (stSp ps.length sd) := by
  obtain ⟨oc, od, dV, kV, doc, pm, an, cdv, ct, osl, rfl, lk, hcd, hD, hK⟩ := F.ex
  rcases hD with ⟨_, rfl⟩ | ⟨e, _⟩
  · refine FnR.imp (StX.fn_star (sp := spOf ⟨K, w⟩ [] sd) lk hcd S StX.cxUp (hb kV doc pm an cdv ct) fun A outer s H vs Q E hr h => ?_) fun vs H Q E h => spOf_star h
    obtain ⟨F', ds, Qd, Qe, e, A', h, h1, h2⟩ := h
    obtain ⟨ts, wk⟩ := walk cdv A outer s H E hr
    refine ⟨ts, wk.ps, ?_⟩
    have hl := len ds Qd Qe h
    have R := start_rel (N := N) e A' (by rw [hl]; exact hps) (by simp)
    refine wk.sim _ F' H _ _ _ _ R (rd ds Qd Qe h) ⟨fun F1 H1 σ en R1 q => ?_, fun v d F1 H1 σ en _ R1 i q => ?_, fun F1 H1 σ en R1 q => q.elim, fun F1 H1 σ en R1 q => q.elim, fun x F1 H1 σ en cls d R1 i q => ?_, fun a d F1 H1 σ en z => (nomatch z)⟩
    · obtain ⟨_, outs, q1, q2⟩ := q
      exact h1 _ .non outs F1 H1 (rel_post R1) rfl (outs_rel (by simp) R1 q1) q2
    · obtain ⟨outs, q1, q2⟩ := q
      exact h1 _ d outs F1 H1 (rel_post R1) i (outs_rel (by simp) R1 q1) q2
    · obtain ⟨outs, q1, q2⟩ := q
      exact h2 x outs cls d F1 H1 (rel_post R1) i (outs_rel (by simp) R1 q1) q2
  · exact absurd rfl e
end
end DL

/-! The D layer, part 14: an own binary operator with an int on its right. -/
namespace DL
open PySem L2 PySem.W PySem.Spec PyProof.Rows

theorem sub_int_ref (C : Addr) : isSubtype (.type "int") (.ref C) = pure false := by
  unfold isSubtype
  rfl
section
variable {prog : Program} {w : World} {A : Around} {E : Value → Shared → Prop} {s : Shared} {K : Fg} {x C L f g : Addr} {h₀ : Heap} {m : Str → Option Value} {ox : Obj} {od : Option Obj}
theorem op1_KI {nm : String} {b : Value} {r : Option Value} {Q : Option Value → Shared → Prop} (X : K.In s.heap) (I : PySem.W.InstAt s.heap x ox C od) (hb : PySem.W.Looks (model prog w) s.heap (typeOf b) (.type "int")) (hc : PySem.W.selfFirst K C = true)
    (hs : PySem.W.findIn K (.ref C) (PySem.dunder nm) = some (some (.ref f))) (hf : PySem.W.isFn K (.ref f) = true) (hs2 : PySem.W.findIn K (.ref C) (PySem.dunderR nm) = some (some (.ref g)))
    (hfill : fillsNumberSlot (.type "int") nm = pure true) (hrad : typeLookup (.type "int") (PySem.dunderR nm) = pure r)
    (h : wpAny (model prog w) A (tryMethod (.ref x) (PySem.dunder nm) b) (fun o s' => o.isSome = true ∧ Q o s') E s) : wpAny (model prog w) A (binaryOp1 nm (.ref x) b) Q E s := by
  obtain ⟨cd, hcd, hm⟩ := PySem.W.any_some hc
  obtain ⟨rest, hm⟩ : ∃ rest, cd.mro = .ref C :: rest := by
    cases q : cd.mro with
    | nil => rw [q] at hm; cases hm
    | cons a r => rw [q] at hm; exact ⟨r, by rw [List.head?_cons] at hm; cases (beq_iff_eq.mp hm); rfl⟩
  unfold binaryOp1
  refine wpAny_bind (I.type.here (wpAny_bind (hb.here (wpAny_bind ((PySem.W.fills_K X hcd hm hs).here ?_)))))
  rw [if_neg (show ¬ ((Value.ref C) == (Value.type "int")) = true from Bool.false_ne_true), hfill]
  refine wpAny_bind (wpAny_pure ?_)
  dsimp only
  rw [if_pos (show (true && true) = true from rfl), sub_int_ref]
  refine wpAny_bind (wpAny_pure ?_)
  rw [if_neg Bool.false_ne_true, if_neg Bool.false_ne_true, if_pos (show (true && true && !false) = true from rfl)]
  have np : PySem.W.Looks (model prog w) s.heap (numberSlotInPython (.ref C) nm) true := by
    intro A Q E s' k q
    unfold numberSlotInPython
    refine wpAny_bind (PySem.W.looks_findIn X hs A _ E s' k ?_)
    refine wpAny_bind (wpAny_pure (wpAny_bind (PySem.W.looks_findIn X hs2 A _ E s' k ?_)))
    refine wpAny_bind (wpAny_pure ?_)
    rw [if_pos (show (true || true) = true from rfl)]
    exact wpAny_pure q
  refine wpAny_bind (np.here ?_)
  rw [if_pos rfl]
  refine wpAny_bind (wpAny_pure ?_)
  rw [if_pos (show (!false) = true from rfl), hrad]
  refine wpAny_bind (wpAny_pure ?_)
  rw [if_pos rfl]
  refine wpAny_bind (wpAny_mono h (fun o s' z => ?_) fun _ _ z => z)
  obtain ⟨z1, z2⟩ := z
  cases o with
  | none => cases z1
  | some v => exact wpAny_pure z2
theorem binop_KI {op : Operator} {b : Value} {r : Option Value} {Q : Value → Shared → Prop} (F : Fr h₀ L s.heap m) (X₀ : K.In h₀) (I : PySem.W.InstAt s.heap x ox C od) (hb : PySem.W.Looks (model prog w) s.heap (typeOf b) (.type "int")) (hc : PySem.W.selfFirst K C = true)
    (hs : PySem.W.findIn K (.ref C) (PySem.dunder op.info.2) = some (some (.ref f))) (hf : PySem.W.isFn K (.ref f) = true) (hs2 : PySem.W.findIn K (.ref C) (PySem.dunderR op.info.2) = some (some (.ref g)))
    (hfill : fillsNumberSlot (.type "int") op.info.2 = pure true) (hrad : typeLookup (.type "int") (PySem.dunderR op.info.2) = pure r)
    (h : wpAny (model prog w) A (call (.ref f) [.ref x, b]) (PySem.W.CmpBack Q) E s) : wpAny (model prog w) A (binaryOp op (.ref x) b) Q E s := by
  have X := X₀.keeps F.keep
  unfold binaryOp
  refine wpAny_holding (wpAny_bind (op1_KI X I hb hc hs hf hs2 hfill hrad ?_))
  unfold tryMethod
  refine wpAny_bind (PySem.W.special_fn X I hs (beq_iff_eq.mp hf) (wpAny_mono h (fun v s' hv => ?_) fun _ _ e => e))
  cases v <;> first | exact hv.elim | exact wpAny_pure ⟨rfl, wpAny_pure hv⟩
end

/-- what of the text an own operator with an int on its right must have -/
structure BinOkI (K : Fg) (C f g : Addr) (op : Operator) : Prop where
  b : BinOk K C f (PySem.dunder op.info.2)
  r : PySem.W.findIn K (.ref C) (PySem.dunderR op.info.2) = some (some (.ref g))
def opIB (C : Str) (op : Operator) (K : Fg) : Bool := opB C (PySem.dunder op.info.2) K && PySem.W.isFn K (.ref (He.ma K (He.ga K C) (PySem.dunderR op.info.2))) && He.eqO (PySem.W.findIn K (.ref (He.ga K C)) (PySem.dunderR op.info.2)) (some (some (.ref (He.ma K (He.ga K C) (PySem.dunderR op.info.2)))))
theorem opIB_ok {K : Fg} {C : Str} {op : Operator} (h : opIB C op K = true) : BinOkI K (He.ga K C) (He.ma K (He.ga K C) (PySem.dunder op.info.2)) (He.ma K (He.ga K C) (PySem.dunderR op.info.2)) op := by
  obtain ⟨h1, h3⟩ := He.ba h
  obtain ⟨h1, h2⟩ := He.ba h1
  exact ⟨opB_ok h1, He.eqO_ok h3⟩
def rOwnI (C : Addr) (sp : Sp) (W : WX) (σ : L2.St) : R2 := fun x y H Q => ∃ a dx fs i, x = .ref a ∧ H a = some (.ins C dx fs) ∧ y = .int i ∧ sp [x, y] H Q fun c d H => W c d σ H
def tOwnI (C : Addr) (sp : Sp) (W : WX) (ta tb : TE) : TE := fun σ H Q => ta σ H fun x H1 => tb σ H1 fun y H2 => rOwnI C sp W σ x y H2 Q
def dOwnI (C : String) (sd : SpD) (da db : TDE) : TDE := fun en Q Qe => da en (fun x en1 => db en1 (fun y en2 => (∃ ns vs, x = .obj C ns vs) ∧ (∃ i, y = .int i) ∧ sd [x, y] (fun r _ => Q r en2) fun x _ => Qe x en2) Qe) Qe
section
variable {X : Cx} {W : WX}
theorem de_ownI {k : Nat} {f g : Addr} {C : String} {sd : SpD} {op : Operator} {a b : Expr} {pos : Pos} {ta tb : TE} {da db : TDE} {r : Option Value} (B : BinOkI X.K (He.ga X.K C) f g op) (F : FnD X.prog X.w X.K X.mg X.base k f [] sd) (hr : Room k X.A) (tk : Takes X W)
    (hfill : fillsNumberSlot (.type "int") op.info.2 = pure true) (hrad : typeLookup (.type "int") (PySem.dunderR op.info.2) = pure r) (ha : DE X W a ta da) (hb : DE X W b tb db) :
    DE X W (.BinOp a op b pos) (tOwnI (He.ga X.K C) (spOf (kk X) [] sd) W ta tb) (dOwnI C sd da db) := ⟨⟨fun pins s σ H Q I h => wpAny_BinOp (binT ha.pe hb.pe I h fun v u s2 x y H2 I2 rx ry q => by
      obtain ⟨a, dx, fs, i, rfl, ea, rfl, q⟩ := q
      obtain rfl : v = Value.ref a := rx
      obtain ⟨t, rfl⟩ := id ry
      obtain ⟨mA, J, _⟩ := ins_get I2.hok ea
      obtain ⟨od, J, _⟩ := J.look
      obtain ⟨m, hF⟩ := I2.fr
      exact binop_KI hF I2.ok.mod.kin J (PySem.W.Looks.of_pure rfl) B.b.sf B.b.at_ B.b.fn B.r hfill hrad (call_own (vs := [.ref a, .int i]) F hr tk I2 (.cons rfl (.cons ry .nil)) q))⟩, fun G F H σ en Q Qd Qe R q x k =>
  ha.sim G F H σ en _ _ Qe R q x fun v d F1 H1 en1 e1 R1 i1 q1 => hb.sim G F1 H1 σ en1 _ _ Qe R1 q1 x fun u d2 F2 H2 en2 e2 R2 i2 q2 => by
    obtain ⟨⟨ns, ds, rfl⟩, ⟨i, rfl⟩, q2⟩ := q2
    have i1 := Is.mono e2 _ _ i1
    obtain ⟨a, dx, vs, rfl, s, n, l⟩ := id i1
    cases i2
    exact ⟨a, dx, _, i, rfl, R2.le _ _ s, rfl, sp_run (ds := [.obj C ns ds, .int i]) (Qd := fun r => Qd r en2) (Qe := fun x => Qe x en2) R2 ⟨_, _, rfl, i1, IsL.single (show Is (kk X) F2 (.int i) (.int i) from rfl)⟩ q2 (fun v r F3 H3 e3 R3 i3 q3 => k v r F3 H3 en2 ((e1.trans e2).trans e3) R3 i3 q3)
      fun y cls d F3 H3 R3 i3 q3 => x y F3 H3 σ en2 cls d R3 i3 q3⟩⟩
end

/-! ### x in a name's own list -/
def dInV (neg : Bool) (i : Nat) (a : TDE) : TDE := fun en Q Qe => a en (fun x en1 => match peek en1 i with
  | some l => inD neg x l fun z => Q z en1
  | none => False) Qe
section
variable {X : Cx} {W : WX} {K : KW}
theorem inD_own {neg : Bool} {G : Gh} {F H : Hp} {σ : L2.St} {en : En} {a : Addr} {x : V} {dx dy : D} {Q : VK} {Qd : D → Prop} (R : Rel K G F H σ en) (ix : Is K F dx x) (iy : OwAt K F H a dy) (q : inD neg dx dy Qd)
    (k : ∀ z dz, Is K F dz z → Qd dz → Q z H) : rInX K neg x (.ref a) H Q := by
  unfold inD at q
  split at q
  · obtain ⟨vs, ha, la⟩ := iy
    exact .inl <| .inl ⟨a, vs, rfl, .inl (SqL.of ha), flatV_of ix q.1, flatL_of la q.2.1, k _ _ iB (by rw [neg_if, inV_of ix q.1 la q.2.1]; exact q.2.2)⟩
  · exact iy.elim
  · exact iy.elim
  · exact iy.elim
  · obtain ⟨ks, kvs, us, hh⟩ := dhas_ow iy
    exact .inr (in_dct R.le ix hh q k)
  · exact q.elim
theorem sim_inV {neg : Bool} {i : Nat} {ta : TE} {da : TDE} (ha : Sim K W ta da) : Sim K W (tOp (rInX K neg) ta (tVar i)) (dInV neg i da) := fun G F H σ en Q Qd Qe R q x k =>
  ha G F H σ en _ _ Qe R q x fun v d F1 H1 en1 e1 R1 i1 q1 => by
    split at q1
    · rename_i l e
      obtain ⟨u, h1, h2⟩ := peek_own R1 e
      refine ⟨u, h1, ?_⟩
      rcases h2 with h2 | ⟨a, rfl, h2⟩
      · exact sim_in G F1 H1 σ en1 v u d l Q (fun z => Qd z en1) R1 i1 h2 q1 fun z dz F3 H3 e3 R3 i3 q3 => k z dz F3 H3 en1 (e1.trans e3) R3 i3 q3
      · exact inD_own R1 i1 h2 q1 fun z dz i q' => k z dz F1 H1 en1 e1 R1 i q'
    · exact q1.elim
section
variable {i : Nat} {a : Expr} {y : Str} {p pos : Pos} {ta : TE} {da : TDE}
theorem de_inV (hu : X.A.units + 64 < cLine) (ha : DE X W a ta da) (hN : X.N[i]? = some y := by rfl) (hv : Vis X.env.scope y := by first | exact Or.inl rfl | exact Or.inr (Or.inl rfl) | exact Or.inr (Or.inr rfl)) (hd : (y == ("__debug__" : Str)) = false := by decide)
    (hcd : (y == ("__classdict__" : Str)) = false := by decide) : DE X W (.Compare a [.In] [.Name y p] pos) (tOp (rInX (kk X) false) ta (tVar i)) (dInV false i da) := ⟨pe_cmpR (op_inX hu) ha.pe (pe_var hN hv hd hcd) rfl, sim_inV ha.sim⟩
theorem de_notInV (hu : X.A.units + 64 < cLine) (ha : DE X W a ta da) (hN : X.N[i]? = some y := by rfl) (hv : Vis X.env.scope y := by first | exact Or.inl rfl | exact Or.inr (Or.inl rfl) | exact Or.inr (Or.inr rfl)) (hd : (y == ("__debug__" : Str)) = false := by decide)
    (hcd : (y == ("__classdict__" : Str)) = false := by decide) : DE X W (.Compare a [.NotIn] [.Name y p] pos) (tOp (rInX (kk X) true) ta (tVar i)) (dInV true i da) := ⟨pe_cmpR (op_notInX hu) ha.pe (pe_var hN hv hd hcd) rfl, sim_inV ha.sim⟩
theorem dt_inV (hu : X.A.units + 64 < cLine) (ha : DE X W a ta da) (hN : X.N[i]? = some y := by rfl) (hv : Vis X.env.scope y := by first | exact Or.inl rfl | exact Or.inr (Or.inl rfl) | exact Or.inr (Or.inr rfl)) (hd : (y == ("__debug__" : Str)) = false := by decide)
    (hcd : (y == ("__classdict__" : Str)) = false := by decide) : DT X W (.Compare a [.In] [.Name y p] pos) (tTest (tOp (rInX (kk X) false) ta (tVar i))) (dTest (dInV false i da)) := ⟨pt_cmpR (op_inX hu) ha.pe (pe_var hN hv hd hcd) rfl, sim_test (sim_inV ha.sim)⟩
theorem dt_notInV (hu : X.A.units + 64 < cLine) (ha : DE X W a ta da) (hN : X.N[i]? = some y := by rfl) (hv : Vis X.env.scope y := by first | exact Or.inl rfl | exact Or.inr (Or.inl rfl) | exact Or.inr (Or.inr rfl)) (hd : (y == ("__debug__" : Str)) = false := by decide)
    (hcd : (y == ("__classdict__" : Str)) = false := by decide) : DT X W (.Compare a [.NotIn] [.Name y p] pos) (tTest (tOp (rInX (kk X) true) ta (tVar i))) (dTest (dInV true i da)) := ⟨pt_cmpR (op_notInX hu) ha.pe (pe_var hN hv hd hcd) rfl, sim_test (sim_inV ha.sim)⟩
end
end
/-! ### what the readings unfold to -/
@[simp ↓] theorem r_InV {neg : Bool} {i : Nat} {a : TDE} {en : En} {Q : D → En → Prop} {Qe : Qx} : dInV neg i a en Q Qe = a en (fun x en1 => match peek en1 i with | some l => inD neg x l fun z => Q z en1 | none => False) Qe := by rfl
@[simp ↓] theorem r_OwnI {C : String} {sd : SpD} {a b : TDE} {en : En} {Q : D → En → Prop} {Qe : Qx} : dOwnI C sd a b en Q Qe = a en (fun x en1 => b en1 (fun y en2 => (∃ ns vs, x = .obj C ns vs) ∧ (∃ i, y = .int i) ∧ sd [x, y] (fun r _ => Q r en2) fun x _ => Qe x en2) Qe) Qe := by rfl
@[simp ↓] theorem r_Kdx {tb : List (Str × D)} {e : TDE} {en : En} {Q : D → En → Prop} {Qe : Qx} : dKdx tb e en Q Qe = e en (fun d en1 => ∃ z v, d = .str z ∧ tb.lookup z = some v ∧ Q v en1) Qe := by rfl
@[simp ↓] theorem r_List {a : TDE} {en : En} {Q : D → En → Prop} {Qe : Qx} : dList a en Q Qe = a en (fun d en1 => match seqOf d with | some xs => Q (.lst xs) en1 | none => False) Qe := by rfl
@[simp ↓] theorem r_seqL {l : List D} : seqOf (.lst l) = some l := by rfl
@[simp ↓] theorem r_seqK {l : List D} : seqOf (.lck l) = some l := by rfl
@[simp ↓] theorem r_seqT {l : List D} : seqOf (.tup l) = some l := by rfl
@[simp ↓] theorem r_tupL {l : List D} {Q : D → Prop} : tupleD [.lst l] Q = Q (.tup l) := by rfl
@[simp ↓] theorem r_tupK {l : List D} {Q : D → Prop} : tupleD [.lck l] Q = Q (.tup l) := by rfl
@[simp ↓] theorem r_tupT {l : List D} {Q : D → Prop} : tupleD [.tup l] Q = Q (.tup l) := by rfl
@[simp ↓] theorem r_strI {i : Int} {Q : D → Prop} : strD [.int i] Q = (i.natAbs.log2 < 1920 ∧ Q (.str (toString i))) := by rfl
@[simp ↓] theorem r_strS {i : Str} {Q : D → Prop} : strD [.str i] Q = Q (.str i) := by rfl
@[simp ↓] theorem r_Join {a b : TDE} {en : En} {Q : D → En → Prop} {Qe : Qx} : dJoin a b en Q Qe = a en (fun x en1 => (∃ s, x = .str s) ∧ b en1 (fun y en2 => joinD x y fun z => Q z en2) Qe) Qe := by rfl
@[simp ↓] theorem r_stSp {n : Nat} {sd : SpD} {ds : List D} {Qd : D → List D → Prop} {Qe : Exn → List D → Prop} : stSp n sd ds Qd Qe = (n ≤ ds.length ∧ ds.length ≤ sizeLine ∧ sd (ds.take n ++ [.tup (ds.drop n)]) Qd Qe) := by rfl
end DL

/-! The D layer, part 15: {}, displays, get. -/
namespace DL
open PySem L2

section
variable {X : Cx} {W : WX} {K : KW} {pos : Pos}
theorem inv_big {pins : List (Addr × Obj)} {σ : L2.St} {H : Hp} {s : Shared} (I : L2.Inv X pins σ H s) : (s.heap.objs.size == sysModules) = false := beq_eq_false_iff_ne.mpr (Ne.symm (Nat.ne_of_lt I.big))
def tDNewX (K : KW) : TE := fun _ H Q => ∀ p, H p = none → (p == sysModules) = false → Q (.ref p) (upd H p (.ext (DkΦ K.w p [] [] [])))
theorem pe_dnewX : PE X (.Dict [] [] pos) (tDNewX (kk X)) := ⟨fun pins s σ H Q I h =>
  wpAny_Dict_empty ⟨.ref s.heap.objs.size, _, I.laid (a := s.heap.objs.size) (o := .ext (DkΦ X.w s.heap.objs.size [] [] [])) (t' := s.toks) (fun _ _ q => Heap.get?_push_of_some _ q) (Nat.le_refl _) (dkφ_ext ⟨_, Heap.get?_push_size _ rfl, ⟨rfl, rfl, rfl⟩, ⟨#[], 0, rfl, .nil⟩, List.nodup_nil⟩), rfl, h _ (I.hok.fresh (Nat.le_refl _)) (inv_big I)⟩⟩
def dNewD : TDE := fun en Q _ => Q (.dct [] []) en
theorem do_dnew : DO X W (.Dict [] [] pos) (tDNewX (kk X)) dNewD := ⟨pe_dnewX, fun G F H σ en Q Qd Qe R q x k p hp hs => by
  have R2 : Rel (kk X) G F (upd H p (.ext (DkΦ X.w p [] [] []))) σ en := R.fresh hp
  exact k p (.dct [] []) F _ en (Same.refl F) R2 (Tmp.of R hp ⟨[], [], [], upd_same, hs, ⟨rfl, Nat.zero_le _⟩, rfl, rfl⟩) q⟩

/-! ### displays with written texts as keys -/
theorem dk_conv {pins : List (Addr × Obj)} {σ : L2.St} {H : Hp} {s : Shared} {p : Addr} {kvs : List (Key × V)} (I : L2.Inv X pins σ H s) (h : H p = some (.dK kvs)) : (p == sysModules) = false ∧ L2.Inv X pins σ (upd H p (.ext (DkΦ X.w p (kvs.map fun q => nkM q.1) (kvs.map fun q => kV q.1) (kvs.map (·.2))))) s := by
  obtain ⟨z, hs, vs, rel, dd⟩ := I.hok p _ h
  have r : Vals (kvs.map (·.2)) (vs.map (·.2)) := by
    clear dd h z
    unfold KV at rel
    induction rel with
    | nil => exact .nil
    | cons r _ ih => exact .cons r.2 ih
  have e1 : (vs.map fun v => (fkM X.prog X.w).nk v.1) = kvs.map fun q => nkM q.1 := by
    clear dd h z r
    unfold KV at rel
    induction rel with
    | nil => rfl
    | cons r _ ih => rw [List.map_cons, List.map_cons, ih, ← r.1]; rfl
  have e2 : (vs.map fun v => (fkM X.prog X.w).kv v.1) = kvs.map fun q => kV q.1 := by
    clear dd h z r e1
    unfold KV at rel
    induction rel with
    | nil => rfl
    | cons r _ ih => rw [List.map_cons, List.map_cons, ih, ← r.1]; rfl
  have bk := (fkM X.prog X.w).back dd (fun _ _ => trivial) r
  rw [e1, e2] at bk
  have ho : ∃ u, s.heap.get? p = some u := bk.imp fun _ y => y.1
  exact ⟨hs, I.write (x := p) (e := p) (t' := s.toks) (h' := s.heap) (by rw [h]; exact True.intro) (.inl rfl) (fun b v _ q => q) ho (dkφ_ext bk)⟩
/-- keys and values, from the left -/
def dPrs : List (Str × TDE) → TDA
  | [] => fun en Q _ => Q [] en
  | (_, e) :: r => fun en Q Qe => e en (fun d en1 => dPrs r en1 (fun ds en2 => Q (d :: ds) en2) Qe) Qe
def SimPs (K : KW) (W : WX) (trs : List (TE × TE)) (ks : List Str) (td : TDA) : Prop := ∀ G F H σ en (Q : List (V × V) → Hp → Prop) Qd Qe, Rel K G F H σ en → td en Qd Qe → XR K W G Qe →
  (∀ vs ds F' H' en', Same F F' → Rel K G F' H' σ en' → IsL K F' ds vs → vs.length = ks.length → Qd ds en' → Q ((ks.map V.str).zip vs) H') → tPairs trs σ H Q
structure DPs (X : Cx) (W : WX) (pos : Pos) (keys : List (Option Expr)) (values : List Expr) (trs : List (TE × TE)) (ks : List Str) (td : TDA) : Prop where
  pps : PPs X pos keys values trs
  sim : SimPs (kk X) W trs ks td
  len : keys.length = ks.length ∧ values.length = ks.length ∧ keys.all (·.isSome) = true
theorem dps_nil : DPs X W pos [] [] [] [] (dPrs []) := ⟨pps_nil, fun G F H σ en Q Qd Qe R q x k => k [] [] F H en (Same.refl F) R rfl rfl q, rfl, rfl, rfl⟩
theorem dps_cons {k : Str} {v : Expr} {ks : List (Option Expr)} {vs : List Expr} {tv : TE} {trs : List (TE × TE)} {td : TDE} {xs : List Str} {r : List (Str × TDE)} {j : Nat} {p : Pos} (h : DE X W v tv td) (hr : DPs X W pos ks vs trs xs (dPrs r)) :
    DPs X W pos (some (.Constant (.str k) j p) :: ks) (v :: vs) ((tC (.str k), tv) :: trs) (k :: xs) (dPrs ((k, td) :: r)) := ⟨pps_cons pe_str h.pe hr.pps, fun G F H σ en Q Qd Qe R q x kk' => by
  refine h.sim G F H σ en _ _ Qe R q x fun u d F1 H1 en1 e1 R1 i1 q1 => hr.sim G F1 H1 σ en1 _ _ Qe R1 q1 x fun us ds F2 H2 en2 e2 R2 i2 l2 q2 => ?_
  exact kk' (u :: us) (d :: ds) F2 H2 en2 (e1.trans e2) R2 ⟨u, us, rfl, Is.mono e2 _ _ i1, i2⟩ (by simp [l2]) q2, by simp [hr.len.1], by simp [hr.len.2.1], by simp [hr.len.2.2]⟩
def txd (ks : List Str) : List D := ks.map D.str
theorem nkL_txd : ∀ {ks : List Str}, nkL (txd ks) = some (ks.map .text)
  | [] => rfl
  | k :: ks => nkL_cons' rfl (nkL_txd (ks := ks))
theorem is_txd {F : Hp} : ∀ ks : List Str, IsL K F (txd ks) (ks.map V.str)
  | [] => rfl
  | k :: ks => ⟨_, _, rfl, rfl, is_txd ks⟩
theorem merge_new : ∀ (more kvs : List (Key × V)), ((kvs ++ more).map (·.1)).Nodup → mergeK kvs more = kvs ++ more
  | [], kvs, _ => by simp [mergeK]
  | kv :: more, kvs, h => by
    have e : putK kvs kv.1 kv.2 = kvs ++ [kv] := by
      refine putK_new _ ?_
      unfold valV
      rw [Option.map_eq_none_iff, List.find?_eq_none]
      intro y hy z
      have z := of_decide_eq_true z
      rw [List.map_append, List.nodup_append] at h
      exact h.2.2 y.1 (List.mem_map.mpr ⟨y, hy, rfl⟩) kv.1 (by simp) z
    show mergeK (putK kvs kv.1 kv.2) more = _
    rw [e, merge_new more (kvs ++ [kv]) (by rw [List.append_assoc]; exact h), List.append_assoc]
    rfl
/-- an object that no slot holds, and that stays through what is read now -/
structure AsideN (K : KW) (G : Gh) (F H : Hp) (σ : L2.St) (en : En) (a : Addr) : Prop where
  nf : F a = none
  at_ : H a ≠ none
  n0 : ¬ G.P a ∧ ∀ p ∈ G.io, p.2 ≠ a
  ns : ∀ (i : Nat) b e, en[i]? = some (some (Ent.ow b e)) → σ[i]? ≠ some (some (V.ref a))
section
variable {G : Gh} {F H F' H' : Hp} {σ σ' : L2.St} {en en' : En} {a : Addr}
theorem AsideN.of (R : Rel K G F H σ en) {p : Addr} {o : HO} (h : H p = none) : AsideN K G F (upd H p o) σ en p := ⟨R.free h, by rw [upd_same]; simp, R.free0 h, fun i b e h1 h2 => by
  obtain ⟨a', k1, _, k3, _⟩ := R.ow i b e h1
  rw [h2] at k1
  cases k1
  exact k3.there h⟩
theorem AsideN.plus (T : AsideN K G F H σ en a) (R : Rel K G F H σ en) : Rel K (G.plus H a) F H σ en :=
  { R with
    pr := fun b z => by
      by_cases h : b = a
      · subst h
        show H b = (if b = b then H b else G.H0 b) ∧ (if b = b then H b else G.H0 b) ≠ none ∧ _
        rw [if_pos rfl]
        exact ⟨rfl, T.at_, fun _ => T.nf⟩
      · show H b = (if b = a then H a else G.H0 b) ∧ (if b = a then H a else G.H0 b) ≠ none ∧ _
        rw [if_neg h]
        exact R.pr b (z.elim id fun q => absurd q h)
    ow := fun i b d e => by
      obtain ⟨c, h1, h2, h3, h4, h5⟩ := R.ow i b d e
      exact ⟨c, h1, h2, h3, fun z => z.elim h4 fun q => T.ns i b d e (by rw [← q]; exact h1), h5⟩ }
theorem AsideN.minus (T : AsideN K G F H σ en a) (h0 : G.F0 a = none) (R : Rel K (G.plus H a) F' H' σ' en') : Rel K G F' H' σ' en' ∧ AsideN K G F' H' σ' en' a ∧ H' a = H a := by
  have p := R.pr a (.inr rfl)
  have p1 : H' a = (if a = a then H a else G.H0 a) := p.1
  rw [if_pos rfl] at p1
  have na : F' a = none := p.2.2 h0
  refine ⟨{ R with
    pr := fun b z => ?_
    ow := fun i b d k => ?_ }, ⟨na, by rw [p1]; exact T.at_, T.n0, fun i b d k1 k2 => ?_⟩, p1⟩
  · have hne : b ≠ a := fun q => T.n0.1 (by rw [← q]; exact z)
    have w := R.pr b (.inl z)
    have w1 : H' b = (if b = a then H a else G.H0 b) := w.1
    have w2 : (if b = a then H a else G.H0 b) ≠ none := w.2.1
    rw [if_neg hne] at w1 w2
    exact ⟨w1, w2, w.2.2⟩
  · obtain ⟨c, h1, h2, h3, h4, h5⟩ := R.ow i b d k
    exact ⟨c, h1, h2, h3, fun z => h4 (.inl z), h5⟩
  · obtain ⟨c, h1, h2, h3, h4, h5⟩ := R.ow i b d k1
    rw [k2] at h1
    cases h1
    exact h4 (.inr rfl)
/-- such an object is written -/
theorem AsideN.write (T : AsideN K G F H σ en a) (R : Rel K G F H σ en) (o : HO) : Rel K G F (upd H a o) σ en ∧ AsideN K G F (upd H a o) σ en a := by
  refine ⟨?_, T.nf, by rw [upd_same]; simp, T.n0, T.ns⟩
  refine R.step (fun z => z = a) (Same.refl F) (fun c u q => ?_) (fun c k1 k2 => absurd k1 k2) (fun c u q m => by rw [upd_ne m]; exact q) (fun c z => by subst z; exact ⟨T.n0.1, by rw [upd_same]; simp⟩) rfl (fun j f q => .inl q) fun j b f q => ?_
  · have ne : c ≠ a := fun z => by
      subst z
      rw [T.nf] at q
      cases q
    rw [upd_ne ne]
    exact R.le _ _ q
  · obtain ⟨a2, q1, q2, q3, _⟩ := R.ow j b f q
    refine ⟨a2, f, q1, q, q3.move (Same.refl F) (upd_ne fun z => ?_)⟩
    subst z
    exact T.ns j b f q q1
end
def tDispX (K : KW) (trs : List (TE × TE)) : TE := fun σ H Q => tDisp trs σ H fun v H' => ∃ (p : Addr) (kvs : List (Key × V)), v = .ref p ∧ H' p = some (.dK kvs) ∧ ((p == sysModules) = false → Q (.ref p) (upd H' p (.ext (DkΦ K.w p (kvs.map fun q => nkM q.1) (kvs.map fun q => kV q.1) (kvs.map (·.2))))))
theorem pe_dispX {keys : List (Option Expr)} {values : List Expr} {trs : List (TE × TE)} (h : PPs X pos keys values trs) (hall : keys.all (·.isSome) = true) (hl : keys.length = values.length) (h0 : keys ≠ []) (h15 : keys.length ≤ 15) : PE X (.Dict keys values pos) (tDispX (kk X) trs) := by
  refine ⟨fun pins s σ H Q I hq => thn ((pe_disp h hall hl h0 h15).run pins s σ H _ I hq) fun u s1 ⟨v, H1, I1, r, p, kvs, e1, e2, q⟩ => ?_⟩
  subst e1
  obtain ⟨hs, I2⟩ := dk_conv I1 e2
  exact ⟨.ref p, _, I2, r, q hs⟩
/-- a display, its keys texts written there, no two alike -/
def dDisp (prs : List (Str × TDE)) : TDE := fun en Q _ => dPrs prs en (fun ds en1 => Q (.dct (txd (prs.map (·.1))) ds) en1) fun _ _ => False
theorem zip_kv : ∀ (ks : List Str) (vs : List V), vs.length = ks.length → ∃ kvs : List (Key × V), (ks.map V.str).zip vs = kvs.map (fun kv => (kV kv.1, kv.2)) ∧ kvs.length = ks.length ∧ kvs.map (·.1) = ks.map Sum.inr ∧ (kvs.map fun q => nkM q.1) = ks.map .text ∧ (kvs.map fun q => kV q.1) = ks.map V.str ∧ kvs.map (·.2) = vs
  | [], [], _ => ⟨[], rfl, rfl, rfl, rfl, rfl, rfl⟩
  | [], _ :: _, h => by simp at h
  | _ :: _, [], h => by simp at h
  | k :: ks, v :: vs, h => by
    obtain ⟨kvs, e1, e2, e3, e4, e5, e6⟩ := zip_kv ks vs (by simpa using h)
    exact ⟨(.inr k, v) :: kvs, by simp [e1, kV], by simp [e2], by simp [e3], by rw [List.map_cons, List.map_cons, e4]; rfl, by rw [List.map_cons, List.map_cons, e5]; rfl, by simp [e6]⟩
theorem do_disp {keys : List (Option Expr)} {values : List Expr} {trs : List (TE × TE)} {ks : List Str} {prs : List (Str × TDE)} (h : DPs X W pos keys values trs ks (dPrs prs)) (hk : prs.map (·.1) = ks := by rfl) (hn : ks.Nodup := by decide) (h0 : keys ≠ [] := by simp) (h15 : keys.length ≤ 15 := by decide) :
    DO X W (.Dict keys values pos) (tDispX (kk X) trs) (dDisp prs) := ⟨pe_dispX h.pps h.len.2.2 (h.len.1.trans h.len.2.1.symm) h0 h15, fun G F H σ en Q Qd Qe R q x k p hp => by
  have R2 : Rel (kk X) G F (upd H p (.dK [])) σ en := R.fresh hp
  have T := AsideN.of R (o := .dK []) hp
  have n0 : G.F0 p = none := R.f0.free (R.free hp)
  refine h.sim (G.plus (upd H p (.dK [])) p) F (upd H p (.dK [])) σ en _ _ (fun _ _ => False) (T.plus R2) q (fun _ _ _ _ _ _ _ _ _ z => z.elim) fun vs ds F3 H3 en3 e3 R3 i3 l3 q3 => ?_
  obtain ⟨R4, T4, hp4⟩ := T.minus n0 R3
  rw [upd_same] at hp4
  obtain ⟨kvs, a1, a2, a3, a4, a5, a6⟩ := zip_kv ks vs l3
  have nd : (kvs.map (·.1)).Nodup := by
    rw [a3]
    exact List.Pairwise.map Sum.inr (fun a b hab e => hab (Sum.inr.inj e)) hn
  refine ⟨hp4, kvs, a1, by rw [a2, ← h.len.1]; exact h15, p, kvs, rfl, ?_, fun hs => ?_⟩
  · rw [upd_same, merge_new kvs [] nd]; rfl
  · rw [upd_upd, a4, a5, a6]
    obtain ⟨R5, T5⟩ := T4.write R4 (.ext (DkΦ X.w p (ks.map .text) (ks.map V.str) vs))
    refine k p (.dct (txd (prs.map (·.1))) ds) F3 _ en3 e3 R5 ⟨T5.nf, ?_, T5.n0, T5.ns⟩ q3
    rw [hk]
    refine ⟨ks.map .text, ks.map V.str, vs, upd_same, hs, ⟨nkL_txd, ?_⟩, is_txd ks, i3⟩
    rw [List.length_map, ← h.len.1, sizeLine_eq]
    omega⟩
end

/-! ### d.get -/
section
variable {X : Cx} {W : WX} {o e f : Expr} {apos cpos : Pos} {td ty tx : TE} {dd dy dx : TDE}
def tGet1 (K : KW) (td ty : TE) : TE := fun σ H Q => td σ H fun x H1 => ∃ a, x = .ref a ∧ (∃ ks kvs us, DAt K.w H1 a ks kvs us) ∧ ty σ H1 fun y H2 => ∃ ks kvs us k, DAt K.w H2 a ks kvs us ∧ Kfit K H2 ks kvs k y ∧ Q ((lkp ks us k).getD .non) H2
def tGet2 (K : KW) (td ty tx : TE) : TE := fun σ H Q => td σ H fun x H1 => ∃ a, x = .ref a ∧ (∃ ks kvs us, DAt K.w H1 a ks kvs us) ∧ ty σ H1 fun y H2 => tx σ H2 fun z H3 => ∃ ks kvs us k, DAt K.w H3 a ks kvs us ∧ Kfit K H3 ks kvs k y ∧ Q ((lkp ks us k).getD z) H3
theorem dat_at {pins : List (Addr × Obj)} {σ : L2.St} {H : Hp} {s : Shared} {a : Addr} {ks : List NestedKey} {kvs us : List V} (I : L2.Inv X pins σ H s) (hd : DAt X.w H a ks kvs us) : s.TypeIs (.ref a) "dict" ∧ (∀ b, Value.ref a = .ref b → ∃ ob, s.heap.get? b = some ob ∧ ob.dict = none) := by
  obtain ⟨ob, ho, hx, _⟩ := hd.obj I
  exact ⟨⟨ob, ho, hx.1⟩, fun b q => by cases q; exact ⟨ob, ho, hx.2.1⟩⟩
theorem pe_get1 (hu : X.A.units + 64 < cLine) (ho : PE X o td) (he : PE X e ty) (m : M1 X o "get" apos e cpos) : PE X (.Call (.Attribute o "get" apos) [e] [] cpos) (tGet1 (kk X) td ty) := by
  refine ⟨fun pins s σ H Q I h => ?_⟩
  refine wpAny_Call_method m.base m.few m.line PySem.F.plainAttrs_dict PySem.F.slot_dict_get PySem.F.type_dict_get (thn (ho.run pins s σ H _ I h) fun u s1 ⟨x, H1, I1, rx, a, ex, ⟨ks, kvs, us, d⟩, q1⟩ => ?_)
  subst ex
  obtain rfl : u = Value.ref a := rx
  obtain ⟨t1, t2⟩ := dat_at I1 d
  refine ⟨t1, t2, ?_⟩
  rw [m.trees]
  refine Calls.callWith_builtin rfl (Calls.evalArgs_plain (Calls.spliced_cons (thn (he.run pins s1 σ H1 _ I1 q1) fun iv s2 ⟨y, H2, I2, ry, ks, kvs, us, k, hd, hf, q2⟩ => Calls.spliced_nil ?_)))
  exact dd_get1 hu I2 hd hf ry fun w' s3 I3 rw' => ⟨_, H2, I3, rw', q2⟩
theorem pe_get2 (hu : X.A.units + 64 < cLine) (ho : PE X o td) (he : PE X e ty) (hf : PE X f tx) (m : M2 X o "get" apos e f cpos) : PE X (.Call (.Attribute o "get" apos) [e, f] [] cpos) (tGet2 (kk X) td ty tx) := by
  refine ⟨fun pins s σ H Q I h => ?_⟩
  refine wpAny_Call_method m.base m.few m.line PySem.F.plainAttrs_dict PySem.F.slot_dict_get PySem.F.type_dict_get (thn (ho.run pins s σ H _ I h) fun u s1 ⟨x, H1, I1, rx, a, ex, ⟨ks, kvs, us, d⟩, q1⟩ => ?_)
  subst ex
  obtain rfl : u = Value.ref a := rx
  obtain ⟨t1, t2⟩ := dat_at I1 d
  refine ⟨t1, t2, ?_⟩
  rw [m.trees]
  refine Calls.callWith_builtin rfl (Calls.evalArgs_plain (Calls.spliced_cons (thn (he.run pins s1 σ H1 _ I1 q1) fun iv s2 ⟨y, H2, I2, ry, q2⟩ =>
    Calls.spliced_cons (thn (hf.run pins s2 σ H2 _ I2 q2) fun fv s3 ⟨z, H3, I3, rz, ks, kvs, us, k, hd, hft, q3⟩ => Calls.spliced_nil ?_))))
  exact dd_get2 hu I3 hd hft ry rz fun w' s4 I4 rw' => ⟨_, H3, I4, rw', q3⟩
/-- d.get(k), d.get(k, x), d frozen -/
def dGet1 (o k : TDE) : TDE := fun en Q Qe => o en (fun d en1 => match d with
  | .dct ds es => k en1 (fun j en2 => fitD ds j = true ∧ Q ((lkD ds es j).getD .non) en2) Qe
  | _ => False) Qe
def dGet2 (o k f : TDE) : TDE := fun en Q Qe => o en (fun d en1 => match d with
  | .dct ds es => k en1 (fun j en2 => f en2 (fun z en3 => fitD ds j = true ∧ Q ((lkD ds es j).getD z) en3) Qe) Qe
  | _ => False) Qe
theorem get_is {K : KW} {F : Hp} {ds es : List D} {d z : D} {w : V} {k : NestedKey} {ks : List NestedKey} {us : List V} (hd : nkD d = some k) (h : nkL ds = some ks) (l : IsL K F es us) (i : Is K F z w) : Is K F ((lkD ds es d).getD z) ((lkp ks us k).getD w) := by
  obtain ⟨l1, l2⟩ := lk_of (K := K) (F := F) hd h l
  cases e : lkD ds es d with
  | none => rw [l2 e]; exact i
  | some x =>
    obtain ⟨v, h1, h2⟩ := l1 x e
    rw [h1]; exact h2
theorem de_get1 (hu : X.A.units + 64 < cLine) (ho : DE X W o td dd) (he : DE X W e ty dy) (m : M1 X o "get" apos e cpos := by exact ⟨rfl, rfl, rfl, rfl⟩) : DE X W (.Call (.Attribute o "get" apos) [e] [] cpos) (tGet1 (kk X) td ty) (dGet1 dd dy) := ⟨pe_get1 hu ho.pe he.pe m, fun G F H σ en Q Qd Qe R q x k =>
  ho.sim G F H σ en _ _ Qe R q x fun v d F1 H1 en1 e1 R1 i1 q1 => by
    cases d with
    | dct ds es =>
      have i1' := i1
      obtain ⟨a, ob, u, ks, kvs, us, rfl, h1, h2, h3, ⟨h4, h4'⟩, h5, h6⟩ := i1
      refine ⟨a, rfl, ⟨ks, kvs, us, h2, .inl ⟨ob, u, R1.le _ _ h1, h3⟩⟩, he.sim G F1 H1 σ en1 _ _ Qe R1 q1 x fun y j F2 H2 en2 e2 R2 i2 q2 => ?_⟩
      obtain ⟨n, hn⟩ := fit_some q2.1
      refine ⟨ks, kvs, us, n, ⟨h2, .inl ⟨ob, u, R2.le _ _ (e2 _ _ h1), h3⟩⟩, kfit_of R2.le h4 (IsL.mono e2 _ _ h5) hn i2 q2.1, k _ _ F2 H2 en2 (e1.trans e2) R2 (get_is (z := .non) hn h4 (IsL.mono e2 _ _ h6) rfl) q2.2⟩
    | _ => exact q1.elim⟩
theorem de_get2 (hu : X.A.units + 64 < cLine) (ho : DE X W o td dd) (he : DE X W e ty dy) (hf : DE X W f tx dx) (m : M2 X o "get" apos e f cpos := by exact ⟨rfl, rfl, rfl, rfl⟩) : DE X W (.Call (.Attribute o "get" apos) [e, f] [] cpos) (tGet2 (kk X) td ty tx) (dGet2 dd dy dx) := ⟨pe_get2 hu ho.pe he.pe hf.pe m, fun G F H σ en Q Qd Qe R q x k =>
  ho.sim G F H σ en _ _ Qe R q x fun v d F1 H1 en1 e1 R1 i1 q1 => by
    cases d with
    | dct ds es =>
      obtain ⟨a, ob, u, ks, kvs, us, rfl, h1, h2, h3, ⟨h4, h4'⟩, h5, h6⟩ := i1
      refine ⟨a, rfl, ⟨ks, kvs, us, h2, .inl ⟨ob, u, R1.le _ _ h1, h3⟩⟩, he.sim G F1 H1 σ en1 _ _ Qe R1 q1 x fun y j F2 H2 en2 e2 R2 i2 q2 => hf.sim G F2 H2 σ en2 _ _ Qe R2 q2 x fun z g F3 H3 en3 e3 R3 i3 q3 => ?_⟩
      obtain ⟨n, hn⟩ := fit_some q3.1
      have e23 := e2.trans e3
      refine ⟨ks, kvs, us, n, ⟨h2, .inl ⟨ob, u, R3.le _ _ (e23 _ _ h1), h3⟩⟩, kfit_of R3.le h4 (IsL.mono e23 _ _ h5) hn (Is.mono e3 _ _ i2) q3.1, k _ _ F3 H3 en3 (e1.trans e23) R3 (get_is hn h4 (IsL.mono e23 _ _ h6) i3) q3.2⟩
    | _ => exact q1.elim⟩
/-- the same of a name's own dict, not frozen -/
def ownDc (en : En) (i : Nat) : Bool := match ownAt en i with
  | some (_, .dct _ _) => true
  | _ => false
theorem ownDc_of {en : En} {i : Nat} (h : ownDc en i = true) : ∃ b ds es, ownAt en i = some (b, .dct ds es) := by
  unfold ownDc at h
  cases e : ownAt en i with
  | none => rw [e] at h; cases h
  | some x =>
    obtain ⟨b, d⟩ := x
    rw [e] at h
    cases d with
    | dct ds es => exact ⟨b, ds, es, rfl⟩
    | _ => cases h
def dGetV2 (i : Nat) (k f : TDE) : TDE := fun en Q Qe => ownDc en i = true ∧ k en (fun j en2 => f en2 (fun z en3 => match ownAt en3 i with
  | some (_, .dct ds es) => fitD ds j = true ∧ Q ((lkD ds es j).getD z) en3
  | _ => False) Qe) Qe
theorem de_getV2 (hu : X.A.units + 64 < cLine) {i : Nat} {y : Str} {p : Pos} (he : DE X W e ty dy) (hf : DE X W f tx dx) (hN : X.N[i]? = some y := by rfl) (hv : Vis X.env.scope y := by first | exact Or.inl rfl | exact Or.inr (Or.inl rfl) | exact Or.inr (Or.inr rfl)) (hd2 : (y == ("__debug__" : Str)) = false := by decide)
    (hcd : (y == ("__classdict__" : Str)) = false := by decide) (m : M2 X (.Name y p) "get" apos e f cpos := by exact ⟨rfl, rfl, rfl, rfl⟩) : DE X W (.Call (.Attribute (.Name y p) "get" apos) [e, f] [] cpos) (tGet2 (kk X) (tVar i) ty tx) (dGetV2 i dy dx) := ⟨pe_get2 hu (pe_var hN hv hd2 hcd) he.pe hf.pe m, fun G F H σ en Q Qd Qe R q x k => by
  obtain ⟨q0, q⟩ := q
  obtain ⟨b0, ds0, es0, e0⟩ := ownDc_of q0
  obtain ⟨a, h1, n1, hw, _⟩ := R.ow i b0 _ (ownAt_eq e0)
  obtain ⟨ks0, kvs0, us0, hs0, hb0, _⟩ := hw
  refine ⟨_, h1, a, rfl, ⟨ks0, kvs0, us0, hb0, .inr hs0⟩, he.sim G F H σ en _ _ Qe R q x fun v j F2 H2 en2 e2 R2 i2 q2 => hf.sim G F2 H2 σ en2 _ _ Qe R2 q2 x fun z g F3 H3 en3 e3 R3 i3 q3 => ?_⟩
  cases e4 : ownAt en3 i with
  | none => rw [e4] at q3; exact q3.elim
  | some bd =>
    obtain ⟨b, d⟩ := bd
    rw [e4] at q3
    cases d with
    | dct ds es =>
      obtain ⟨qf, q3⟩ := q3
      obtain ⟨a', h1', n1', hw', _⟩ := R3.ow i b _ (ownAt_eq e4)
      rw [h1] at h1'
      cases h1'
      obtain ⟨ks, kvs, us, hs, hb, ⟨h4, h4'⟩, h5, h6⟩ := hw'
      obtain ⟨n, hn⟩ := fit_some qf
      exact ⟨ks, kvs, us, n, ⟨hb, .inr hs⟩, kfit_of R3.le h4 h5 hn (Is.mono e3 _ _ i2) qf, k _ _ F3 H3 en3 (e2.trans e3) R3 (get_is hn h4 h6 i3) q3⟩
    | _ => exact q3.elim⟩
end
/-! ### what the readings unfold to -/
@[simp ↓] theorem r_NewD {en : En} {Q : D → En → Prop} {Qe : Qx} : dNewD en Q Qe = Q (.dct [] []) en := by rfl
@[simp ↓] theorem r_Disp {prs : List (Str × TDE)} {en : En} {Q : D → En → Prop} {Qe : Qx} : dDisp prs en Q Qe = dPrs prs en (fun ds en1 => Q (.dct (txd (prs.map (·.1))) ds) en1) fun _ _ => False := by rfl
@[simp ↓] theorem r_Prs0 {en : En} {Q : List D → En → Prop} {Qe : Qx} : dPrs [] en Q Qe = Q [] en := by rfl
@[simp ↓] theorem r_Prs1 {k : Str} {e : TDE} {r : List (Str × TDE)} {en : En} {Q : List D → En → Prop} {Qe : Qx} : dPrs ((k, e) :: r) en Q Qe = e en (fun d en1 => dPrs r en1 (fun ds en2 => Q (d :: ds) en2) Qe) Qe := by rfl
@[simp ↓] theorem r_Get1 {o k : TDE} {en : En} {Q : D → En → Prop} {Qe : Qx} : dGet1 o k en Q Qe = o en (fun d en1 => match d with | .dct ds es => k en1 (fun j en2 => fitD ds j = true ∧ Q ((lkD ds es j).getD .non) en2) Qe | _ => False) Qe := by rfl
@[simp ↓] theorem r_Get2 {o k f : TDE} {en : En} {Q : D → En → Prop} {Qe : Qx} : dGet2 o k f en Q Qe = o en (fun d en1 => match d with | .dct ds es => k en1 (fun j en2 => f en2 (fun z en3 => fitD ds j = true ∧ Q ((lkD ds es j).getD z) en3) Qe) Qe | _ => False) Qe := by rfl
@[simp ↓] theorem r_GetV2 {i : Nat} {k f : TDE} {en : En} {Q : D → En → Prop} {Qe : Qx} : dGetV2 i k f en Q Qe = (ownDc en i = true ∧ k en (fun j en2 => f en2 (fun z en3 => match ownAt en3 i with | some (_, .dct ds es) => fitD ds j = true ∧ Q ((lkD ds es j).getD z) en3 | _ => False) Qe) Qe) := by rfl
@[simp ↓] theorem r_ownDc {en : En} {i : Nat} : ownDc en i = (match ownAt en i with | some (_, .dct _ _) => true | _ => false) := by rfl
end DL

/-! The D layer, part 16: all, any, sum, least, greatest of a list; list.index. -/
namespace DL
open PySem L2

section
variable {X : Cx} {W : WX} {K : KW}
/-- lists of truth values, of ints -/
def blsD : List D → Option (List Bool)
  | [] => some []
  | .bl b :: r => (blsD r).map (b :: ·)
  | _ => none
def intsD : List D → Option (List Int)
  | [] => some []
  | .int b :: r => (intsD r).map (b :: ·)
  | _ => none
theorem bls_is {F : Hp} : ∀ {ds : List D} {bs : List Bool} {vs : List V}, blsD ds = some bs → IsL K F ds vs → vs = bs.map V.bl
  | [], _, _, h, l => by cases h; cases l; rfl
  | d :: ds, _, _, h, ⟨v, r, q, i, l⟩ => by
    subst q
    cases d with
    | bl b =>
      unfold blsD at h
      cases hb : blsD ds with
      | none => rw [hb] at h; cases h
      | some bs =>
        rw [hb] at h
        cases h
        cases i
        rw [bls_is hb l]
        rfl
    | _ => exact nomatch h
theorem ints_is {F : Hp} : ∀ {ds : List D} {bs : List Int} {vs : List V}, intsD ds = some bs → IsL K F ds vs → vs = bs.map V.int
  | [], _, _, h, l => by cases h; cases l; rfl
  | d :: ds, _, _, h, ⟨v, r, q, i, l⟩ => by
    subst q
    cases d with
    | int b =>
      unfold intsD at h
      cases hb : intsD ds with
      | none => rw [hb] at h; cases h
      | some bs =>
        rw [hb] at h
        cases h
        cases i
        rw [ints_is hb l]
        rfl
    | _ => exact nomatch h
theorem lst_is {F H : Hp} (e : Same F H) {d : D} {l : List D} {v : V} (h : d = .lst l ∨ d = .lck l) (i : Is K F d v) : ∃ a vs, v = .ref a ∧ SqL K H a vs ∧ IsL K F l vs := by
  rcases h with rfl | rfl
  · obtain ⟨a, vs, rfl, s, l⟩ := i; exact ⟨a, vs, rfl, SqL.of (e _ _ s), l⟩
  · obtain ⟨a, vs, rfl, s, l⟩ := i; exact ⟨a, vs, rfl, SqL.same e s, l⟩
def allD : CD := fun ds Q => match ds with
  | [.lst l] => ∃ bs, blsD l = some bs ∧ Q (.bl (bs.all id))
  | _ => False
def anyD : CD := fun ds Q => match ds with
  | [.lst l] => ∃ bs, blsD l = some bs ∧ Q (.bl (bs.any id))
  | _ => False
def sumD : CD := fun ds Q => match ds with
  | [.lst l] => ∃ ns, intsD l = some ns ∧ Q (.int ns.sum)
  | _ => False
def maxD : CD := fun ds Q => match ds with
  | [.lst l] => ∃ ns, intsD l = some ns ∧ 0 < ns.length ∧ ∀ m, m ∈ ns → (∀ n ∈ ns, n ≤ m) → Q (.int m)
  | _ => False
def minD : CD := fun ds Q => match ds with
  | [.lst l] => ∃ ns, intsD l = some ns ∧ 0 < ns.length ∧ ∀ m, m ∈ ns → (∀ n ∈ ns, m ≤ n) → Q (.int m)
  | _ => False
theorem one_lst {F H : Hp} (e : Same F H) {l : List D} {vs : List V} (i : IsL K F [.lst l] vs) : ∃ a ws, vs = [.ref a] ∧ SqL K H a ws ∧ IsL K F l ws := by
  obtain ⟨v, r, rfl, iv, ir⟩ := i
  cases ir
  obtain ⟨a, ws, rfl, s, l⟩ := lst_is e (.inl rfl) iv
  exact ⟨a, ws, rfl, s, l⟩
theorem sim_all : SimC K (rAll K) allD := by
  intro G F H σ en ds vs Q Qd R i q k
  unfold allD at q
  split at q
  · obtain ⟨bs, h1, h2⟩ := q
    obtain ⟨a, ws, rfl, s, l⟩ := one_lst R.le i
    rw [bls_is h1 l] at s
    exact ⟨a, bs, rfl, s, k _ _ F H (Same.refl F) R iB h2⟩
  · exact q.elim
theorem sim_any : SimC K (rAny K) anyD := by
  intro G F H σ en ds vs Q Qd R i q k
  unfold anyD at q
  split at q
  · obtain ⟨bs, h1, h2⟩ := q
    obtain ⟨a, ws, rfl, s, l⟩ := one_lst R.le i
    rw [bls_is h1 l] at s
    exact ⟨a, bs, rfl, s, k _ _ F H (Same.refl F) R iB h2⟩
  · exact q.elim
theorem sim_sum : SimC K (rSum K) sumD := by
  intro G F H σ en ds vs Q Qd R i q k
  unfold sumD at q
  split at q
  · obtain ⟨bs, h1, h2⟩ := q
    obtain ⟨a, ws, rfl, s, l⟩ := one_lst R.le i
    rw [ints_is h1 l] at s
    exact ⟨a, bs, rfl, s, k _ _ F H (Same.refl F) R iI h2⟩
  · exact q.elim
theorem sim_max : SimC K (rMax K) maxD := by
  intro G F H σ en ds vs Q Qd R i q k
  unfold maxD at q
  split at q
  · obtain ⟨bs, h1, h0, h2⟩ := q
    obtain ⟨a, ws, rfl, s, l⟩ := one_lst R.le i
    rw [ints_is h1 l] at s
    exact ⟨a, bs, rfl, s, h0, fun m hm hle => k _ _ F H (Same.refl F) R iI (h2 m hm hle)⟩
  · exact q.elim
theorem sim_min : SimC K (rMin K) minD := by
  intro G F H σ en ds vs Q Qd R i q k
  unfold minD at q
  split at q
  · obtain ⟨bs, h1, h0, h2⟩ := q
    obtain ⟨a, ws, rfl, s, l⟩ := one_lst R.le i
    rw [ints_is h1 l] at s
    exact ⟨a, bs, rfl, s, h0, fun m hm hle => k _ _ F H (Same.refl F) R iI (h2 m hm hle)⟩
  · exact q.elim
/-- xs.index(y): the first place -/
def dLix (o y : TDE) : TDE := fun en Q Qe => o en (fun d en1 => match d with
  | .lst l => y en1 (fun z en2 => flatD z = true ∧ l.all flatD = true ∧ ∃ j e, l[j]? = some e ∧ eqFD e z = true ∧ (∀ m e', m < j → l[m]? = some e' → eqFD e' z = false) ∧ Q (.int (j : Nat)) en2) Qe
  | _ => False) Qe
theorem isl_get_r {F : Hp} : ∀ {ds : List D} {vs : List V} {i : Nat} {v : V}, IsL K F ds vs → vs[i]? = some v → ∃ d, ds[i]? = some d ∧ Is K F d v
  | [], _, _, _, h, e => by cases h; simp at e
  | d :: ds, _, 0, _, ⟨v, r, q, h, _⟩, e => by subst q; simp at e; subst e; exact ⟨d, rfl, h⟩
  | d :: ds, _, i + 1, _, ⟨v, r, q, h, l⟩, e => by
    subst q
    obtain ⟨d', h1, h2⟩ := isl_get_r (i := i) l (by simpa using e)
    exact ⟨d', by simpa using h1, h2⟩
theorem sim_lix {to ty : TE} {dd dy : TDE} (ho : Sim K W to dd) (hy : Sim K W ty dy) : Sim K W (tBM K "list" (rIndex K) to (tCons ty tNil)) (dLix dd dy) := fun G F H σ en Q Qd Qe R q x k =>
  ho G F H σ en _ _ Qe R q x fun v d F1 H1 en1 e1 R1 i1 q1 => by
    split at q1
    · rename_i l
      obtain ⟨a, vs, rfl, s, il⟩ := lst_is R1.le (.inl rfl) i1
      refine ⟨.inl ⟨rfl, vs, s⟩, hy G F1 H1 σ en1 _ _ Qe R1 q1 x fun w z F2 H2 en2 e2 R2 i2 q2 => ?_⟩
      obtain ⟨f1, f2, j, e, h1, h2, h3, h4⟩ := q2
      obtain ⟨a', vs', ea, s', il'⟩ := lst_is (l := l) R2.le (.inl rfl) (Is.mono e2 _ _ i1)
      cases ea
      obtain ⟨u, hu, iu⟩ := il'.get h1
      have fe : flatD e = true := List.all_eq_true.mp f2 e (List.mem_of_getElem? h1)
      refine ⟨a, vs', w, j, u, rfl, rfl, s', flatV_of i2 f1, flatL_of il' f2, hu, by rw [eqV_of iu i2 fe f1]; exact h2, fun m z' hm hz => ?_, k _ _ F2 H2 en2 (e1.trans e2) R2 iI h4⟩
      obtain ⟨e', he', ie'⟩ := isl_get_r il' hz
      rw [eqV_of ie' i2 (List.all_eq_true.mp f2 e' (List.mem_of_getElem? he')) f1]
      exact h3 m e' hm he'
    · exact q1.elim
theorem de_lix {o e : Expr} {apos cpos : Pos} {to ty : TE} {dd dy : TDE} (ho : DE X W o to dd) (he : DE X W e ty dy) (hbase : attributeBase o "index" X.env (eval o X.env) = eval o X.env := by rfl)
    (hfew : ((backTo cpos (starEach [e] X.env)).all (fun x => !x.1) && (backToKw cpos (keywordEach [] X.env)).all (fun x => x.1.isSome) && decide (([e] : List Expr).length + ([] : List Keyword).length + (if ([] : List Keyword).isEmpty then 0 else 1) < 30)) = true := by rfl)
    (hline : (apos.endLine == cpos.line) = true := by rfl) (hst : starEach [e] X.env = (false, eval e X.env) :: starEach [] X.env := by rfl) (hpl : (backTo cpos (starEach [] X.env)).any (·.1) = false := by rfl) :
    DE X W (.Call (.Attribute o "index" apos) [e] [] cpos) (tBM X.K "list" (rIndex X.K) to (tCons ty tNil)) (dLix dd dy) :=
  ⟨pe_bm PySem.F.plainAttrs_list PySem.F.slot_list_index PySem.F.type_list_index mt_index ho.pe (pa_cons he.pe pa_nil hst) hbase hfew hline hst hpl, sim_lix (K := kk X) ho.sim he.sim⟩
end
@[simp ↓] theorem r_all {l : List D} {Q : D → Prop} : allD [.lst l] Q = ∃ bs, blsD l = some bs ∧ Q (.bl (bs.all id)) := by rfl
@[simp ↓] theorem r_any {l : List D} {Q : D → Prop} : anyD [.lst l] Q = ∃ bs, blsD l = some bs ∧ Q (.bl (bs.any id)) := by rfl
@[simp ↓] theorem r_sum {l : List D} {Q : D → Prop} : sumD [.lst l] Q = ∃ ns, intsD l = some ns ∧ Q (.int ns.sum) := by rfl
@[simp ↓] theorem r_max {l : List D} {Q : D → Prop} : maxD [.lst l] Q = ∃ ns, intsD l = some ns ∧ 0 < ns.length ∧ ∀ m, m ∈ ns → (∀ n ∈ ns, n ≤ m) → Q (.int m) := by rfl
@[simp ↓] theorem r_min {l : List D} {Q : D → Prop} : minD [.lst l] Q = ∃ ns, intsD l = some ns ∧ 0 < ns.length ∧ ∀ m, m ∈ ns → (∀ n ∈ ns, m ≤ n) → Q (.int m) := by rfl
@[simp ↓] theorem r_Lix {o y : TDE} {en : En} {Q : D → En → Prop} {Qe : Qx} : dLix o y en Q Qe = o en (fun d en1 => match d with | .lst l => y en1 (fun z en2 => flatD z = true ∧ l.all flatD = true ∧ ∃ j e, l[j]? = some e ∧ eqFD e z = true ∧ (∀ m e', m < j → l[m]? = some e' → eqFD e' z = false) ∧ Q (.int (j : Nat)) en2) Qe | _ => False) Qe := by rfl

section
variable {X : Cx} {W : WX} {a b : Expr} {pos : Pos} {ta tb : TE} {da db : TDE}
def andD : RD := i0D fun i j => .int (Builtin.bitAnd i j)
def orD : RD := i0D fun i j => .int (Builtin.bitOr i j)
theorem de_andI (ha : DE X W a ta da) (hb : DE X W b tb db) : DE X W (.BinOp a .BitAnd b pos) (tOp (rI0 fun i j => .int (Builtin.bitAnd i j)) ta tb) (dOp andD da db) := de_op op_and (sim_i0 (gd := fun i j => .int (Builtin.bitAnd i j)) fun _ _ _ => rfl) ha hb
theorem de_orI (ha : DE X W a ta da) (hb : DE X W b tb db) : DE X W (.BinOp a .BitOr b pos) (tOp (rI0 fun i j => .int (Builtin.bitOr i j)) ta tb) (dOp orD da db) := de_op op_or (sim_i0 (gd := fun i j => .int (Builtin.bitOr i j)) fun _ _ _ => rfl) ha hb
end
@[simp ↓] theorem r_andI {i j : Int} {Q : D → Prop} : andD (.int i) (.int j) Q = Q (.int (Builtin.bitAnd i j)) := by rfl
@[simp ↓] theorem r_orI {i j : Int} {Q : D → Prop} : orD (.int i) (.int j) Q = Q (.int (Builtin.bitOr i j)) := by rfl
end DL

/-! The D layer, part 17: a, b = x, y and a, b, c = x, y, z. -/
namespace DL
open PySem L2

section
variable {X : Cx} {W : WX} {K : KW}
def dPar2 (i j : Nat) (da : TDA) : TDS := fun B en => da en (fun ds en1 => match ds with | [a, b] => B.nx ((en1.set i (some (.fz a))).set j (some (.fz b))) | _ => False) B.ex
def dPar3 (i j l : Nat) (da : TDA) : TDS := fun B en => da en (fun ds en1 => match ds with | [a, b, c] => B.nx (((en1.set i (some (.fz a))).set j (some (.fz b))).set l (some (.fz c))) | _ => False) B.ex
theorem ds_par2 {i j : Nat} {x y : Str} {a b : Expr} {ta : TA} {da : TDA} {px py pt pos : Pos} {kt k2 pt2} (hN : X.N.Nodup) (hi : X.N[i]? = some x) (hj : X.N[j]? = some y) (hij : i ≠ j)
    (ha : DA X W [a, b] ta da) (hx : X.env.scope.names.lookup x = some .local := by rfl) (hy : X.env.scope.names.lookup y = some .local := by rfl) (hc : X.calm = true := by rfl)
    (hw : swappedStores [.Tuple [.Name x px, .Name y py] kt pt] (.Tuple [a, b] k2 pt2) X.env = pure (some [x, y]) := by rfl)
    (hs : swapsWithSole [.Tuple [.Name x px, .Name y py] kt pt] (.Tuple [a, b] k2 pt2) pos.line X.env = pure false := by rfl) :
    DS X W (.Assign [.Tuple [.Name x px, .Name y py] kt pt] (.Tuple [a, b] k2 pt2) pos) (tPar i j ta) (dPar2 i j da) :=
  ⟨ps_par hc hN hi hj hij hx hy ha.pa hw hs, fun G F H σ en D' B R q k => ha.sim G F H σ en _ _ _ R q k.ex fun vs ds F1 H1 en1 e1 R1 i1 q1 => by
    match ds, i1, q1 with
    | [d1, d2], i1, q1 =>
      obtain ⟨v1, r1, rfl, h1, i2⟩ := i1
      obtain ⟨v2, r2, rfl, h2, i3⟩ := i2
      cases i3
      exact ⟨v1, v2, rfl, k.nx F1 H1 _ _ ((R1.put h1).put h2) q1⟩⟩
theorem ds_par3 {i j l : Nat} {x y z : Str} {a b c : Expr} {ta : TA} {da : TDA} {px py pz pt pos : Pos} {kt k2 pt2} (hN : X.N.Nodup) (hi : X.N[i]? = some x) (hj : X.N[j]? = some y) (hl : X.N[l]? = some z) (hij : i ≠ j) (hil : i ≠ l) (hjl : j ≠ l)
    (ha : DA X W [a, b, c] ta da) (hx : X.env.scope.names.lookup x = some .local := by rfl) (hy : X.env.scope.names.lookup y = some .local := by rfl) (hz : X.env.scope.names.lookup z = some .local := by rfl) (hc : X.calm = true := by rfl)
    (hw : swappedStores [.Tuple [.Name x px, .Name y py, .Name z pz] kt pt] (.Tuple [a, b, c] k2 pt2) X.env = pure (some [x, y, z]) := by rfl)
    (hs : swapsWithSole [.Tuple [.Name x px, .Name y py, .Name z pz] kt pt] (.Tuple [a, b, c] k2 pt2) pos.line X.env = pure false := by rfl) :
    DS X W (.Assign [.Tuple [.Name x px, .Name y py, .Name z pz] kt pt] (.Tuple [a, b, c] k2 pt2) pos) (tPar3 i j l ta) (dPar3 i j l da) :=
  ⟨ps_par3 hc hN hi hj hl hij hil hjl hx hy hz ha.pa hw hs, fun G F H σ en D' B R q k => ha.sim G F H σ en _ _ _ R q k.ex fun vs ds F1 H1 en1 e1 R1 i1 q1 => by
    match ds, i1, q1 with
    | [d1, d2, d3], i1, q1 =>
      obtain ⟨v1, r1, rfl, h1, i2⟩ := i1
      obtain ⟨v2, r2, rfl, h2, i3⟩ := i2
      obtain ⟨v3, r3, rfl, h3, i4⟩ := i3
      cases i4
      exact ⟨v1, v2, v3, rfl, k.nx F1 H1 _ _ (((R1.put h1).put h2).put h3) q1⟩⟩
end
@[simp ↓] theorem r_Par2 {i j : Nat} {da : TDA} {B : DEnds} {en : En} : dPar2 i j da B en = da en (fun ds en1 => match ds with | [a, b] => B.nx ((en1.set i (some (.fz a))).set j (some (.fz b))) | _ => False) B.ex := by rfl
@[simp ↓] theorem r_Par3 {i j l : Nat} {da : TDA} {B : DEnds} {en : En} : dPar3 i j l da B en = da en (fun ds en1 => match ds with | [a, b, c] => B.nx (((en1.set i (some (.fz a))).set j (some (.fz b))).set l (some (.fz c))) | _ => False) B.ex := by rfl
end DL

namespace DL
open PySem L2
def top (i : Nat) : Stmt := PySem.Challenge.pw_totalsbeside_k06_whole_possible_truths_h.main.body.getD i (.Pass ⟨0, 0, 0, 0⟩)
def dv_RESERVED : List He.Dv := [.str "always", .str "and", .str "between", .str "case", .str "cls", .str "condition", .str "else", .str "end", .str "false", .str "in", .str "index", .str "is", .str "maybe", .str "never", .str "not", .str "on", .str "or", .str "schema", .str "self", .str "single", .str "then", .str "true", .str "unknown", .str "when", .str "where"]
def dv_SIGNS_OF_COMPARISON : List He.Dv := [.str "<", .str "<=", .str "=", .str "!=", .str ">=", .str ">"]
def dv_WORDS : List He.Dv := [.str "false", .str "unknown", .str "true"]
def ts : List He.Tab := []
def fx : List (Fg → Bool) := [fun K => (He.Fa.glo "_law_start").ok K,
  fun K => (He.Fa.keep "_law_start").ok K,
  fun K => (He.Fa.glo "_law_draw").ok K,
  fun K => (He.Fa.keep "_law_draw").ok K,
  fun K => (He.Fa.glo "_law_names").ok K,
  fun K => (He.Fa.keep "_law_names").ok K,
  fun K => (He.Fa.glo "_law_centres").ok K,
  fun K => (He.Fa.keep "_law_centres").ok K,
  fun K => (He.Fa.glo "_law_cells").ok K,
  fun K => (He.Fa.keep "_law_cells").ok K,
  fun K => (He.Fa.glo "_law_steps").ok K,
  fun K => (He.Fa.keep "_law_steps").ok K,
  fun K => (He.Fa.glo "_law_made").ok K,
  fun K => (He.Fa.keep "_law_made").ok K,
  fun K => (He.Fa.glo "_law_rank").ok K,
  fun K => (He.Fa.keep "_law_rank").ok K,
  fun K => (He.Fa.glo "_law_resting").ok K,
  fun K => (He.Fa.keep "_law_resting").ok K,
  fun K => (He.Fa.glo "_law_column_answers").ok K,
  fun K => (He.Fa.keep "_law_column_answers").ok K,
  fun K => (He.Fa.glo "_law_answer").ok K,
  fun K => (He.Fa.keep "_law_answer").ok K,
  fun K => (He.Fa.glo "_law_same").ok K,
  fun K => (He.Fa.keep "_law_same").ok K,
  fun K => (He.Fa.glo "possible_truths").ok K,
  fun K => (He.Fa.keep "possible_truths").ok K,
  fun K => (He.Fa.free "list").ok K,
  fun K => (He.Fa.free "len").ok K,
  fun K => (He.Fa.free "range").ok K,
  fun K => (He.Fa.glo "_law_near_bound").ok K,
  fun K => (He.Fa.keep "_law_near_bound").ok K,
  fun K => (He.Fa.glo "_law_some").ok K,
  fun K => (He.Fa.keep "_law_some").ok K,
  fun K => (He.Fa.glo "_law_has").ok K,
  fun K => (He.Fa.keep "_law_has").ok K,
  fun K => (He.Fa.free "int").ok K,
  fun K => (He.Fa.glo "_law_mixed").ok K,
  fun K => (He.Fa.keep "_law_mixed").ok K,
  fun K => (He.Fa.glo "_law_near").ok K,
  fun K => (He.Fa.keep "_law_near").ok K,
  fun K => (He.Fa.glo "_law_leaf").ok K,
  fun K => (He.Fa.keep "_law_leaf").ok K,
  fun K => (He.Fa.glo "_law_column").ok K,
  fun K => (He.Fa.keep "_law_column").ok K,
  fun K => (He.Fa.glo "_law_side").ok K,
  fun K => (He.Fa.keep "_law_side").ok K,
  fun K => (He.Fa.glo "compare").ok K,
  fun K => (He.Fa.keep "compare").ok K,
  fun K => (He.Fa.glo "_law_term").ok K,
  fun K => (He.Fa.keep "_law_term").ok K,
  fun K => (He.Fa.glo "missing").ok K,
  fun K => (He.Fa.keep "missing").ok K,
  fun K => (He.Fa.glo "negation").ok K,
  fun K => (He.Fa.keep "negation").ok K,
  fun K => (He.Fa.glo "truth_test").ok K,
  fun K => (He.Fa.keep "truth_test").ok K,
  fun K => (He.Fa.glo "always").ok K,
  fun K => (He.Fa.keep "always").ok K,
  fun K => (He.Fa.glo "never").ok K,
  fun K => (He.Fa.keep "never").ok K,
  fun K => (He.Fa.glo "maybe").ok K,
  fun K => (He.Fa.keep "maybe").ok K,
  fun K => (He.Fa.glo "_law_join").ok K,
  fun K => (He.Fa.keep "_law_join").ok K,
  fun K => (He.Fa.glo "SIGNS_OF_COMPARISON").ok K,
  tupB "SIGNS_OF_COMPARISON" dv_SIGNS_OF_COMPARISON,
  fun K => (He.Fa.cls "Term").ok K,
  fun K => (He.Fa.noat "Term" "shape").ok K,
  fun K => (He.Fa.mkr "Condition").ok K,
  fun K => (He.Fa.glo "Condition").ok K,
  fun K => (He.Fa.free "tuple").ok K,
  fun K => (He.Fa.cls "Condition").ok K,
  fun K => (He.Fa.noat "Condition" "steps").ok K,
  fun K => (He.Fa.glo "Term").ok K,
  stB "Term" "of_nothing",
  stB "Term" "of_number",
  stB "Term" "of_column",
  opIB "Term" .Add,
  fun K => (He.Fa.mkr "Term").ok K,
  fun K => (He.Fa.glo "check_name").ok K,
  fun K => (He.Fa.keep "check_name").ok K,
  fun K => (He.Fa.glo "is_name").ok K,
  fun K => (He.Fa.keep "is_name").ok K,
  fun K => (He.Fa.int "LONGEST" 12).ok K,
  fun K => (He.Fa.glo "RESERVED").ok K,
  tupB "RESERVED" dv_RESERVED,
  fun K => (He.Fa.str "LETTERS" "abcdefghijklmnopqrstuvwxyz").ok K,
  fun K => (He.Fa.str "SIGNS" "abcdefghijklmnopqrstuvwxyz0123456789_").ok K,
  fun K => isiChk K (.type "int") (isiInt []) [],
  fun K => (He.Fa.free "isinstance").ok K,
  fun K => (He.Fa.glo "shifted").ok K,
  fun K => (He.Fa.keep "shifted").ok K,
  fun K => (He.Fa.glo "WORDS").ok K,
  tupB "WORDS" dv_WORDS,
  fun K => (He.Fa.glo "both").ok K,
  fun K => (He.Fa.keep "both").ok K,
  fun K => (He.Fa.glo "either").ok K,
  fun K => (He.Fa.keep "either").ok K,
  fun K => (He.Fa.glo "joined").ok K,
  fun K => (He.Fa.keep "joined").ok K,
  fun K => (He.Fa.glo "_law_value").ok K,
  fun K => (He.Fa.keep "_law_value").ok K,
  fun K => (He.Fa.glo "_law_compared").ok K,
  fun K => (He.Fa.keep "_law_compared").ok K,
  fun K => (He.Fa.glo "_law_joined").ok K,
  fun K => (He.Fa.keep "_law_joined").ok K,
  fun K => (He.Fa.glo "_law_rests").ok K,
  fun K => (He.Fa.keep "_law_rests").ok K,
  fun K => (He.Fa.glo "_law_known").ok K,
  fun K => (He.Fa.keep "_law_known").ok K,
  fun K => isiChk K (.type "bool") (isiBool []) [],
  fun K => (He.Fa.free "bool").ok K,
  fun K => isiChk K (.type "str") (isiStr []) [],
  fun K => (He.Fa.free "str").ok K,
  fun K => isiChk K (.type "dict") (isiDct []) [],
  fun K => (He.Fa.free "dict").ok K,
  fun K => isiChk K (.type "tuple") (isiTup []) [],
  fun K => isiChk K (.type "list") (isiLst []) [],
  fun K => (He.Fa.glo "survey").ok K,
  fun K => (He.Fa.keep "survey").ok K,
  fun K => (He.Fa.int "TRUE" 4).ok K,
  fun K => (He.Fa.int "UNKNOWN" 2).ok K,
  fun K => (He.Fa.int "FALSE" 1).ok K,
  fun K => (He.Fa.glo "read_answers").ok K,
  fun K => (He.Fa.keep "read_answers").ok K,
  fun K => (He.Fa.glo "leaf_truths").ok K,
  fun K => (He.Fa.keep "leaf_truths").ok K,
  fun K => (He.Fa.glo "mirrored").ok K,
  fun K => (He.Fa.keep "mirrored").ok K,
  fun K => (He.Fa.glo "tested_truths").ok K,
  fun K => (He.Fa.keep "tested_truths").ok K,
  fun K => (He.Fa.glo "joined_truths").ok K,
  fun K => (He.Fa.keep "joined_truths").ok K,
  fun K => (He.Fa.glo "first_open").ok K,
  fun K => (He.Fa.keep "first_open").ok K,
  fun K => (He.Fa.glo "answer_bound").ok K,
  fun K => (He.Fa.keep "answer_bound").ok K,
  fun K => (He.Fa.glo "compare_truths").ok K,
  fun K => (He.Fa.keep "compare_truths").ok K,
  fun K => (He.Fa.int "OPEN" 5).ok K,
  fun K => (He.Fa.glo "step_shapes").ok K,
  fun K => (He.Fa.keep "step_shapes").ok K,
  fun K => (He.Fa.int "ALL" 7).ok K,
  fun K => (He.Fa.glo "bounds_of").ok K,
  fun K => (He.Fa.keep "bounds_of").ok K,
  fun K => (He.Fa.glo "settled").ok K,
  fun K => (He.Fa.keep "settled").ok K,
  fun K => (He.Fa.free "all").ok K,
  tupNB "WORDS",
  fun K => (He.Fa.glo "least_of").ok K,
  fun K => (He.Fa.keep "least_of").ok K,
  fun K => (He.Fa.glo "law").ok K]
def fn : List DefX := [⟨fun K => (He.ga K "_law_start"), "_law_start", "_law_start", defArgs (top 58), defBody (top 58), defScope (top 58), [], []⟩,
  ⟨fun K => (He.ga K "_law_mixed"), "_law_mixed", "_law_mixed", defArgs (top 59), defBody (top 59), defScope (top 59), [], []⟩,
  ⟨fun K => (He.ga K "_law_draw"), "_law_draw", "_law_draw", defArgs (top 60), defBody (top 60), defScope (top 60), [], []⟩,
  ⟨fun K => (He.ga K "_law_names"), "_law_names", "_law_names", defArgs (top 62), defBody (top 62), defScope (top 62), [], []⟩,
  ⟨fun K => (He.ga K "_law_centres"), "_law_centres", "_law_centres", defArgs (top 63), defBody (top 63), defScope (top 63), [], []⟩,
  ⟨fun K => (He.ga K "_law_near"), "_law_near", "_law_near", defArgs (top 64), defBody (top 64), defScope (top 64), [], []⟩,
  ⟨fun K => (He.ga K "_law_cells"), "_law_cells", "_law_cells", defArgs (top 65), defBody (top 65), defScope (top 65), [], []⟩,
  ⟨fun K => (He.ga K "_law_column"), "_law_column", "_law_column", defArgs (top 66), defBody (top 66), defScope (top 66), [], []⟩,
  ⟨fun K => (He.ga K "_law_side"), "_law_side", "_law_side", defArgs (top 67), defBody (top 67), defScope (top 67), [], []⟩,
  ⟨fun K => (He.ga K "_law_leaf"), "_law_leaf", "_law_leaf", defArgs (top 68), defBody (top 68), defScope (top 68), [], []⟩,
  ⟨fun K => (He.ga K "_law_steps"), "_law_steps", "_law_steps", defArgs (top 69), defBody (top 69), defScope (top 69), [], []⟩,
  ⟨fun K => (He.ma K (He.ga K "Condition") "__init__"), "__init__", "Condition.__init__", defArgs (inClass (top 27) 0), defBody (inClass (top 27) 0), defScope (inClass (top 27) 0), [], []⟩,
  ⟨fun K => (He.ga K "compare"), "compare", "compare", defArgs (top 31), defBody (top 31), defScope (top 31), [], []⟩,
  ⟨fun K => (He.ma K (He.ga K "Term") "__init__"), "__init__", "Term.__init__", defArgs (inClass (top 16) 0), defBody (inClass (top 16) 0), defScope (inClass (top 16) 0), [], []⟩,
  ⟨fun K => (stA K "Term" "of_nothing"), "of_nothing", "Term.of_nothing", defArgs (inClass (top 16) 3), defBody (inClass (top 16) 3), defScope (inClass (top 16) 3), [], []⟩,
  ⟨fun K => (stA K "Term" "of_number"), "of_number", "Term.of_number", defArgs (inClass (top 16) 2), defBody (inClass (top 16) 2), defScope (inClass (top 16) 2), [], []⟩,
  ⟨fun K => (He.ga K "is_name"), "is_name", "is_name", defArgs (top 10), defBody (top 10), defScope (top 10), [], []⟩,
  ⟨fun K => (He.ga K "check_name"), "check_name", "check_name", defArgs (top 11), defBody (top 11), defScope (top 11), [], []⟩,
  ⟨fun K => (stA K "Term" "of_column"), "of_column", "Term.of_column", defArgs (inClass (top 16) 1), defBody (inClass (top 16) 1), defScope (inClass (top 16) 1), [], []⟩,
  ⟨fun K => (He.ga K "shifted"), "shifted", "shifted", defArgs (top 14), defBody (top 14), defScope (top 14), [], []⟩,
  ⟨fun K => (He.ma K (He.ga K "Term") "__add__"), "__add__", "Term.__add__", defArgs (inClass (top 16) 5), defBody (inClass (top 16) 5), defScope (inClass (top 16) 5), [], []⟩,
  ⟨fun K => (He.ga K "_law_term"), "_law_term", "_law_term", defArgs (top 70), defBody (top 70), defScope (top 70), [], []⟩,
  ⟨fun K => (He.ga K "missing"), "missing", "missing", defArgs (top 32), defBody (top 32), defScope (top 32), [], []⟩,
  ⟨fun K => (He.ga K "negation"), "negation", "negation", defArgs (top 33), defBody (top 33), defScope (top 33), [], []⟩,
  ⟨fun K => (He.ga K "truth_test"), "truth_test", "truth_test", defArgs (top 34), defBody (top 34), defScope (top 34), [], []⟩,
  ⟨fun K => (He.ga K "always"), "always", "always", defArgs (top 28), defBody (top 28), defScope (top 28), [], []⟩,
  ⟨fun K => (He.ga K "never"), "never", "never", defArgs (top 29), defBody (top 29), defScope (top 29), [], []⟩,
  ⟨fun K => (He.ga K "maybe"), "maybe", "maybe", defArgs (top 30), defBody (top 30), defScope (top 30), [], []⟩,
  ⟨fun K => (He.ga K "joined"), "joined", "joined", defArgs (top 35), defBody (top 35), defScope (top 35), [], []⟩,
  ⟨fun K => (He.ga K "both"), "both", "both", defArgs (top 36), defBody (top 36), defScope (top 36), [], []⟩,
  ⟨fun K => (He.ga K "either"), "either", "either", defArgs (top 37), defBody (top 37), defScope (top 37), [], []⟩,
  ⟨fun K => (He.ga K "_law_join"), "_law_join", "_law_join", defArgs (top 71), defBody (top 71), defScope (top 71), [], []⟩,
  ⟨fun K => (He.ga K "_law_made"), "_law_made", "_law_made", defArgs (top 72), defBody (top 72), defScope (top 72), [], []⟩,
  ⟨fun K => (He.ga K "_law_value"), "_law_value", "_law_value", defArgs (top 73), defBody (top 73), defScope (top 73), [], []⟩,
  ⟨fun K => (He.ga K "_law_compared"), "_law_compared", "_law_compared", defArgs (top 74), defBody (top 74), defScope (top 74), [], []⟩,
  ⟨fun K => (He.ga K "_law_joined"), "_law_joined", "_law_joined", defArgs (top 75), defBody (top 75), defScope (top 75), [], []⟩,
  ⟨fun K => (He.ga K "_law_rank"), "_law_rank", "_law_rank", defArgs (top 76), defBody (top 76), defScope (top 76), [], []⟩,
  ⟨fun K => (He.ga K "_law_rests"), "_law_rests", "_law_rests", defArgs (top 77), defBody (top 77), defScope (top 77), [], []⟩,
  ⟨fun K => (He.ga K "_law_resting"), "_law_resting", "_law_resting", defArgs (top 78), defBody (top 78), defScope (top 78), [], []⟩,
  ⟨fun K => (He.ga K "_law_column_answers"), "_law_column_answers", "_law_column_answers", defArgs (top 82), defBody (top 82), defScope (top 82), [], []⟩,
  ⟨fun K => (He.ga K "_law_known"), "_law_known", "_law_known", defArgs (top 80), defBody (top 80), defScope (top 80), [], []⟩,
  ⟨fun K => (He.ga K "_law_answer"), "_law_answer", "_law_answer", defArgs (top 81), defBody (top 81), defScope (top 81), [], []⟩,
  ⟨fun K => (He.ga K "_law_same"), "_law_same", "_law_same", defArgs (top 61), defBody (top 61), defScope (top 61), [], []⟩,
  ⟨fun K => (He.ga K "answer_bound"), "answer_bound", "answer_bound", defArgs (top 44), defBody (top 44), defScope (top 44), [], []⟩,
  ⟨fun K => (He.ga K "read_answers"), "read_answers", "read_answers", defArgs (top 45), defBody (top 45), defScope (top 45), [], []⟩,
  ⟨fun K => (He.ga K "step_shapes"), "step_shapes", "step_shapes", defArgs (top 22), defBody (top 22), defScope (top 22), [], []⟩,
  ⟨fun K => (He.ga K "bounds_of"), "bounds_of", "bounds_of", defArgs (top 46), defBody (top 46), defScope (top 46), [], []⟩,
  ⟨fun K => (He.ga K "settled"), "settled", "settled", defArgs (top 47), defBody (top 47), defScope (top 47), [], []⟩,
  ⟨fun K => (He.ga K "mirrored"), "mirrored", "mirrored", defArgs (top 48), defBody (top 48), defScope (top 48), [], []⟩,
  ⟨fun K => (He.ga K "compare_truths"), "compare_truths", "compare_truths", defArgs (top 49), defBody (top 49), defScope (top 49), [], []⟩,
  ⟨fun K => (He.ga K "leaf_truths"), "leaf_truths", "leaf_truths", defArgs (top 50), defBody (top 50), defScope (top 50), [], []⟩,
  ⟨fun K => (He.ga K "tested_truths"), "tested_truths", "tested_truths", defArgs (top 53), defBody (top 53), defScope (top 53), [], []⟩,
  ⟨fun K => (He.ga K "least_of"), "least_of", "least_of", defArgs (top 51), defBody (top 51), defScope (top 51), [], []⟩,
  ⟨fun K => (He.ga K "joined_truths"), "joined_truths", "joined_truths", defArgs (top 52), defBody (top 52), defScope (top 52), [], []⟩,
  ⟨fun K => (He.ga K "first_open"), "first_open", "first_open", defArgs (top 54), defBody (top 54), defScope (top 54), [], []⟩,
  ⟨fun K => (He.ga K "survey"), "survey", "survey", defArgs (top 55), defBody (top 55), defScope (top 55), [], []⟩,
  ⟨fun K => (He.ga K "possible_truths"), "possible_truths", "possible_truths", defArgs (top 56), defBody (top 56), defScope (top 56), [], []⟩,
  ⟨fun K => (He.ga K "_law_near_bound"), "_law_near_bound", "_law_near_bound", defArgs (top 79), defBody (top 79), defScope (top 79), [], []⟩,
  ⟨fun K => (He.ga K "_law_some"), "_law_some", "_law_some", defArgs (top 83), defBody (top 83), defScope (top 83), [], []⟩,
  ⟨fun K => (He.ga K "_law_has"), "_law_has", "_law_has", defArgs (top 84), defBody (top 84), defScope (top 84), [], []⟩,
  ⟨fun K => (He.ga K "law"), "law", "law", defArgs (top 85), defBody (top 85), defScope (top 85), [], []⟩]
abbrev R : PySem.W.OpenRow := PySem.W.OpenLaw.row PySem.Challenge.rw_totalsbeside_k06_whole_possible_truths_h
def usedN : List PySem.Str := (["_law_start", "_law_draw", "_law_names", "_law_centres", "_law_cells", "_law_steps", "_law_made", "_law_rank", "_law_resting", "_law_column_answers", "_law_answer", "_law_same", "possible_truths", "_law_near_bound", "_law_some", "_law_has", "_law_mixed", "_law_near", "_law_leaf", "_law_column", "_law_side", "compare", "_law_term", "missing", "negation", "truth_test", "always", "never", "maybe", "_law_join"] : List PySem.Str) ++ (["SIGNS_OF_COMPARISON", "Term", "Condition", "check_name", "is_name", "LONGEST", "RESERVED", "LETTERS", "SIGNS", "shifted", "WORDS", "both", "either", "joined", "_law_value", "_law_compared", "_law_joined", "_law_rests", "_law_known", "survey", "TRUE", "UNKNOWN", "FALSE", "read_answers", "leaf_truths", "mirrored", "tested_truths", "joined_truths", "first_open", "answer_bound"] : List PySem.Str) ++ (["compare_truths", "OPEN", "step_shapes", "ALL", "bounds_of", "settled", "least_of", "law"] : List PySem.Str)
abbrev hk : PySem.W.Hook := hookB usedN 4 fx fn ts
def ob (s : PySem.W.SharedT) : AlX := obsBG usedN 4 fx fn ts (HandSHeadRun.getT s)
theorem ob_eq (s : PySem.W.SharedT) : ob s = hk.obs s.abs := obsBG_eq (HandSHeadRun.getT_eq s)
abbrev looseN : List PySem.Str := ((["_wall", "HeldError", "InvalidName", "InvalidCondition", "LETTERS", "SIGNS", "LONGEST", "RESERVED", "is_name", "check_name", "shape_columns", "shifted", "shape_value", "Term", "WORDS", "Truth", "SIGNS_OF_COMPARISON", "step_shapes", "steps_columns", "compare_values", "leaf_rank", "steps_rank", "Condition", "always", "never", "maybe", "compare", "missing", "negation", "truth_test"] : List PySem.Str) ++ (["joined", "both", "either", "FALSE", "UNKNOWN", "TRUE", "OPEN", "ALL", "answer_bound", "read_answers", "bounds_of", "settled", "mirrored", "compare_truths", "leaf_truths", "least_of", "joined_truths", "tested_truths", "first_open", "survey", "possible_truths", "_law_start", "_law_mixed", "_law_draw", "_law_same", "_law_names", "_law_centres", "_law_near", "_law_cells", "_law_column"] : List PySem.Str) ++ (["_law_side", "_law_leaf", "_law_steps", "_law_term", "_law_join", "_law_made", "_law_value", "_law_compared", "_law_joined", "_law_rank", "_law_rests", "_law_resting", "_law_near_bound", "_law_known", "_law_answer", "_law_column_answers", "_law_some", "_law_has"] : List PySem.Str))
theorem run (w : World) : HandSHeadRun.RunEq R (PySem.W.view R.prog [85]) hk ob 30000 looseN w := by
  intro os
  kernel_rfl
end DL
namespace DL
open PySem L2

/-! ### draws -/
def AllI (l : List D) : Prop := ∀ d ∈ l, ∃ i : Int, d = .int i
/-- the state of the draws -/
def StOk (st : D) : Prop := ∃ (js : List D) (i r a : Int), st = .lst [.lst js, .int i, .int r, .int a] ∧ AllI js ∧ js.length ≤ 63 ∧ 0 ≤ i ∧ i ≤ js.length ∧ 0 ≤ a ∧ a ≤ 3 ∧ (0 < a → 1 ≤ i)
/-- the bound of what is drawn below -/
def Many (m : Int) : Prop := 0 < m ∧ m < 10 ^ 100
/-- a draw of state st below m, in slot-free words -/
def Dr (m : Int) (Q : Int → D → Prop) : Prop := ∀ (r : Int) (st : D), 0 ≤ r → r < m → StOk st → Q r st
def sp_law_start : SpD := fun ds Qd _ => ∃ js : List D, ds = [.lck js] ∧ AllI js ∧ ∀ st, StOk st → Qd st []
theorem len_law_start : ∀ ds Qd Qe, sp_law_start ds Qd Qe → ds.length = 1 := by rintro _ _ _ ⟨_, rfl, _⟩; rfl
@[simp ↓] theorem u_law_start {js : List D} {Qd : D → List D → Prop} {Qe : Exn → List D → Prop} : sp_law_start [.lck js] Qd Qe = (AllI js ∧ ∀ st, StOk st → Qd st []) := propext ⟨fun h => by
  obtain ⟨_, h, k⟩ := h
  cases h
  exact k, fun k => ⟨_, rfl, k⟩⟩
def sp_law_mixed : SpD := fun ds Qd _ => ∃ c k m : Int, ds = [.int c, .int k, .int m] ∧ 0 < m ∧ ∀ r, 0 ≤ r → r < m → Qd (.int r) []
theorem len_law_mixed : ∀ ds Qd Qe, sp_law_mixed ds Qd Qe → ds.length = 3 := by rintro _ _ _ ⟨_, _, _, rfl, _⟩; rfl
@[simp ↓] theorem u_law_mixed {c k m : Int} {Qd : D → List D → Prop} {Qe : Exn → List D → Prop} : sp_law_mixed [.int c, .int k, .int m] Qd Qe = (0 < m ∧ ∀ r, 0 ≤ r → r < m → Qd (.int r) []) := propext ⟨fun h => by
  obtain ⟨_, _, _, h, k⟩ := h
  cases h
  exact k, fun k => ⟨_, _, _, rfl, k⟩⟩
def sp_law_draw : SpD := fun ds Qd _ => ∃ (st : D) (m : Int), ds = [st, .int m] ∧ StOk st ∧ Many m ∧ ∀ r st', 0 ≤ r → r < m → StOk st' → Qd (.int r) [st']
theorem len_law_draw : ∀ ds Qd Qe, sp_law_draw ds Qd Qe → ds.length = 2 := by rintro _ _ _ ⟨_, _, rfl, _⟩; rfl
@[simp ↓] theorem u_law_draw {st : D} {m : Int} {Qd : D → List D → Prop} {Qe : Exn → List D → Prop} : sp_law_draw [st, .int m] Qd Qe = (StOk st ∧ Many m ∧ ∀ r st', 0 ≤ r → r < m → StOk st' → Qd (.int r) [st']) := propext ⟨fun h => by
  obtain ⟨_, _, h, k⟩ := h
  cases h
  exact k, fun k => ⟨_, _, rfl, k⟩⟩

/-! ### names -/
def letL : List Nat := [97, 98, 99, 100, 101, 102, 103, 104, 105, 106, 107, 108, 109, 110, 111, 112, 113, 114, 115, 116, 117, 118, 119, 120, 121, 122]
def sgnL : List Nat := letL ++ [48, 49, 50, 51, 52, 53, 54, 55, 56, 57, 95]
def resL : List Str := ["always", "and", "between", "case", "cls", "condition", "else", "end", "false", "in", "index", "is", "maybe", "never", "not", "on", "or", "schema", "self", "single", "then", "true", "unknown", "when", "where"]
def tl (x : Str) : List Nat := x.cps.toList
/-- 1 to 12 signs, the first a letter -/
def Cand (x : Str) : Prop := 1 ≤ x.length ∧ x.length ≤ 12 ∧ (∀ c ∈ tl x, c ∈ sgnL) ∧ ∃ c r, tl x = c :: r ∧ c ∈ letL
def NameOk (x : Str) : Prop := Cand x ∧ x ∉ resL
def NamesOk (xs : List Str) : Prop := (∀ x ∈ xs, NameOk x) ∧ xs.Nodup
def txs (xs : List Str) : List D := xs.map D.str
def sp_law_names : SpD := fun ds Qd _ => ∃ (st : D) (many : Int), ds = [st, .int many] ∧ StOk st ∧ 1 ≤ many ∧ many ≤ 9 ∧ ∀ (xs : List Str) st', (xs.length : Int) = many → NamesOk xs → StOk st' → Qd (.lst (txs xs)) [st']
theorem len_law_names : ∀ ds Qd Qe, sp_law_names ds Qd Qe → ds.length = 2 := by rintro _ _ _ ⟨_, _, rfl, _⟩; rfl
@[simp ↓] theorem u_law_names {st : D} {many : Int} {Qd : D → List D → Prop} {Qe : Exn → List D → Prop} : sp_law_names [st, .int many] Qd Qe = (StOk st ∧ 1 ≤ many ∧ many ≤ 9 ∧ ∀ (xs : List Str) st', (xs.length : Int) = many → NamesOk xs → StOk st' → Qd (.lst (txs xs)) [st']) := propext ⟨fun h => by
  obtain ⟨_, _, h, k⟩ := h
  cases h
  exact k, fun k => ⟨_, _, rfl, k⟩⟩

/-! ### shapes, conditions -/
/-- a whole number within 41 digits and some -/
def Num (n : Int) (b : Nat) : Prop := n.natAbs ≤ b * 10 ^ 40
inductive Sh where
  | non | num (n : Int) | col (x : Str) (n : Int)
def Sh.d : Sh → D
  | .non => .non
  | .num n => .tup [.non, .int n]
  | .col x n => .tup [.str x, .int n]
def Sh.Ok (xs : List Str) : Sh → Prop
  | .non => True
  | .num n => Num n 9
  | .col x n => x ∈ xs ∧ Num n 9
def opsL : List Str := ["<", "<=", "=", "!=", ">=", ">"]
def cstL : List Str := ["always", "never", "maybe"]
def wrdL : List Str := ["false", "unknown", "true"]
inductive Ct where
  | cmp (a : Sh) (op : Str) (b : Sh) | mis (a : Sh) | cst (w : Str) | neg (c : Ct) | tst (c : Ct) (w : Str) | jn (b : Bool) (cs : List Ct)
def jnW (b : Bool) : Str := if b = true then "both" else "either"
mutual
def Ct.steps : Ct → List D
  | .cmp a op b => [.tup [.str "compare", a.d, .str op, b.d]]
  | .mis a => [.tup [.str "missing", a.d]]
  | .cst w => [.tup [.str w]]
  | .neg c => c.steps ++ [.tup [.str "not"]]
  | .tst c w => c.steps ++ [.tup [.str "test", .str w]]
  | .jn b cs => stepsL cs ++ [.tup [.str (jnW b), .int cs.length]]
def stepsL : List Ct → List D
  | [] => []
  | c :: cs => c.steps ++ stepsL cs
end
mutual
def Ct.Ok (xs : List Str) : Ct → Prop
  | .cmp a op b => a.Ok xs ∧ op ∈ opsL ∧ b.Ok xs
  | .mis a => a.Ok xs
  | .cst w => w ∈ cstL
  | .neg c => c.Ok xs
  | .tst c w => c.Ok xs ∧ w ∈ wrdL
  | .jn _ cs => 2 ≤ cs.length ∧ cs.length ≤ 4 ∧ okL xs cs
def okL (xs : List Str) : List Ct → Prop
  | [] => True
  | c :: cs => c.Ok xs ∧ okL xs cs
end
mutual
/-- the number of steps -/
def Ct.size : Ct → Nat
  | .neg c => c.size + 1
  | .tst c _ => c.size + 1
  | .jn _ cs => sizeL cs + 1
  | _ => 1
def sizeL : List Ct → Nat
  | [] => 0
  | c :: cs => c.size + sizeL cs
end
def cenOk (d : D) : Prop := ∃ a b : Int, d = .lst [.int a, .int b] ∧ Num a 1 ∧ Num b 1
def sp_law_centres : SpD := fun ds Qd _ => ∃ st : D, ds = [st] ∧ StOk st ∧ ∀ c st', cenOk c → StOk st' → Qd c [st']
theorem len_law_centres : ∀ ds Qd Qe, sp_law_centres ds Qd Qe → ds.length = 1 := by rintro _ _ _ ⟨_, rfl, _⟩; rfl
@[simp ↓] theorem u_law_centres {st : D} {Qd : D → List D → Prop} {Qe : Exn → List D → Prop} : sp_law_centres [st] Qd Qe = (StOk st ∧ ∀ c st', cenOk c → StOk st' → Qd c [st']) := propext ⟨fun h => by
  obtain ⟨_, h, k⟩ := h
  cases h
  exact k, fun k => ⟨_, rfl, k⟩⟩
def sp_law_near : SpD := fun ds Qd _ => ∃ st c : D, ds = [st, c] ∧ StOk st ∧ cenOk c ∧ ∀ n st', Num n 2 → StOk st' → Qd (.int n) [st']
theorem len_law_near : ∀ ds Qd Qe, sp_law_near ds Qd Qe → ds.length = 2 := by rintro _ _ _ ⟨_, _, rfl, _⟩; rfl
@[simp ↓] theorem u_law_near {st c : D} {Qd : D → List D → Prop} {Qe : Exn → List D → Prop} : sp_law_near [st, c] Qd Qe = (StOk st ∧ cenOk c ∧ ∀ n st', Num n 2 → StOk st' → Qd (.int n) [st']) := propext ⟨fun h => by
  obtain ⟨_, _, h, k⟩ := h
  cases h
  exact k, fun k => ⟨_, _, rfl, k⟩⟩
def sp_law_column : SpD := fun ds Qd _ => ∃ (st : D) (xs : List D) (c : D), ds = [st, .lst xs, c] ∧ StOk st ∧ (∃ ys, xs = txs ys ∧ 1 ≤ ys.length ∧ ys.length ≤ 9) ∧ cenOk c ∧ ∀ x n st', (∀ ys, xs = txs ys → x ∈ ys) → Num n 3 → StOk st' → Qd (.tup [.str x, .int n]) [st']
theorem len_law_column : ∀ ds Qd Qe, sp_law_column ds Qd Qe → ds.length = 3 := by rintro _ _ _ ⟨_, _, _, rfl, _⟩; rfl
@[simp ↓] theorem u_law_column {st : D} {xs : List D} {c : D} {Qd : D → List D → Prop} {Qe : Exn → List D → Prop} : sp_law_column [st, .lst xs, c] Qd Qe = (StOk st ∧ (∃ ys, xs = txs ys ∧ 1 ≤ ys.length ∧ ys.length ≤ 9) ∧ cenOk c ∧ ∀ x n st', (∀ ys, xs = txs ys → x ∈ ys) → Num n 3 → StOk st' → Qd (.tup [.str x, .int n]) [st']) := propext ⟨fun h => by
  obtain ⟨_, _, _, h, k⟩ := h
  cases h
  exact k, fun k => ⟨_, _, _, rfl, k⟩⟩
def sp_law_side : SpD := fun ds Qd _ => ∃ (st : D) (xs : List D) (c : D), ds = [st, .lst xs, c] ∧ StOk st ∧ (∃ ys, xs = txs ys ∧ 1 ≤ ys.length ∧ ys.length ≤ 9) ∧ cenOk c ∧ ∀ (s : Sh) st', (∀ ys, xs = txs ys → s.Ok ys) → StOk st' → Qd s.d [st']
theorem len_law_side : ∀ ds Qd Qe, sp_law_side ds Qd Qe → ds.length = 3 := by rintro _ _ _ ⟨_, _, _, rfl, _⟩; rfl
@[simp ↓] theorem u_law_side {st : D} {xs : List D} {c : D} {Qd : D → List D → Prop} {Qe : Exn → List D → Prop} : sp_law_side [st, .lst xs, c] Qd Qe = (StOk st ∧ (∃ ys, xs = txs ys ∧ 1 ≤ ys.length ∧ ys.length ≤ 9) ∧ cenOk c ∧ ∀ (s : Sh) st', (∀ ys, xs = txs ys → s.Ok ys) → StOk st' → Qd s.d [st']) := propext ⟨fun h => by
  obtain ⟨_, _, _, h, k⟩ := h
  cases h
  exact k, fun k => ⟨_, _, _, rfl, k⟩⟩
def sp_law_leaf : SpD := fun ds Qd _ => ∃ (st : D) (xs : List D) (c : D), ds = [st, .lst xs, c] ∧ StOk st ∧ (∃ ys, xs = txs ys ∧ 1 ≤ ys.length ∧ ys.length ≤ 9) ∧ cenOk c ∧ ∀ (t : Ct) st', (∀ ys, xs = txs ys → t.Ok ys) → t.size = 1 → StOk st' → Qd (.lst t.steps) [st']
theorem len_law_leaf : ∀ ds Qd Qe, sp_law_leaf ds Qd Qe → ds.length = 3 := by rintro _ _ _ ⟨_, _, _, rfl, _⟩; rfl
@[simp ↓] theorem u_law_leaf {st : D} {xs : List D} {c : D} {Qd : D → List D → Prop} {Qe : Exn → List D → Prop} : sp_law_leaf [st, .lst xs, c] Qd Qe = (StOk st ∧ (∃ ys, xs = txs ys ∧ 1 ≤ ys.length ∧ ys.length ≤ 9) ∧ cenOk c ∧ ∀ (t : Ct) st', (∀ ys, xs = txs ys → t.Ok ys) → t.size = 1 → StOk st' → Qd (.lst t.steps) [st']) := propext ⟨fun h => by
  obtain ⟨_, _, _, h, k⟩ := h
  cases h
  exact k, fun k => ⟨_, _, _, rfl, k⟩⟩
def sp_law_small_leaf : SpD := fun ds Qd _ => ∃ (st : D) (xs : List D), ds = [st, .lst xs] ∧ StOk st ∧ (∃ ys, xs = txs ys ∧ 1 ≤ ys.length ∧ ys.length ≤ 9) ∧ ∀ (t : Ct) st', (∀ ys, xs = txs ys → t.Ok ys) → t.size = 1 → StOk st' → Qd (.lst t.steps) [st']
theorem len_law_small_leaf : ∀ ds Qd Qe, sp_law_small_leaf ds Qd Qe → ds.length = 2 := by rintro _ _ _ ⟨_, _, rfl, _⟩; rfl
@[simp ↓] theorem u_law_small_leaf {st : D} {xs : List D} {Qd : D → List D → Prop} {Qe : Exn → List D → Prop} : sp_law_small_leaf [st, .lst xs] Qd Qe = (StOk st ∧ (∃ ys, xs = txs ys ∧ 1 ≤ ys.length ∧ ys.length ≤ 9) ∧ ∀ (t : Ct) st', (∀ ys, xs = txs ys → t.Ok ys) → t.size = 1 → StOk st' → Qd (.lst t.steps) [st']) := propext ⟨fun h => by
  obtain ⟨_, _, h, k⟩ := h
  cases h
  exact k, fun k => ⟨_, _, rfl, k⟩⟩
def sp_law_steps : SpD := fun ds Qd _ => ∃ (st : D) (xs : List D) (c : D) (most : Int), ds = [st, .lst xs, c, .int most] ∧ StOk st ∧ (∃ ys, xs = txs ys ∧ 1 ≤ ys.length ∧ ys.length ≤ 9) ∧ cenOk c ∧ 1 ≤ most ∧ most ≤ 4 ∧ ∀ (t : Ct) st', (∀ ys, xs = txs ys → t.Ok ys) → t.size ≤ 12 → StOk st' → Qd (.lst t.steps) [st']
theorem len_law_steps : ∀ ds Qd Qe, sp_law_steps ds Qd Qe → ds.length = 4 := by rintro _ _ _ ⟨_, _, _, _, rfl, _⟩; rfl
@[simp ↓] theorem u_law_steps {st : D} {xs : List D} {c : D} {most : Int} {Qd : D → List D → Prop} {Qe : Exn → List D → Prop} : sp_law_steps [st, .lst xs, c, .int most] Qd Qe = (StOk st ∧ (∃ ys, xs = txs ys ∧ 1 ≤ ys.length ∧ ys.length ≤ 9) ∧ cenOk c ∧ 1 ≤ most ∧ most ≤ 4 ∧ ∀ (t : Ct) st', (∀ ys, xs = txs ys → t.Ok ys) → t.size ≤ 12 → StOk st' → Qd (.lst t.steps) [st']) := propext ⟨fun h => by
  obtain ⟨_, _, _, _, h, k⟩ := h
  cases h
  exact k, fun k => ⟨_, _, _, _, rfl, k⟩⟩

/-! ### terms, conditions of the program -/
abbrev term (s : D) : D := .obj "Term" ["shape"] [s]
abbrev cond (l : List D) : D := .obj "Condition" ["steps"] [.tup l]
def sp_Term_init : SpD := fun ds Qd _ => ∃ s : D, ds = [.obj "Term" [] [], s] ∧ Qd .non [term s]
theorem len_Term_init : ∀ ds Qd Qe, sp_Term_init ds Qd Qe → ds.length = 2 := by rintro _ _ _ ⟨_, rfl, _⟩; rfl
@[simp ↓] theorem u_Term_init {s : D} {Qd : D → List D → Prop} {Qe : Exn → List D → Prop} : sp_Term_init [.obj "Term" [] [], s] Qd Qe = (Qd .non [term s]) := propext ⟨fun h => by
  obtain ⟨_, h, k⟩ := h
  cases h
  exact k, fun k => ⟨_, rfl, k⟩⟩
def sp_Term_of_nothing : SpD := fun ds Qd _ => ∃ u : Unit, ds = [] ∧ Qd (term .non) []
theorem len_Term_of_nothing : ∀ ds Qd Qe, sp_Term_of_nothing ds Qd Qe → ds.length = 0 := by rintro _ _ _ ⟨_, rfl, _⟩; rfl
@[simp ↓] theorem u_Term_of_nothing  {Qd : D → List D → Prop} {Qe : Exn → List D → Prop} : sp_Term_of_nothing [] Qd Qe = (Qd (term .non) []) := propext ⟨fun h => by
  obtain ⟨_, h, k⟩ := h
  cases h
  exact k, fun k => ⟨(), rfl, k⟩⟩
def sp_Term_of_number : SpD := fun ds Qd _ => ∃ n : Int, ds = [.int n] ∧ Qd (term (.tup [.non, .int n])) []
theorem len_Term_of_number : ∀ ds Qd Qe, sp_Term_of_number ds Qd Qe → ds.length = 1 := by rintro _ _ _ ⟨_, rfl, _⟩; rfl
@[simp ↓] theorem u_Term_of_number {n : Int} {Qd : D → List D → Prop} {Qe : Exn → List D → Prop} : sp_Term_of_number [.int n] Qd Qe = (Qd (term (.tup [.non, .int n])) []) := propext ⟨fun h => by
  obtain ⟨_, h, k⟩ := h
  cases h
  exact k, fun k => ⟨_, rfl, k⟩⟩
def sp_is_name : SpD := fun ds Qd _ => ∃ x : Str, ds = [.str x] ∧ NameOk x ∧ Qd (.bl true) []
theorem len_is_name : ∀ ds Qd Qe, sp_is_name ds Qd Qe → ds.length = 1 := by rintro _ _ _ ⟨_, rfl, _⟩; rfl
@[simp ↓] theorem u_is_name {x : Str} {Qd : D → List D → Prop} {Qe : Exn → List D → Prop} : sp_is_name [.str x] Qd Qe = (NameOk x ∧ Qd (.bl true) []) := propext ⟨fun h => by
  obtain ⟨_, h, k⟩ := h
  cases h
  exact k, fun k => ⟨_, rfl, k⟩⟩
def sp_check_name : SpD := fun ds Qd _ => ∃ x : Str, ds = [.str x] ∧ NameOk x ∧ Qd .non []
theorem len_check_name : ∀ ds Qd Qe, sp_check_name ds Qd Qe → ds.length = 1 := by rintro _ _ _ ⟨_, rfl, _⟩; rfl
@[simp ↓] theorem u_check_name {x : Str} {Qd : D → List D → Prop} {Qe : Exn → List D → Prop} : sp_check_name [.str x] Qd Qe = (NameOk x ∧ Qd .non []) := propext ⟨fun h => by
  obtain ⟨_, h, k⟩ := h
  cases h
  exact k, fun k => ⟨_, rfl, k⟩⟩
def sp_Term_of_column : SpD := fun ds Qd _ => ∃ x : Str, ds = [.str x] ∧ NameOk x ∧ Qd (term (.tup [.str x, .int 0])) []
theorem len_Term_of_column : ∀ ds Qd Qe, sp_Term_of_column ds Qd Qe → ds.length = 1 := by rintro _ _ _ ⟨_, rfl, _⟩; rfl
@[simp ↓] theorem u_Term_of_column {x : Str} {Qd : D → List D → Prop} {Qe : Exn → List D → Prop} : sp_Term_of_column [.str x] Qd Qe = (NameOk x ∧ Qd (term (.tup [.str x, .int 0])) []) := propext ⟨fun h => by
  obtain ⟨_, h, k⟩ := h
  cases h
  exact k, fun k => ⟨_, rfl, k⟩⟩
def sp_shifted : SpD := fun ds Qd _ => ∃ (c : D) (m n : Int), ds = [.tup [c, .int m], .int n] ∧ Qd (.tup [c, .int (m + n)]) []
theorem len_shifted : ∀ ds Qd Qe, sp_shifted ds Qd Qe → ds.length = 2 := by rintro _ _ _ ⟨_, _, _, rfl, _⟩; rfl
@[simp ↓] theorem u_shifted {c : D} {m n : Int} {Qd : D → List D → Prop} {Qe : Exn → List D → Prop} : sp_shifted [.tup [c, .int m], .int n] Qd Qe = (Qd (.tup [c, .int (m + n)]) []) := propext ⟨fun h => by
  obtain ⟨_, _, _, h, k⟩ := h
  cases h
  exact k, fun k => ⟨_, _, _, rfl, k⟩⟩
def sp_Term_add : SpD := fun ds Qd _ => ∃ (c : D) (m n : Int), ds = [term (.tup [c, .int m]), .int n] ∧ Qd (term (.tup [c, .int (m + n)])) []
theorem len_Term_add : ∀ ds Qd Qe, sp_Term_add ds Qd Qe → ds.length = 2 := by rintro _ _ _ ⟨_, _, _, rfl, _⟩; rfl
@[simp ↓] theorem u_Term_add {c : D} {m n : Int} {Qd : D → List D → Prop} {Qe : Exn → List D → Prop} : sp_Term_add [term (.tup [c, .int m]), .int n] Qd Qe = (Qd (term (.tup [c, .int (m + n)])) []) := propext ⟨fun h => by
  obtain ⟨_, _, _, h, k⟩ := h
  cases h
  exact k, fun k => ⟨_, _, _, rfl, k⟩⟩
def sp_law_term : SpD := fun ds Qd _ => ∃ (d : D), ds = [d] ∧ (∃ s ys, d = Sh.d s ∧ s.Ok ys ∧ ∀ x ∈ ys, NameOk x) ∧ Qd (term d) []
theorem len_law_term : ∀ ds Qd Qe, sp_law_term ds Qd Qe → ds.length = 1 := by rintro _ _ _ ⟨_, rfl, _⟩; rfl
@[simp ↓] theorem u_law_term {d : D} {Qd : D → List D → Prop} {Qe : Exn → List D → Prop} : sp_law_term [d] Qd Qe = ((∃ s ys, d = Sh.d s ∧ s.Ok ys ∧ ∀ x ∈ ys, NameOk x) ∧ Qd (term d) []) := propext ⟨fun h => by
  obtain ⟨_, h, k⟩ := h
  cases h
  exact k, fun k => ⟨_, rfl, k⟩⟩
def sp_Condition_init : SpD := fun ds Qd _ => ∃ (d : D), ds = [.obj "Condition" [] [], d] ∧ ∃ l, (d = .lst l ∨ d = .tup l) ∧ Qd .non [cond l]
theorem len_Condition_init : ∀ ds Qd Qe, sp_Condition_init ds Qd Qe → ds.length = 2 := by rintro _ _ _ ⟨_, rfl, _⟩; rfl
@[simp ↓] theorem u_Condition_init {d : D} {Qd : D → List D → Prop} {Qe : Exn → List D → Prop} : sp_Condition_init [.obj "Condition" [] [], d] Qd Qe = (∃ l, (d = .lst l ∨ d = .tup l) ∧ Qd .non [cond l]) := propext ⟨fun h => by
  obtain ⟨_, h, k⟩ := h
  cases h
  exact k, fun k => ⟨_, rfl, k⟩⟩
def sp_compare : SpD := fun ds Qd _ => ∃ (a b : D) (op : Str), ds = [term a, .str op, term b] ∧ op ∈ opsL ∧ Qd (cond [.tup [.str "compare", a, .str op, b]]) []
theorem len_compare : ∀ ds Qd Qe, sp_compare ds Qd Qe → ds.length = 3 := by rintro _ _ _ ⟨_, _, _, rfl, _⟩; rfl
@[simp ↓] theorem u_compare {a b : D} {op : Str} {Qd : D → List D → Prop} {Qe : Exn → List D → Prop} : sp_compare [term a, .str op, term b] Qd Qe = (op ∈ opsL ∧ Qd (cond [.tup [.str "compare", a, .str op, b]]) []) := propext ⟨fun h => by
  obtain ⟨_, _, _, h, k⟩ := h
  cases h
  exact k, fun k => ⟨_, _, _, rfl, k⟩⟩
def sp_missing : SpD := fun ds Qd _ => ∃ a : D, ds = [term a] ∧ Qd (cond [.tup [.str "missing", a]]) []
theorem len_missing : ∀ ds Qd Qe, sp_missing ds Qd Qe → ds.length = 1 := by rintro _ _ _ ⟨_, rfl, _⟩; rfl
@[simp ↓] theorem u_missing {a : D} {Qd : D → List D → Prop} {Qe : Exn → List D → Prop} : sp_missing [term a] Qd Qe = (Qd (cond [.tup [.str "missing", a]]) []) := propext ⟨fun h => by
  obtain ⟨_, h, k⟩ := h
  cases h
  exact k, fun k => ⟨_, rfl, k⟩⟩
def sp_always : SpD := fun ds Qd _ => ∃ u : Unit, ds = [] ∧ Qd (cond [.tup [.str "always"]]) []
theorem len_always : ∀ ds Qd Qe, sp_always ds Qd Qe → ds.length = 0 := by rintro _ _ _ ⟨_, rfl, _⟩; rfl
@[simp ↓] theorem u_always  {Qd : D → List D → Prop} {Qe : Exn → List D → Prop} : sp_always [] Qd Qe = (Qd (cond [.tup [.str "always"]]) []) := propext ⟨fun h => by
  obtain ⟨_, h, k⟩ := h
  cases h
  exact k, fun k => ⟨(), rfl, k⟩⟩
def sp_never : SpD := fun ds Qd _ => ∃ u : Unit, ds = [] ∧ Qd (cond [.tup [.str "never"]]) []
theorem len_never : ∀ ds Qd Qe, sp_never ds Qd Qe → ds.length = 0 := by rintro _ _ _ ⟨_, rfl, _⟩; rfl
@[simp ↓] theorem u_never  {Qd : D → List D → Prop} {Qe : Exn → List D → Prop} : sp_never [] Qd Qe = (Qd (cond [.tup [.str "never"]]) []) := propext ⟨fun h => by
  obtain ⟨_, h, k⟩ := h
  cases h
  exact k, fun k => ⟨(), rfl, k⟩⟩
def sp_maybe : SpD := fun ds Qd _ => ∃ u : Unit, ds = [] ∧ Qd (cond [.tup [.str "maybe"]]) []
theorem len_maybe : ∀ ds Qd Qe, sp_maybe ds Qd Qe → ds.length = 0 := by rintro _ _ _ ⟨_, rfl, _⟩; rfl
@[simp ↓] theorem u_maybe  {Qd : D → List D → Prop} {Qe : Exn → List D → Prop} : sp_maybe [] Qd Qe = (Qd (cond [.tup [.str "maybe"]]) []) := propext ⟨fun h => by
  obtain ⟨_, h, k⟩ := h
  cases h
  exact k, fun k => ⟨(), rfl, k⟩⟩
def sp_negation : SpD := fun ds Qd _ => ∃ l : List D, ds = [cond l] ∧ l.length < sizeLine ∧ Qd (cond (l ++ [.tup [.str "not"]])) []
theorem len_negation : ∀ ds Qd Qe, sp_negation ds Qd Qe → ds.length = 1 := by rintro _ _ _ ⟨_, rfl, _⟩; rfl
@[simp ↓] theorem u_negation {l : List D} {Qd : D → List D → Prop} {Qe : Exn → List D → Prop} : sp_negation [cond l] Qd Qe = (l.length < sizeLine ∧ Qd (cond (l ++ [.tup [.str "not"]])) []) := propext ⟨fun h => by
  obtain ⟨_, h, k⟩ := h
  cases h
  exact k, fun k => ⟨_, rfl, k⟩⟩
def sp_truth_test : SpD := fun ds Qd _ => ∃ (l : List D) (w : Str), ds = [cond l, .str w] ∧ l.length < sizeLine ∧ w ∈ wrdL ∧ Qd (cond (l ++ [.tup [.str "test", .str w]])) []
theorem len_truth_test : ∀ ds Qd Qe, sp_truth_test ds Qd Qe → ds.length = 2 := by rintro _ _ _ ⟨_, _, rfl, _⟩; rfl
@[simp ↓] theorem u_truth_test {l : List D} {w : Str} {Qd : D → List D → Prop} {Qe : Exn → List D → Prop} : sp_truth_test [cond l, .str w] Qd Qe = (l.length < sizeLine ∧ w ∈ wrdL ∧ Qd (cond (l ++ [.tup [.str "test", .str w]])) []) := propext ⟨fun h => by
  obtain ⟨_, _, h, k⟩ := h
  cases h
  exact k, fun k => ⟨_, _, rfl, k⟩⟩
/-- conditions by their steps -/
def conds (ls : List (List D)) : List D := ls.map fun l => cond l
def sp_joined : SpD := fun ds Qd _ => ∃ (w : Str) (p : List D), ds = [.str w, .tup p] ∧ ∃ ls, p = conds ls ∧ ls.length < 1000 ∧ ls.flatten.length < 1000000 ∧ Qd (cond (ls.flatten ++ [.tup [.str w, .int ls.length]])) []
theorem len_joined : ∀ ds Qd Qe, sp_joined ds Qd Qe → ds.length = 2 := by rintro _ _ _ ⟨_, _, rfl, _⟩; rfl
@[simp ↓] theorem u_joined {w : Str} {p : List D} {Qd : D → List D → Prop} {Qe : Exn → List D → Prop} : sp_joined [.str w, .tup p] Qd Qe = (∃ ls, p = conds ls ∧ ls.length < 1000 ∧ ls.flatten.length < 1000000 ∧ Qd (cond (ls.flatten ++ [.tup [.str w, .int ls.length]])) []) := propext ⟨fun h => by
  obtain ⟨_, _, h, k⟩ := h
  cases h
  exact k, fun k => ⟨_, _, rfl, k⟩⟩
def sp_both : SpD := fun ds Qd _ => ∃ (p : List D), ds = [.tup p] ∧ ∃ ls, p = conds ls ∧ 2 ≤ ls.length ∧ ls.length < 1000 ∧ ls.flatten.length < 1000000 ∧ Qd (cond (ls.flatten ++ [.tup [.str "both", .int ls.length]])) []
theorem len_both : ∀ ds Qd Qe, sp_both ds Qd Qe → ds.length = 1 := by rintro _ _ _ ⟨_, rfl, _⟩; rfl
@[simp ↓] theorem u_both {p : List D} {Qd : D → List D → Prop} {Qe : Exn → List D → Prop} : sp_both [.tup p] Qd Qe = (∃ ls, p = conds ls ∧ 2 ≤ ls.length ∧ ls.length < 1000 ∧ ls.flatten.length < 1000000 ∧ Qd (cond (ls.flatten ++ [.tup [.str "both", .int ls.length]])) []) := propext ⟨fun h => by
  obtain ⟨_, h, k⟩ := h
  cases h
  exact k, fun k => ⟨_, rfl, k⟩⟩
def sp_either : SpD := fun ds Qd _ => ∃ (p : List D), ds = [.tup p] ∧ ∃ ls, p = conds ls ∧ 2 ≤ ls.length ∧ ls.length < 1000 ∧ ls.flatten.length < 1000000 ∧ Qd (cond (ls.flatten ++ [.tup [.str "either", .int ls.length]])) []
theorem len_either : ∀ ds Qd Qe, sp_either ds Qd Qe → ds.length = 1 := by rintro _ _ _ ⟨_, rfl, _⟩; rfl
@[simp ↓] theorem u_either {p : List D} {Qd : D → List D → Prop} {Qe : Exn → List D → Prop} : sp_either [.tup p] Qd Qe = (∃ ls, p = conds ls ∧ 2 ≤ ls.length ∧ ls.length < 1000 ∧ ls.flatten.length < 1000000 ∧ Qd (cond (ls.flatten ++ [.tup [.str "either", .int ls.length]])) []) := propext ⟨fun h => by
  obtain ⟨_, h, k⟩ := h
  cases h
  exact k, fun k => ⟨_, rfl, k⟩⟩
def sp_law_join : SpD := fun ds Qd _ => ∃ (w : Str) (p : List D), ds = [.str w, .lst p] ∧ ∃ b ls, w = jnW b ∧ p = conds ls ∧ 2 ≤ ls.length ∧ ls.length ≤ 4 ∧ ls.flatten.length < 1000000 ∧ Qd (cond (ls.flatten ++ [.tup [.str w, .int ls.length]])) []
theorem len_law_join : ∀ ds Qd Qe, sp_law_join ds Qd Qe → ds.length = 2 := by rintro _ _ _ ⟨_, _, rfl, _⟩; rfl
@[simp ↓] theorem u_law_join {w : Str} {p : List D} {Qd : D → List D → Prop} {Qe : Exn → List D → Prop} : sp_law_join [.str w, .lst p] Qd Qe = (∃ b ls, w = jnW b ∧ p = conds ls ∧ 2 ≤ ls.length ∧ ls.length ≤ 4 ∧ ls.flatten.length < 1000000 ∧ Qd (cond (ls.flatten ++ [.tup [.str w, .int ls.length]])) []) := propext ⟨fun h => by
  obtain ⟨_, _, h, k⟩ := h
  cases h
  exact k, fun k => ⟨_, _, rfl, k⟩⟩
def sp_law_made : SpD := fun ds Qd _ => ∃ (l : List D), ds = [.lst l] ∧ ∃ (t : Ct) (ys : List Str), l = t.steps ∧ t.Ok ys ∧ (∀ x ∈ ys, NameOk x) ∧ t.size ≤ 1000 ∧ Qd (cond l) []
theorem len_law_made : ∀ ds Qd Qe, sp_law_made ds Qd Qe → ds.length = 1 := by rintro _ _ _ ⟨_, rfl, _⟩; rfl
@[simp ↓] theorem u_law_made {l : List D} {Qd : D → List D → Prop} {Qe : Exn → List D → Prop} : sp_law_made [.lst l] Qd Qe = (∃ (t : Ct) (ys : List Str), l = t.steps ∧ t.Ok ys ∧ (∀ x ∈ ys, NameOk x) ∧ t.size ≤ 1000 ∧ Qd (cond l) []) := propext ⟨fun h => by
  obtain ⟨_, h, k⟩ := h
  cases h
  exact k, fun k => ⟨_, rfl, k⟩⟩
def sp_Condition_invert : SpD := fun ds Qd _ => ∃ l : List D, ds = [cond l] ∧ l.length < sizeLine ∧ Qd (cond (l ++ [.tup [.str "not"]])) []
theorem len_Condition_invert : ∀ ds Qd Qe, sp_Condition_invert ds Qd Qe → ds.length = 1 := by rintro _ _ _ ⟨_, rfl, _⟩; rfl
@[simp ↓] theorem u_Condition_invert {l : List D} {Qd : D → List D → Prop} {Qe : Exn → List D → Prop} : sp_Condition_invert [cond l] Qd Qe = (l.length < sizeLine ∧ Qd (cond (l ++ [.tup [.str "not"]])) []) := propext ⟨fun h => by
  obtain ⟨_, h, k⟩ := h
  cases h
  exact k, fun k => ⟨_, rfl, k⟩⟩

/-! ### alike -/
/-- data of so many levels -/
def plainN : Nat → D → Bool
  | 0, _ => false
  | _ + 1, .non => true
  | _ + 1, .bl _ => true
  | _ + 1, .int _ => true
  | _ + 1, .str _ => true
  | n + 1, .tup l => decide (l.length ≤ 16777216) && l.all (plainN n)
  | n + 1, .lst l => decide (l.length ≤ 16777216) && l.all (plainN n)
  | _ + 1, _ => false
def sp_law_same_n : Nat → SpD
  | 0 => fun _ _ _ => False
  | n + 1 => fun ds Qd _ => ∃ a : D, ds = [a, a] ∧ plainN (n + 1) a = true ∧ Qd (.bl true) []
def sp_law_same : SpD := sp_law_same_n 6
theorem len_law_same_n : ∀ n ds Qd Qe, sp_law_same_n n ds Qd Qe → ds.length = 2
  | _ + 1, _, _, _, h => by obtain ⟨_, rfl, _⟩ := h; rfl
end DL

namespace DL
open PySem L2

def c_RESERVED : D := .tup [.str "always", .str "and", .str "between", .str "case", .str "cls", .str "condition", .str "else", .str "end", .str "false", .str "in", .str "index", .str "is", .str "maybe", .str "never", .str "not", .str "on", .str "or", .str "schema", .str "self", .str "single", .str "then", .str "true", .str "unknown", .str "when", .str "where"]
def c_SIGNS_OF_COMPARISON : D := .tup [.str "<", .str "<=", .str "=", .str "!=", .str ">=", .str ">"]
def c_WORDS : D := .tup [.str "false", .str "unknown", .str "true"]
/-- _law_start(script); names 0:script 1:cell -/
def b_law_start : TDS :=
 (dRetO (dLst (dCons (dLc [1] (diSeq (dSl (dVar 0) dNoP (dSomeP (dC (.int 63))))) (dgName 1) dYes (dBlt intD (dCons (dVar 1) dNil))) (dCons (dC (.int 0)) (dCons (dC (.int 0)) (dCons (dC (.int 0)) dNil))))))
/-- _law_mixed(cell, k, many); names 0:cell 1:k 2:many 3:once 4:twice -/
def b_law_mixed : TDS :=
 (dSeq (dSet 3 (dOp modD (dBlt intD (dCons (dOp addD (dOp addD (dOp mulD (dVar 0) (dC (.int 48271))) (dOp mulD (dVar 1) (dC (.int 69621)))) (dC (.int 11))) dNil)) (dC (.int 2147483647)))) (dSeq (dSet 4 (dOp modD (dBlt intD (dCons (dOp addD (dOp addD (dOp addD (dOp mulD (dVar 3) (dVar 3)) (dOp mulD (dVar 3) (dC (.int 16807)))) (dOp mulD (dVar 1) (dC (.int 40692)))) (dC (.int 5))) dNil)) (dC (.int 2147483629)))) (dRet (dOp modD (dBlt intD (dCons (dOp divD (dVar 4) (dC (.int 13))) dNil)) (dVar 2)))))
/-- _law_draw(state, many); names 0:state 1:many 2:drawn 3:cell -/
def b_law_draw : TDS :=
 (dSeq (dIfS (dTest (dOp gtD (dIxV 0 (dC (.int 2))) (dC (.int 0)))) (dSeq (dSet 2 (dOp modD (dBlt intD (dCons (dIxV 0 (dC (.int 2))) dNil)) (dVar 1))) (dSeq (dStore 0 (dC (.int 2)) (dOp divD (dIxV 0 (dC (.int 2))) (dVar 1))) (dRet (dVar 2)))) dNext) (dSeq (dIfS (dTest (dOp gtD (dIxV 0 (dC (.int 3))) (dC (.int 0)))) (dSeq (dStore 0 (dC (.int 3)) (dOp subD (dIxV 0 (dC (.int 3))) (dC (.int 1)))) (dRet (dCall sp_law_mixed (dCons (dOp ixD (dIxV 0 (dC (.int 0))) (dOp subD (dIxV 0 (dC (.int 1))) (dC (.int 1)))) (dCons (dIxV 0 (dC (.int 3))) (dCons (dVar 1) dNil)))))) dNext) (dSeq (dIfS (dTest (dOp geD (dIxV 0 (dC (.int 1))) (dBlt lenD (dCons (dIxV 0 (dC (.int 0))) dNil)))) (dRet (dC (.int 0))) dNext) (dSeq (dSet 3 (dOp ixD (dIxV 0 (dC (.int 0))) (dIxV 0 (dC (.int 1))))) (dSeq (dStore 0 (dC (.int 1)) (dOp addD (dIxV 0 (dC (.int 1))) (dC (.int 1)))) (dSeq (dIfS (dTest (dOp geD (dVar 3) (dOp powD (dC (.int 10)) (dC (.int 18))))) (dSeq (dStore 0 (dC (.int 2)) (dOp divD (dVar 3) (dVar 1))) (dRet (dOp modD (dBlt intD (dCons (dVar 3) dNil)) (dVar 1)))) dNext) (dSeq (dStore 0 (dC (.int 3)) (dC (.int 3))) (dRet (dCall sp_law_mixed (dCons (dVar 3) (dCons (dC (.int 3)) (dCons (dVar 1) dNil))))))))))))
def b_law_names_1 : TDS :=
 (dSet 6 (dOp addD (dVar 6) (dOp ixD (dVar 4) (dCallIO 0 sp_law_draw (dCons (dC (.int 37)) dNil)))))
def b_law_names_2 : TDS :=
 (dIfS (dTest (dOp gtD (dVar 7) (dC (.int 0)))) (dSeq (dSet 10 (dOp addD (dOp addD (dSl (dVar 6) dNoP (dSomeP (dVar 8))) (dOp ixD (dVar 3) (dCallIO 0 sp_law_draw (dCons (dC (.int 26)) dNil)))) (dSl (dVar 6) (dSomeP (dOp addD (dVar 8) (dC (.int 1)))) dNoP))) (dIfS (dTest (dOp eqD (dCallIO 0 sp_law_draw (dCons (dC (.int 3)) dNil)) (dC (.int 2)))) (dSet 10 (dSl (dVar 10) dNoP (dSomeP (dOp addD (dC (.int 1)) (dCallIO 0 sp_law_draw (dCons (dBlt lenD (dCons (dVar 10) dNil)) dNil)))))) dNext)) dNext)
def b_law_names_3 : TDS :=
 (dIfS (dOr (dTest (dInV false 9 (dVar 10))) (dTest (dOp (inD false) (dVar 10) (dVar 2)))) (dSet 10 (dOp addD (dSl (dVar 10) dNoP (dSomeP (dC (.int 11)))) (dOp ixD (dVar 3) (dOp modD (dVar 11) (dC (.int 26)))))) dNext)
def b_law_names_4 : TDS :=
 (dSeq (dSet 10 (dVar 6)) (dSeq b_law_names_2 (dSeq (dFor (diRng1 (dCons (dC (.int 60)) dNil)) (dgName 11) b_law_names_3) (dDrop (dLM 9 appM (dCons (dVar 10) dNil))))))
/-- _law_names(state, many); names 0:state 1:many 2:reserved 3:letters 4:signs 5:size 6:base 7:k 8:at 9:names 10:name 11:j -/
def b_law_names : TDS :=
 (dSeq (dSet 2 (dLst (dCons (dC (.str "always")) (dCons (dC (.str "and")) (dCons (dC (.str "between")) (dCons (dC (.str "case")) (dCons (dC (.str "cls")) (dCons (dC (.str "condition")) (dCons (dC (.str "else")) (dCons (dC (.str "end")) (dCons (dC (.str "false")) (dCons (dC (.str "in")) (dCons (dC (.str "index")) (dCons (dC (.str "is")) dNil)))))))))))))) (dSeq (dSet 2 (dOp addD (dVar 2) (dLst (dCons (dC (.str "maybe")) (dCons (dC (.str "never")) (dCons (dC (.str "not")) (dCons (dC (.str "on")) (dCons (dC (.str "or")) (dCons (dC (.str "schema")) (dCons (dC (.str "self")) (dCons (dC (.str "single")) (dCons (dC (.str "then")) (dCons (dC (.str "true")) dNil))))))))))))) (dSeq (dSet 2 (dOp addD (dVar 2) (dLst (dCons (dC (.str "unknown")) (dCons (dC (.str "when")) (dCons (dC (.str "where")) dNil)))))) (dSeq (dSet 3 (dC (.str "abcdefghijklmnopqrstuvwxyz"))) (dSeq (dSet 4 (dOp addD (dVar 3) (dC (.str "0123456789_")))) (dSeq (dSet 5 (dOp ixD (dLst (dCons (dC (.int 1)) (dCons (dC (.int 2)) (dCons (dC (.int 4)) (dCons (dC (.int 12)) dNil))))) (dCallIO 0 sp_law_draw (dCons (dC (.int 4)) dNil)))) (dSeq (dSet 6 (dOp ixD (dVar 3) (dCallIO 0 sp_law_draw (dCons (dC (.int 26)) dNil)))) (dSeq (dFor (diRng1 (dCons (dOp subD (dVar 5) (dC (.int 1))) dNil)) (dgName 7) b_law_names_1) (dSeq (dSet 8 (dCallIO 0 sp_law_draw (dCons (dVar 5) dNil))) (dSeq (dSetO 9 (dLst dNil)) (dSeq (dFor (diRng1 (dCons (dVar 1) dNil)) (dgName 7) b_law_names_4) (dRet (dVar 9)))))))))))))
/-- _law_centres(state); names 0:state 1:kind -/
def b_law_centres : TDS :=
 (dSeq (dSet 1 (dCallIO 0 sp_law_draw (dCons (dC (.int 4)) dNil))) (dSeq (dIfS (dTest (dOp eqD (dVar 1) (dC (.int 1)))) (dRet (dLst (dCons (dC (.int 0)) (dCons (dOp subD (dCallIO 0 sp_law_draw (dCons (dC (.int 41)) dNil)) (dC (.int 20))) dNil)))) dNext) (dSeq (dIfS (dTest (dOp eqD (dVar 1) (dC (.int 2)))) (dRet (dLst (dCons (dC (.int 0)) (dCons (dCallIO 0 sp_law_draw (dCons (dOp powD (dC (.int 10)) (dC (.int 40))) dNil)) dNil)))) dNext) (dSeq (dIfS (dTest (dOp eqD (dVar 1) (dC (.int 3)))) (dRet (dLst (dCons (dC (.int 0)) (dCons (dOp subD (dC (.int 0)) (dCallIO 0 sp_law_draw (dCons (dOp powD (dC (.int 10)) (dC (.int 40))) dNil))) dNil)))) dNext) (dRet (dLst (dCons (dC (.int 0)) (dCons (dC (.int 5)) dNil))))))))
/-- _law_small_leaf(state, names); names 0:state 1:names 2:kind 3:name -/
def b_law_small_leaf : TDS :=
 (dSeq (dSet 2 (dCallIO 0 sp_law_draw (dCons (dC (.int 5)) dNil))) (dSeq (dSet 3 (dOp ixD (dVar 1) (dCallIO 0 sp_law_draw (dCons (dBlt lenD (dCons (dVar 1) dNil)) dNil)))) (dSeq (dIfS (dTest (dOp eqD (dVar 2) (dC (.int 0)))) (dRet (dLst (dCons (dTup (dCons (dC (.str "compare")) (dCons (dTup (dCons (dVar 3) (dCons (dC (.int 0)) dNil))) (dCons (dOp ixD (dLst (dCons (dC (.str "<")) (dCons (dC (.str "<=")) (dCons (dC (.str "=")) (dCons (dC (.str "!=")) (dCons (dC (.str ">=")) (dCons (dC (.str ">")) dNil))))))) (dCallIO 0 sp_law_draw (dCons (dC (.int 6)) dNil))) (dCons (dTup (dCons (dC .non) (dCons (dOp subD (dCallIO 0 sp_law_draw (dCons (dC (.int 19)) dNil)) (dC (.int 9))) dNil))) dNil))))) dNil))) dNext) (dSeq (dIfS (dTest (dOp eqD (dVar 2) (dC (.int 1)))) (dRet (dLst (dCons (dTup (dCons (dC (.str "missing")) (dCons (dTup (dCons (dVar 3) (dCons (dOp subD (dCallIO 0 sp_law_draw (dCons (dC (.int 3)) dNil)) (dC (.int 1))) dNil))) dNil))) dNil))) dNext) (dRet (dLst (dCons (dTup (dCons (dOp ixD (dLst (dCons (dC (.str "always")) (dCons (dC (.str "never")) (dCons (dC (.str "maybe")) dNil)))) (dOp subD (dVar 2) (dC (.int 2)))) dNil)) dNil)))))))
def b_law_column_1 : TDS :=
 (dIfS (dTest (dOp eqD (dCallIO 0 sp_law_draw (dCons (dC (.int 3)) dNil)) (dC (.int 2)))) (dSet 3 (dOp addD (dOp subD (dOp ixD (dVar 2) (dCallIO 0 sp_law_draw (dCons (dC (.int 2)) dNil))) (dOp ixD (dVar 2) (dCallIO 0 sp_law_draw (dCons (dC (.int 2)) dNil)))) (dOp ixD (dLst (dCons (dC (.int 0)) (dCons (dC (.int 1)) (dCons (dUn negD (dC (.int 1))) (dCons (dC (.int 2)) (dCons (dUn negD (dC (.int 2))) dNil)))))) (dCallIO 0 sp_law_draw (dCons (dC (.int 5)) dNil))))) dNext)
/-- _law_column(state, names, centres); names 0:state 1:names 2:centres 3:shift -/
def b_law_column : TDS :=
 (dSeq (dSet 3 (dC (.int 0))) (dSeq b_law_column_1 (dRet (dTup (dCons (dOp ixD (dVar 1) (dCallIO 0 sp_law_draw (dCons (dBlt lenD (dCons (dVar 1) dNil)) dNil))) (dCons (dVar 3) dNil))))))
/-- _law_near(state, centres); names 0:state 1:centres -/
def b_law_near : TDS :=
 (dSeq (dIfS (dTest (dOp eqD (dCallIO 0 sp_law_draw (dCons (dC (.int 16)) dNil)) (dC (.int 15)))) (dRet (dOp mulD (dCallIO 0 sp_law_draw (dCons (dOp powD (dC (.int 10)) (dC (.int 40))) dNil)) (dOp subD (dC (.int 1)) (dOp mulD (dC (.int 2)) (dCallIO 0 sp_law_draw (dCons (dC (.int 2)) dNil)))))) dNext) (dRet (dOp addD (dOp ixD (dVar 1) (dCallIO 0 sp_law_draw (dCons (dC (.int 2)) dNil))) (dOp ixD (dLst (dCons (dC (.int 0)) (dCons (dC (.int 1)) (dCons (dUn negD (dC (.int 1))) (dCons (dC (.int 2)) (dCons (dUn negD (dC (.int 2))) (dCons (dC (.int 3)) (dCons (dUn negD (dC (.int 3))) dNil)))))))) (dCallIO 0 sp_law_draw (dCons (dC (.int 7)) dNil))))))
/-- _law_side(state, names, centres); names 0:state 1:names 2:centres 3:kind -/
def b_law_side : TDS :=
 (dSeq (dSet 3 (dCallIO 0 sp_law_draw (dCons (dC (.int 8)) dNil))) (dSeq (dIfS (dTest (dOp ltD (dVar 3) (dC (.int 4)))) (dRet (dTup (dCons (dC .non) (dCons (dCallIO 0 sp_law_near (dCons (dVar 2) dNil)) dNil)))) dNext) (dSeq (dIfS (dTest (dOp ltD (dVar 3) (dC (.int 7)))) (dRet (dCallIO 0 sp_law_column (dCons (dVar 1) (dCons (dVar 2) dNil)))) dNext) (dRet (dC .non)))))
def b_law_leaf_1 : TDS :=
 (dIfS (dTest (dOp eqD (dVar 3) (dC (.int 8)))) (dSet 5 (dCallIO 0 sp_law_side (dCons (dVar 1) (dCons (dVar 2) dNil)))) dNext)
/-- _law_leaf(state, names, centres); names 0:state 1:names 2:centres 3:kind 4:op 5:left -/
def b_law_leaf : TDS :=
 (dSeq (dSet 3 (dCallIO 0 sp_law_draw (dCons (dC (.int 12)) dNil))) (dSeq (dIfS (dTest (dOp eqD (dVar 3) (dC (.int 9)))) (dRet (dLst (dCons (dTup (dCons (dC (.str "missing")) (dCons (dCallIO 0 sp_law_column (dCons (dVar 1) (dCons (dVar 2) dNil))) dNil))) dNil))) dNext) (dSeq (dIfS (dTest (dOp eqD (dVar 3) (dC (.int 10)))) (dRet (dLst (dCons (dTup (dCons (dC (.str "missing")) (dCons (dCallIO 0 sp_law_side (dCons (dVar 1) (dCons (dVar 2) dNil))) dNil))) dNil))) dNext) (dSeq (dIfS (dTest (dOp eqD (dVar 3) (dC (.int 11)))) (dRet (dLst (dCons (dTup (dCons (dOp ixD (dLst (dCons (dC (.str "always")) (dCons (dC (.str "never")) (dCons (dC (.str "maybe")) dNil)))) (dCallIO 0 sp_law_draw (dCons (dC (.int 3)) dNil))) dNil)) dNil))) dNext) (dSeq (dSet 4 (dOp ixD (dLst (dCons (dC (.str "<")) (dCons (dC (.str "<=")) (dCons (dC (.str "=")) (dCons (dC (.str "!=")) (dCons (dC (.str ">=")) (dCons (dC (.str ">")) dNil))))))) (dCallIO 0 sp_law_draw (dCons (dC (.int 6)) dNil)))) (dSeq (dSet 5 (dCallIO 0 sp_law_column (dCons (dVar 1) (dCons (dVar 2) dNil)))) (dSeq b_law_leaf_1 (dRet (dLst (dCons (dTup (dCons (dC (.str "compare")) (dCons (dVar 5) (dCons (dVar 4) (dCons (dCallIO 0 sp_law_side (dCons (dVar 1) (dCons (dVar 2) dNil))) dNil))))) dNil))))))))))
def b_law_steps_1 : TDS :=
 (dIfS (dTest (dOp eqD (dVar 8) (dC (.int 5)))) (dSet 7 (dOp addD (dVar 7) (dLst (dCons (dTup (dCons (dC (.str "not")) dNil)) dNil)))) dNext)
def b_law_steps_2 : TDS :=
 (dIfS (dTest (dOp gtD (dVar 8) (dC (.int 5)))) (dSet 7 (dOp addD (dVar 7) (dLst (dCons (dTup (dCons (dC (.str "test")) (dCons (dOp ixD (dVar 4) (dCallIO 0 sp_law_draw (dCons (dC (.int 3)) dNil))) dNil))) dNil)))) dNext)
def b_law_steps_3 : TDS :=
 (dSeq (dSet 7 (dCallIO 0 sp_law_leaf (dCons (dVar 1) (dCons (dVar 2) dNil)))) (dSeq (dSet 8 (dCallIO 0 sp_law_draw (dCons (dC (.int 8)) dNil))) (dSeq b_law_steps_1 (dSeq b_law_steps_2 (dDrop (dLM 5 appM (dCons (dVar 7) dNil)))))))
def b_law_steps_4 : TDS :=
 (dIfS (dAnd (dTest (dOp gtD (dLenV 5) (dC (.int 2)))) (dTest (dOp eqD (dCallIO 0 sp_law_draw (dCons (dC (.int 2)) dNil)) (dC (.int 1))))) (dSeq (dSet 9 (dOp addD (dOp addD (dIxV 5 (dC (.int 0))) (dIxV 5 (dC (.int 1)))) (dLst (dCons (dTup (dCons (dOp ixD (dLst (dCons (dC (.str "both")) (dCons (dC (.str "either")) dNil))) (dCallIO 0 sp_law_draw (dCons (dC (.int 2)) dNil))) (dCons (dC (.int 2)) dNil))) dNil)))) (dSetO 5 (dOp catD (dLst (dCons (dVar 9) dNil)) (dSlV 5 (dSomeP (dC (.int 2))) dNoP)))) dNext)
def b_law_steps_5 : TDS :=
 (dSet 10 (dOp addD (dVar 10) (dVar 7)))
def b_law_steps_6 : TDS :=
 (dIfS (dTest (dOp gtD (dLenV 5) (dC (.int 1)))) (dSeq (dSet 10 (dOp addD (dVar 10) (dLst (dCons (dTup (dCons (dOp ixD (dLst (dCons (dC (.str "both")) (dCons (dC (.str "either")) dNil))) (dCallIO 0 sp_law_draw (dCons (dC (.int 2)) dNil))) (dCons (dLenV 5) dNil))) dNil)))) (dIfS (dTest (dOp eqD (dCallIO 0 sp_law_draw (dCons (dC (.int 6)) dNil)) (dC (.int 5)))) (dSet 10 (dOp addD (dVar 10) (dLst (dCons (dTup (dCons (dC (.str "not")) dNil)) dNil)))) dNext)) dNext)
/-- _law_steps(state, names, centres, most); names 0:state 1:names 2:centres 3:most 4:words 5:parts 6:k 7:part 8:wrap 9:inner 10:steps -/
def b_law_steps : TDS :=
 (dSeq (dSet 4 (dLst (dCons (dC (.str "false")) (dCons (dC (.str "unknown")) (dCons (dC (.str "true")) dNil))))) (dSeq (dSetO 5 (dLst dNil)) (dSeq (dFor (diRng1 (dCons (dOp addD (dC (.int 1)) (dCallIO 0 sp_law_draw (dCons (dVar 3) dNil))) dNil)) (dgName 6) b_law_steps_3) (dSeq b_law_steps_4 (dSeq (dSet 10 (dLst dNil)) (dSeq (dFor (diSeq (dVar 5)) (dgName 7) b_law_steps_5) (dSeq b_law_steps_6 (dRet (dVar 10)))))))))
/-- Condition.__init__(self, steps); names 0:self 1:steps -/
def b_Condition_init : TDS :=
 (dFldS 0 ["Condition"] "steps" (dBlt tupleD (dCons (dVar 1) dNil)))
/-- compare(left, op, right); names 0:left 1:op 2:right -/
def b_compare : TDS :=
 (dSeq (dIfS (dTest (dOp (inD true) (dVar 1) (dC c_SIGNS_OF_COMPARISON))) dNever dNext) (dRet (dMake "Condition" sp_Condition_init (dCons (dLst (dCons (dTup (dCons (dC (.str "compare")) (dCons (dFld ["Term"] "shape" (dVar 0)) (dCons (dVar 1) (dCons (dFld ["Term"] "shape" (dVar 2)) dNil))))) dNil)) dNil))))
/-- Term.__init__(self, shape); names 0:self 1:shape -/
def b_Term_init : TDS :=
 (dFldS 0 ["Term"] "shape" (dVar 1))
/-- Term.of_nothing(); names  -/
def b_Term_of_nothing : TDS :=
 (dRet (dMake "Term" sp_Term_init (dCons (dC .non) dNil)))
/-- Term.of_number(number); names 0:number -/
def b_Term_of_number : TDS :=
 (dRet (dMake "Term" sp_Term_init (dCons (dTup (dCons (dC .non) (dCons (dVar 0) dNil))) dNil)))
def b_is_name_1 : TDS :=
 (dIfS (dTest (dOp (inD true) (dVar 1) (dC (.str "abcdefghijklmnopqrstuvwxyz0123456789_")))) (dRet (dC (.bl false))) dNext)
/-- is_name(text); names 0:text 1:sign -/
def b_is_name : TDS :=
 (dSeq (dIfS (dOr (dTest (dOp ltD (dBlt lenD (dCons (dVar 0) dNil)) (dC (.int 1)))) (dOr (dTest (dOp gtD (dBlt lenD (dCons (dVar 0) dNil)) (dC (.int 12)))) (dTest (dOp (inD false) (dVar 0) (dC c_RESERVED))))) (dRet (dC (.bl false))) dNext) (dSeq (dIfS (dTest (dOp (inD true) (dOp ixD (dVar 0) (dC (.int 0))) (dC (.str "abcdefghijklmnopqrstuvwxyz")))) (dRet (dC (.bl false))) dNext) (dSeq (dFor (diSeq (dVar 0)) (dgName 1) b_is_name_1) (dRet (dC (.bl true))))))
/-- check_name(name); names 0:name -/
def b_check_name : TDS :=
 (dIfS (dNot (dTru (dCall sp_is_name (dCons (dVar 0) dNil)))) dNever dNext)
/-- Term.of_column(name); names 0:name -/
def b_Term_of_column : TDS :=
 (dSeq (dDrop (dCall sp_check_name (dCons (dVar 0) dNil))) (dRet (dMake "Term" sp_Term_init (dCons (dTup (dCons (dVar 0) (dCons (dC (.int 0)) dNil))) dNil))))
/-- shifted(shape, number); names 0:shape 1:number -/
def b_shifted : TDS :=
 (dSeq (dIfS (dTest (dOp (isD false) (dVar 0) (dC .non))) (dRet (dC .non)) dNext) (dRet (dTup (dCons (dOp ixD (dVar 0) (dC (.int 0))) (dCons (dOp addD (dOp ixD (dVar 0) (dC (.int 1))) (dVar 1)) dNil)))))
/-- Term.__add__(self, other); names 0:self 1:other -/
def b_Term_add : TDS :=
 (dSeq (dIfS (dNot (dTru (dIsi (isiInt []) (dVar 1)))) (dRet deNever) dNext) (dRet (dMake "Term" sp_Term_init (dCons (dCall sp_shifted (dCons (dFld ["Term"] "shape" (dVar 0)) (dCons (dVar 1) dNil))) dNil))))
/-- _law_term(shape); names 0:shape -/
def b_law_term : TDS :=
 (dSeq (dIfS (dTest (dOp (isD false) (dVar 0) (dC .non))) (dRet (dCall sp_Term_of_nothing dNil)) dNext) (dSeq (dIfS (dTest (dOp (isD false) (dOp ixD (dVar 0) (dC (.int 0))) (dC .non))) (dRet (dCall sp_Term_of_number (dCons (dOp ixD (dVar 0) (dC (.int 1))) dNil))) dNext) (dRet (dOwnI "Term" sp_Term_add (dCall sp_Term_of_column (dCons (dOp ixD (dVar 0) (dC (.int 0))) dNil)) (dOp ixD (dVar 0) (dC (.int 1)))))))
/-- missing(term); names 0:term -/
def b_missing : TDS :=
 (dRet (dMake "Condition" sp_Condition_init (dCons (dLst (dCons (dTup (dCons (dC (.str "missing")) (dCons (dFld ["Term"] "shape" (dVar 0)) dNil))) dNil)) dNil)))
/-- negation(part); names 0:part -/
def b_negation : TDS :=
 (dRet (dMake "Condition" sp_Condition_init (dCons (dOp addD (dFld ["Condition"] "steps" (dVar 0)) (dTup (dCons (dTup (dCons (dC (.str "not")) dNil)) dNil))) dNil)))
/-- truth_test(part, word); names 0:part 1:word -/
def b_truth_test : TDS :=
 (dSeq (dIfS (dTest (dOp (inD true) (dVar 1) (dC c_WORDS))) dNever dNext) (dRet (dMake "Condition" sp_Condition_init (dCons (dOp addD (dFld ["Condition"] "steps" (dVar 0)) (dTup (dCons (dTup (dCons (dC (.str "test")) (dCons (dVar 1) dNil))) dNil))) dNil))))
/-- always(); names  -/
def b_always : TDS :=
 (dRet (dMake "Condition" sp_Condition_init (dCons (dLst (dCons (dTup (dCons (dC (.str "always")) dNil)) dNil)) dNil)))
/-- never(); names  -/
def b_never : TDS :=
 (dRet (dMake "Condition" sp_Condition_init (dCons (dLst (dCons (dTup (dCons (dC (.str "never")) dNil)) dNil)) dNil)))
/-- maybe(); names  -/
def b_maybe : TDS :=
 (dRet (dMake "Condition" sp_Condition_init (dCons (dLst (dCons (dTup (dCons (dC (.str "maybe")) dNil)) dNil)) dNil)))
def b_joined_1 : TDS :=
 (dDrop (dLM 2 extM (dCons (dList (dFld ["Condition"] "steps" (dVar 3))) dNil)))
/-- joined(word, parts); names 0:word 1:parts 2:steps 3:part -/
def b_joined : TDS :=
 (dSeq (dSetO 2 (dLst dNil)) (dSeq (dFor (diSeq (dVar 1)) (dgName 3) b_joined_1) (dSeq (dDrop (dLM 2 appM (dCons (dTup (dCons (dVar 0) (dCons (dBlt lenD (dCons (dVar 1) dNil)) dNil))) dNil))) (dRet (dMake "Condition" sp_Condition_init (dCons (dVar 2) dNil))))))
/-- both(parts); names 0:parts -/
def b_both : TDS :=
 (dSeq (dIfS (dTest (dOp eqD (dBlt lenD (dCons (dVar 0) dNil)) (dC (.int 0)))) (dRet (dCall sp_always dNil)) dNext) (dSeq (dIfS (dTest (dOp eqD (dBlt lenD (dCons (dVar 0) dNil)) (dC (.int 1)))) (dRet (dOp ixD (dVar 0) (dC (.int 0)))) dNext) (dRet (dCall sp_joined (dCons (dC (.str "both")) (dCons (dVar 0) dNil))))))
/-- either(parts); names 0:parts -/
def b_either : TDS :=
 (dSeq (dIfS (dTest (dOp eqD (dBlt lenD (dCons (dVar 0) dNil)) (dC (.int 0)))) (dRet (dCall sp_never dNil)) dNext) (dSeq (dIfS (dTest (dOp eqD (dBlt lenD (dCons (dVar 0) dNil)) (dC (.int 1)))) (dRet (dOp ixD (dVar 0) (dC (.int 0)))) dNext) (dRet (dCall sp_joined (dCons (dC (.str "either")) (dCons (dVar 0) dNil))))))
/-- _law_join(word, parts); names 0:word 1:parts -/
def b_law_join : TDS :=
 (dSeq (dIfS (dTest (dOp eqD (dBlt lenD (dCons (dVar 1) dNil)) (dC (.int 2)))) (dRet (dIf (dTest (dOp eqD (dVar 0) (dC (.str "both")))) (dCall (stSp 0 sp_both) (dCons (dOp ixD (dVar 1) (dC (.int 0))) (dCons (dOp ixD (dVar 1) (dC (.int 1))) dNil))) (dCall (stSp 0 sp_either) (dCons (dOp ixD (dVar 1) (dC (.int 0))) (dCons (dOp ixD (dVar 1) (dC (.int 1))) dNil))))) dNext) (dSeq (dIfS (dTest (dOp eqD (dBlt lenD (dCons (dVar 1) dNil)) (dC (.int 3)))) (dRet (dIf (dTest (dOp eqD (dVar 0) (dC (.str "both")))) (dCall (stSp 0 sp_both) (dCons (dOp ixD (dVar 1) (dC (.int 0))) (dCons (dOp ixD (dVar 1) (dC (.int 1))) (dCons (dOp ixD (dVar 1) (dC (.int 2))) dNil)))) (dCall (stSp 0 sp_either) (dCons (dOp ixD (dVar 1) (dC (.int 0))) (dCons (dOp ixD (dVar 1) (dC (.int 1))) (dCons (dOp ixD (dVar 1) (dC (.int 2))) dNil)))))) dNext) (dRet (dIf (dTest (dOp eqD (dVar 0) (dC (.str "both")))) (dCall (stSp 0 sp_both) (dCons (dOp ixD (dVar 1) (dC (.int 0))) (dCons (dOp ixD (dVar 1) (dC (.int 1))) (dCons (dOp ixD (dVar 1) (dC (.int 2))) (dCons (dOp ixD (dVar 1) (dC (.int 3))) dNil))))) (dCall (stSp 0 sp_either) (dCons (dOp ixD (dVar 1) (dC (.int 0))) (dCons (dOp ixD (dVar 1) (dC (.int 1))) (dCons (dOp ixD (dVar 1) (dC (.int 2))) (dCons (dOp ixD (dVar 1) (dC (.int 3))) dNil)))))))))
def b_law_made_1 : TDS :=
 (dIfS (dTest (dOp eqD (dOp ixD (dVar 2) (dC (.int 0))) (dC (.str "compare")))) (dDrop (dLM 1 appM (dCons (dCall sp_compare (dCons (dCall sp_law_term (dCons (dOp ixD (dVar 2) (dC (.int 1))) dNil)) (dCons (dOp ixD (dVar 2) (dC (.int 2))) (dCons (dCall sp_law_term (dCons (dOp ixD (dVar 2) (dC (.int 3))) dNil)) dNil)))) dNil))) (dIfS (dTest (dOp eqD (dOp ixD (dVar 2) (dC (.int 0))) (dC (.str "missing")))) (dDrop (dLM 1 appM (dCons (dCall sp_missing (dCons (dCall sp_law_term (dCons (dOp ixD (dVar 2) (dC (.int 1))) dNil)) dNil)) dNil))) (dIfS (dTest (dOp eqD (dOp ixD (dVar 2) (dC (.int 0))) (dC (.str "not")))) (dDrop (dLM 1 appM (dCons (dCall sp_negation (dCons (dLM 1 popM dNil) dNil)) dNil))) (dIfS (dTest (dOp eqD (dOp ixD (dVar 2) (dC (.int 0))) (dC (.str "test")))) (dDrop (dLM 1 appM (dCons (dCall sp_truth_test (dCons (dLM 1 popM dNil) (dCons (dOp ixD (dVar 2) (dC (.int 1))) dNil))) dNil))) (dIfS (dTest (dOp eqD (dBlt lenD (dCons (dVar 2) dNil)) (dC (.int 1)))) (dDrop (dLM 1 appM (dCons (dIf (dTest (dOp eqD (dOp ixD (dVar 2) (dC (.int 0))) (dC (.str "always")))) (dCall sp_always dNil) (dIf (dTest (dOp eqD (dOp ixD (dVar 2) (dC (.int 0))) (dC (.str "never")))) (dCall sp_never dNil) (dCall sp_maybe dNil))) dNil))) (dSeq (dSet 3 (dSlV 1 (dSomeP (dOp subD (dLenV 1) (dOp ixD (dVar 2) (dC (.int 1))))) dNoP)) (dSeq (dSetO 1 (dSlV 1 dNoP (dSomeP (dOp subD (dLenV 1) (dOp ixD (dVar 2) (dC (.int 1))))))) (dDrop (dLM 1 appM (dCons (dCall sp_law_join (dCons (dOp ixD (dVar 2) (dC (.int 0))) (dCons (dVar 3) dNil))) dNil))))))))))
/-- _law_made(steps); names 0:steps 1:stack 2:step 3:parts -/
def b_law_made : TDS :=
 (dSeq (dSetO 1 (dLst dNil)) (dSeq (dFor (diSeq (dVar 0)) (dgName 2) b_law_made_1) (dRet (dIxV 1 (dC (.int 0))))))
def b_law_same_1 (sr : SpD) : TDS :=
 (dIfS (dNot (dTru (dCall sr (dCons (dOp ixD (dVar 0) (dVar 2)) (dCons (dOp ixD (dVar 1) (dVar 2)) dNil))))) (dRet (dC (.bl false))) dNext)
/-- _law_same(one, other); names 0:one 1:other 2:k -/
def b_law_same (sr : SpD) : TDS :=
 (dSeq (dIfS (dTest (dOp (isD false) (dVar 1) (dC .non))) (dRet (dOp (isD false) (dVar 0) (dC .non))) dNext) (dSeq (dIfS (dTest (dOp (isD false) (dVar 1) (dC (.bl true)))) (dRet (dOp (isD false) (dVar 0) (dC (.bl true)))) dNext) (dSeq (dIfS (dTest (dOp (isD false) (dVar 1) (dC (.bl false)))) (dRet (dOp (isD false) (dVar 0) (dC (.bl false)))) dNext) (dSeq (dIfS (dTru (dIsi (isiInt []) (dVar 1))) (dRet (dAndV (dIsi (isiInt []) (dVar 0)) (dAndV (dNotV (dIsi (isiBool []) (dVar 0))) (dOp eqD (dVar 0) (dVar 1))))) dNext) (dSeq (dIfS (dTru (dIsi (isiStr []) (dVar 1))) (dRet (dAndV (dIsi (isiStr []) (dVar 0)) (dOp eqD (dVar 0) (dVar 1)))) dNext) (dSeq (dIfS (dTru (dIsi (isiDct []) (dVar 1))) (dSeq (dIfS (dOr (dNot (dTru (dIsi (isiDct []) (dVar 0)))) (dTest (dOp neD (dBlt lenD (dCons (dVar 0) dNil)) (dBlt lenD (dCons (dVar 1) dNil))))) (dRet (dC (.bl false))) dNext) (dRet (dCall sr (dCons (dList deNever) (dCons (dList deNever) dNil))))) dNext) (dSeq (dIfS (dAnd (dTru (dIsi (isiTup []) (dVar 1))) (dNot (dTru (dIsi (isiTup []) (dVar 0))))) (dRet (dC (.bl false))) dNext) (dSeq (dIfS (dAnd (dTru (dIsi (isiLst []) (dVar 1))) (dNot (dTru (dIsi (isiLst []) (dVar 0))))) (dRet (dC (.bl false))) dNext) (dSeq (dIfS (dTest (dOp neD (dBlt lenD (dCons (dVar 0) dNil)) (dBlt lenD (dCons (dVar 1) dNil)))) (dRet (dC (.bl false))) dNext) (dSeq (dFor (diRng1 (dCons (dBlt lenD (dCons (dVar 1) dNil)) dNil)) (dgName 2) (b_law_same_1 sr)) (dRet (dC (.bl true)))))))))))))
/-- Condition.__invert__(self); names 0:self -/
def b_Condition_invert : TDS :=
 (dRet (dCall sp_negation (dCons (dVar 0) dNil)))
end DL

namespace DL
open PySem L2

theorem lc_int : ∀ {js acc : List D} {en : En} {Q : List D → En → Prop}, AllI js → acc.length + js.length < sizeLine → AllI acc → (∀ en' r, AllI r → r.length = acc.length + js.length → Q r en') → 1 < en.length → lcD [1] (dgName 1) dYes (dBlt intD (dCons (dVar 1) dNil)) js acc en Q
  | [], acc, en, Q, hi, h, ha, q, hl => q _ _ ha rfl
  | d :: js, acc, en, Q, hi, h, ha, q, hl => by
    obtain ⟨i, rfl⟩ := hi d (List.mem_cons_self ..)
    rw [List.length_cons] at h
    have hs := r_sizeLine
    simp [lcD, wipeE, hl]
    refine ⟨by omega, lc_int (fun d m => hi d (List.mem_cons_of_mem _ m)) (by rw [List.length_append]; simp; omega) (fun d m => ?_) (fun en' r k e => q en' r k (by rw [e]; simp; omega)) (by simp [hl])⟩
    rcases List.mem_append.mp m with m | m
    · exact ha d m
    · exact ⟨i, List.mem_singleton.mp m⟩
theorem rd_law_start : ∀ ds Qd Qe, sp_law_start ds Qd Qe → b_law_start (endsD [] Qd Qe true) (startE 2 [] ds) := by
  rintro ds Qd Qe ⟨js, rfl, hj, h⟩
  simp [b_law_start, startE]
  rw [show (63 : Int) = ((63 : Nat) : Int) from rfl, dCutHead]
  have hl : (js.take 63).length ≤ 63 := by rw [List.length_take]; omega
  refine lc_int (fun d m => hj d (List.mem_of_mem_take m)) (by rw [r_sizeLine]; simp only [List.length_nil]; omega) (fun d m => by cases m) (fun en' r k e => h _ ⟨r, 0, 0, 0, rfl, k, ?_⟩) (by simp [wipeE])
  rw [List.length_nil, Nat.zero_add] at e
  refine ⟨by omega, ?_⟩
  omega
theorem rd_law_mixed : ∀ ds Qd Qe, sp_law_mixed ds Qd Qe → b_law_mixed (endsD [] Qd Qe) (startE 5 [] ds) := by
  rintro ds Qd Qe ⟨c, k, m, rfl, hm, h⟩
  simp [b_law_mixed, startE]
  have f := fmod_range (a := c * 48271 + k * 69621 + 11) (m := 2147483647) (by decide)
  have g := fmod_range (a := ((((c * 48271 + k * 69621 + 11).fmod 2147483647 * (c * 48271 + k * 69621 + 11).fmod 2147483647 + (c * 48271 + k * 69621 + 11).fmod 2147483647 * 16807 + k * 40692 + 5).fmod 2147483629).fdiv 13)) hm
  exact ⟨mul_r (by decide) (by decide), mul_r (by decide) (by decide), mul_r (by omega) (by omega), mul_r (by decide) (by decide), mul_r (by decide) (by decide), div_r (by decide) (by decide), by omega, h _ g.1 g.2⟩
theorem div_many {i m : Int} (h : Many m) : CDivN i m ∨ CDivW i m := .inr ⟨h.1, by
  obtain ⟨h1, h2⟩ := h
  have h3 : m.natAbs < 10 ^ 100 := by
    have : ((m.natAbs : Nat) : Int) < ((10 ^ 100 : Nat) : Int) := by
      rw [Int.natAbs_of_nonneg (by omega)]
      exact_mod_cast h2
    exact_mod_cast this
  have h4 : m.natAbs ≠ 0 := by omega
  exact (Nat.log2_lt h4).2 (Nat.lt_of_lt_of_le h3 (by
    have e : (10 : Nat) ^ 100 ≤ 16 ^ 100 := Nat.pow_le_pow_left (by decide) _
    have e2 : (16 : Nat) ^ 100 = 2 ^ 400 := by
      rw [show (16 : Nat) = 2 ^ 4 from rfl, ← Nat.pow_mul]
    have e3 : (2 : Nat) ^ 400 ≤ 2 ^ 9000 := Nat.pow_le_pow_right (by decide) (by decide)
    omega))⟩
theorem rd_law_draw : ∀ ds Qd Qe, sp_law_draw ds Qd Qe → b_law_draw (endsD [0] Qd Qe) (startE 4 [0] ds) := by
  rintro ds Qd Qe ⟨st, m, rfl, ⟨js, i, r, a, rfl, hj, h1, h2, h3, h4, h5, h6⟩, hM, h⟩
  have hm := hM.1
  simp [b_law_draw, startE]
  have f := fun x : Int => fmod_range (a := x) hm
  split
  · exact ⟨by omega, div_many hM, h _ _ (f r).1 (f r).2 ⟨js, i, _, a, rfl, hj, h1, h2, h3, h4, h5, h6⟩⟩
  · split
    · rename_i ha
      have := h6 ha
      obtain ⟨d, hd⟩ := atI_some (l := js) (i := i - 1) (by omega) (by omega)
      obtain ⟨x, rfl⟩ := hj d (atI_mem hd)
      refine ⟨_, hd, ?_⟩
      simp
      exact ⟨hm, fun y y0 y1 => h _ _ y0 y1 ⟨js, i, r, a - 1, rfl, hj, h1, h2, h3, by omega, by omega, fun _ => this⟩⟩
    · split
      · exact h _ _ (by omega) hm ⟨js, i, r, a, rfl, hj, h1, h2, h3, h4, h5, h6⟩
      · obtain ⟨d, hd⟩ := atI_some (l := js) (i := i) (by omega) (by omega)
        obtain ⟨x, rfl⟩ := hj d (atI_mem hd)
        refine ⟨_, hd, pow_ok (by omega) (by omega) (by omega) (by omega), ?_⟩
        simp
        split
        · exact ⟨div_many hM, by omega, h _ _ (f x).1 (f x).2 ⟨js, i + 1, _, a, rfl, hj, h1, by omega, by omega, h4, h5, by omega⟩⟩
        · exact ⟨hm, fun y y0 y1 => h _ _ y0 y1 ⟨js, i + 1, r, 3, rfl, hj, h1, by omega, by omega, by omega, by omega, by omega⟩⟩
theorem rd_Term_init : ∀ ds Qd Qe, sp_Term_init ds Qd Qe → b_Term_init (endsD [0] Qd Qe) (startE 2 [0] ds) := by
  rintro ds Qd Qe ⟨s, rfl, h⟩
  simpa [b_Term_init, startE, putF'] using h
theorem rd_Term_of_nothing : ∀ ds Qd Qe, sp_Term_of_nothing ds Qd Qe → b_Term_of_nothing (endsD [] Qd Qe) (startE 0 [] ds) := by
  rintro ds Qd Qe ⟨_, rfl, h⟩
  simpa [b_Term_of_nothing, startE] using h
theorem rd_Term_of_number : ∀ ds Qd Qe, sp_Term_of_number ds Qd Qe → b_Term_of_number (endsD [] Qd Qe) (startE 1 [] ds) := by
  rintro ds Qd Qe ⟨n, rfl, h⟩
  simpa [b_Term_of_number, startE] using h
theorem rd_check_name : ∀ ds Qd Qe, sp_check_name ds Qd Qe → b_check_name (endsD [] Qd Qe) (startE 1 [] ds) := by
  rintro ds Qd Qe ⟨x, rfl, hx, h⟩
  simpa [b_check_name, startE, hx] using h
theorem rd_Term_of_column : ∀ ds Qd Qe, sp_Term_of_column ds Qd Qe → b_Term_of_column (endsD [] Qd Qe) (startE 1 [] ds) := by
  rintro ds Qd Qe ⟨x, rfl, hx, h⟩
  simpa [b_Term_of_column, startE, hx] using h
theorem rd_shifted : ∀ ds Qd Qe, sp_shifted ds Qd Qe → b_shifted (endsD [] Qd Qe) (startE 2 [] ds) := by
  rintro ds Qd Qe ⟨c, m, n, rfl, h⟩
  simpa [b_shifted, startE, isNon] using h
theorem rd_Term_add : ∀ ds Qd Qe, sp_Term_add ds Qd Qe → b_Term_add (endsD [] Qd Qe) (startE 2 [] ds) := by
  rintro ds Qd Qe ⟨c, m, n, rfl, h⟩
  simpa [b_Term_add, startE, isiInt, getF] using h
theorem rd_Condition_init : ∀ ds Qd Qe, sp_Condition_init ds Qd Qe → b_Condition_init (endsD [0] Qd Qe) (startE 2 [0] ds) := by
  rintro ds Qd Qe ⟨d, rfl, l, e, h⟩
  rcases e with rfl | rfl <;> simpa [b_Condition_init, startE, putF'] using h
theorem cond_lst {l : List D} {Qd : D → List D → Prop} {Qe : Exn → List D → Prop} (h : Qd .non [cond l]) : sp_Condition_init [.obj "Condition" [] [], .lst l] Qd Qe := ⟨_, rfl, l, .inl rfl, h⟩
theorem cond_tup {l : List D} {Qd : D → List D → Prop} {Qe : Exn → List D → Prop} (h : Qd .non [cond l]) : sp_Condition_init [.obj "Condition" [] [], .tup l] Qd Qe := ⟨_, rfl, l, .inr rfl, h⟩
theorem rd_missing : ∀ ds Qd Qe, sp_missing ds Qd Qe → b_missing (endsD [] Qd Qe) (startE 1 [] ds) := by
  rintro ds Qd Qe ⟨a, rfl, h⟩
  simp [b_missing, startE, getF]
  exact h
theorem rd_always : ∀ ds Qd Qe, sp_always ds Qd Qe → b_always (endsD [] Qd Qe) (startE 0 [] ds) := by
  rintro ds Qd Qe ⟨_, rfl, h⟩
  simp [b_always, startE]
  exact h
theorem rd_never : ∀ ds Qd Qe, sp_never ds Qd Qe → b_never (endsD [] Qd Qe) (startE 0 [] ds) := by
  rintro ds Qd Qe ⟨_, rfl, h⟩
  simp [b_never, startE]
  exact h
theorem rd_maybe : ∀ ds Qd Qe, sp_maybe ds Qd Qe → b_maybe (endsD [] Qd Qe) (startE 0 [] ds) := by
  rintro ds Qd Qe ⟨_, rfl, h⟩
  simp [b_maybe, startE]
  exact h
theorem rd_negation : ∀ ds Qd Qe, sp_negation ds Qd Qe → b_negation (endsD [] Qd Qe) (startE 1 [] ds) := by
  rintro ds Qd Qe ⟨l, rfl, hl, h⟩
  rw [r_sizeLine] at hl
  have : l.length + 1 ≤ 16777216 := by omega
  simp [b_negation, startE, getF]
  exact ⟨by omega, h⟩
theorem rd_Condition_invert : ∀ ds Qd Qe, sp_Condition_invert ds Qd Qe → b_Condition_invert (endsD [] Qd Qe) (startE 1 [] ds) := by
  rintro ds Qd Qe ⟨l, rfl, hl, h⟩
  rw [r_sizeLine] at hl
  simp [b_Condition_invert, startE, hl]
  exact h

theorem inFD_str {x : Str} : ∀ {xs : List Str}, inFD (.str x) (txs xs) = decide (x ∈ xs)
  | [] => by simp [inFD, txs]
  | y :: xs => by
    have ih := inFD_str (x := x) (xs := xs)
    unfold inFD txs at ih ⊢
    rw [List.map_cons, List.any_cons, ih]
    simp only [eqFD, List.mem_cons]
    by_cases h : y = x
    · subst h; simp
    · have : ¬ x = y := fun e => h e.symm
      simp [h, this]
theorem flat_txs : ∀ {xs : List Str}, (txs xs).all flatD = true
  | [] => rfl
  | _ :: xs => flat_txs (xs := xs)
theorem c_WRD : c_WORDS = .tup (txs wrdL) := rfl
theorem c_OPS : c_SIGNS_OF_COMPARISON = .tup (txs opsL) := rfl
theorem c_RES : c_RESERVED = .tup (txs resL) := rfl
@[simp ↓] theorem r_inT {n : Bool} {x : Str} {xs : List Str} {Q : D → Prop} : inD n (.str x) (.tup (txs xs)) Q = Q (.bl (decide (x ∈ xs) != n)) := by
  simp only [inD, flat_txs, flatD, inFD_str, true_and]
@[simp ↓] theorem r_inL {n : Bool} {x : Str} {xs : List Str} {Q : D → Prop} : inD n (.str x) (.lst (txs xs)) Q = Q (.bl (decide (x ∈ xs) != n)) := by
  simp only [inD, flat_txs, flatD, inFD_str, true_and]
theorem rd_truth_test : ∀ ds Qd Qe, sp_truth_test ds Qd Qe → b_truth_test (endsD [] Qd Qe) (startE 2 [] ds) := by
  rintro ds Qd Qe ⟨l, w, rfl, hl, hw, h⟩
  rw [r_sizeLine] at hl
  have : l.length + 1 ≤ 16777216 := by omega
  simp [b_truth_test, startE, getF, c_WRD, hw, this]
  exact h
theorem rd_compare : ∀ ds Qd Qe, sp_compare ds Qd Qe → b_compare (endsD [] Qd Qe) (startE 3 [] ds) := by
  rintro ds Qd Qe ⟨a, b, op, rfl, hw, h⟩
  simp [b_compare, startE, getF, c_OPS, hw]
  exact h
theorem rd_law_term : ∀ ds Qd Qe, sp_law_term ds Qd Qe → b_law_term (endsD [] Qd Qe) (startE 1 [] ds) := by
  rintro ds Qd Qe ⟨d, rfl, ⟨s, ys, rfl, hs, hy⟩, h⟩
  cases s with
  | non => simpa [b_law_term, startE, Sh.d, isNon] using h
  | num n => simpa [b_law_term, startE, Sh.d, isNon] using h
  | col x n =>
    have hx := hy x hs.1
    simp [b_law_term, startE, Sh.d, isNon, hx]
    simpa [Sh.d] using h
/-! ### joined -/
theorem lp_joined {B : DEnds} {w : D} {p : Option Ent} : ∀ (ls : List (List D)) (acc : List D) (x : Option Ent), acc.length + ls.flatten.length < 16000000 → (∀ x, B.nx [some (.fz w), p, some (.ow false (.lst (acc ++ ls.flatten))), x]) →
    loopD (dgName 3) b_joined_1 B (conds ls) [some (.fz w), p, some (.ow false (.lst acc)), x]
  | [], acc, x, h, k => by
    have k := k x
    rw [List.flatten_nil, List.append_nil] at k
    exact k
  | l :: ls, acc, x, h, k => by
    rw [List.flatten_cons, List.length_append] at h
    have ih := lp_joined (B := B) (w := w) (p := p) ls (acc ++ l) (some (.fz (cond l))) (by rw [List.length_append]; omega) (fun x => by
      rw [List.append_assoc, ← List.flatten_cons]
      exact k x)
    have hl : acc.length + l.length ≤ 16777216 := by omega
    simp [conds, loopD, b_joined_1, getF, hl]
    exact ih
theorem rd_joined : ∀ ds Qd Qe, sp_joined ds Qd Qe → b_joined (endsD [] Qd Qe) (startE 4 [] ds) := by
  rintro ds Qd Qe ⟨w, p, rfl, ls, rfl, h1, h2, h⟩
  have hl : (conds ls).length = ls.length := by simp [conds]
  simp [b_joined, startE]
  refine lp_joined ls [] none (by simp only [List.length_nil]; omega) fun x => ?_
  have h3 : ls.flatten.length < 16777216 := by omega
  rw [List.length_flatten] at h3
  simp [hl, h3]
  exact h
theorem rd_both : ∀ ds Qd Qe, sp_both ds Qd Qe → b_both (endsD [] Qd Qe) (startE 1 [] ds) := by
  rintro ds Qd Qe ⟨p, rfl, ls, rfl, h1, h2, h3, h⟩
  have hl : (conds ls).length = ls.length := by simp [conds]
  have e1 : ¬ ((ls.length : Int) = 0) := by omega
  have e2 : ¬ ((ls.length : Int) = 1) := by omega
  have e3 : ls ≠ [] := fun e => by rw [e] at h1; simp at h1
  have e4 : ¬ ls.length = 1 := by omega
  simp [b_both, startE, hl, e1, e2, e3, e4]
  exact ⟨ls, rfl, h2, by simpa using h3, h⟩
theorem rd_either : ∀ ds Qd Qe, sp_either ds Qd Qe → b_either (endsD [] Qd Qe) (startE 1 [] ds) := by
  rintro ds Qd Qe ⟨p, rfl, ls, rfl, h1, h2, h3, h⟩
  have hl : (conds ls).length = ls.length := by simp [conds]
  have e1 : ¬ ((ls.length : Int) = 0) := by omega
  have e2 : ¬ ((ls.length : Int) = 1) := by omega
  have e3 : ls ≠ [] := fun e => by rw [e] at h1; simp at h1
  have e4 : ¬ ls.length = 1 := by omega
  simp [b_either, startE, hl, e1, e2, e3, e4]
  exact ⟨ls, rfl, h2, by simpa using h3, h⟩
theorem rd_law_join : ∀ ds Qd Qe, sp_law_join ds Qd Qe → b_law_join (endsD [] Qd Qe) (startE 2 [] ds) := by
  rintro ds Qd Qe ⟨w, p, rfl, b, ls, rfl, rfl, h1, h2, h3, h⟩
  match ls, h1, h2, h3, h with
  | [u, v], _, _, h3, h => cases b <;> simp [b_law_join, startE, conds, jnW] <;> exact ⟨[u, v], rfl, by simp, by simp, by simpa using h3, by simpa [jnW] using h⟩
  | [u, v, x], _, _, h3, h => cases b <;> simp [b_law_join, startE, conds, jnW] <;> exact ⟨[u, v, x], rfl, by simp, by simp, by simpa using h3, by simpa [jnW] using h⟩
  | [u, v, x, y], _, _, h3, h => cases b <;> simp [b_law_join, startE, conds, jnW] <;> exact ⟨[u, v, x, y], rfl, by simp, by simp, by simpa using h3, by simpa [jnW] using h⟩
end DL

namespace DL
open PySem L2

/-! ### alike -/
theorem lp_same {B : DEnds} {sr : SpD} {a : D} {l : List D} (ha : ∀ i Q, (∃ d, atI l i = some d ∧ Q d) → ixD a (.int i) Q) (hs : ∀ d ∈ l, ∀ Q Qe, Q (.bl true) [] → sr [d, d] Q Qe) : ∀ (n k : Nat) (x : Option Ent), k + n = l.length → (∀ x, B.nx [some (.fz a), some (.fz a), x]) →
    loopD (dgName 2) (b_law_same_1 sr) B (rangeD k n) [some (.fz a), some (.fz a), x]
  | 0, k, x, e, h => h x
  | n + 1, k, x, e, h => by
    have ih := lp_same ha hs n (k + 1) (some (.fz (.int k))) (by omega) h
    rw [rangeD_succ]
    obtain ⟨d, hd⟩ := atI_some (l := l) (i := k) (by omega) (by omega)
    simp [loopD, b_law_same_1]
    refine ha _ _ ⟨d, hd, ha _ _ ⟨d, hd, hs d (atI_mem hd) _ _ ?_⟩⟩
    simp
    exact ih
theorem rd_law_same_n : ∀ n ds Qd Qe, sp_law_same_n (n + 1) ds Qd Qe → b_law_same (sp_law_same_n n) (endsD [] Qd Qe) (startE 3 [] ds) := by
  rintro n ds Qd Qe ⟨a, rfl, hp, h⟩
  have sr : ∀ l : List D, l.all (plainN n) = true → ∀ d ∈ l, ∀ Q Qe, Q (.bl true) [] → sp_law_same_n n [d, d] Q Qe := fun l hl d m Q Qe q => by
    have h1 := List.all_eq_true.mp hl d m
    cases n with
    | zero => cases h1
    | succ n => exact ⟨d, rfl, h1, q⟩
  cases a with
  | non => simpa [b_law_same, startE, isNon] using h
  | bl b => cases b <;> simpa [b_law_same, startE, isNon, isBl] using h
  | int i => simpa [b_law_same, startE, isNon, isBl, isD, isiInt, isiBool] using h
  | str i => simpa [b_law_same, startE, isNon, isBl, isD, isiInt, isiBool, isiStr] using h
  | tup l =>
    have hp : (decide (l.length ≤ 16777216) && l.all (plainN n)) = true := hp
    simp only [Bool.and_eq_true, decide_eq_true_eq] at hp
    simp [b_law_same, startE, isD, isiInt, isiStr, isiDct, isiTup, isiLst]
    have h1 : (l.length : Int) < 4611686018427387904 := by omega
    have h2 : -4611686018427387904 ≤ (l.length : Int) := by omega
    simp [h1, h2]
    exact lp_same (a := .tup l) (l := l) (fun i Q h => h) (sr l hp.2) l.length 0 none (by omega) (fun x => by simpa using h)
  | lst l =>
    have hp : (decide (l.length ≤ 16777216) && l.all (plainN n)) = true := hp
    simp only [Bool.and_eq_true, decide_eq_true_eq] at hp
    simp [b_law_same, startE, isD, isiInt, isiStr, isiDct, isiTup, isiLst]
    have h1 : (l.length : Int) < 4611686018427387904 := by omega
    have h2 : -4611686018427387904 ≤ (l.length : Int) := by omega
    simp [h1, h2]
    exact lp_same (a := .lst l) (l := l) (fun i Q h => h) (sr l hp.2) l.length 0 none (by omega) (fun x => by simpa using h)
  | lck l => cases hp
  | dct k v => cases hp
  | obj C f v => cases hp
/-! ### numbers -/
theorem Num.le {n : Int} {a b : Nat} (h : Num n a) (hab : a ≤ b) : Num n b := Nat.le_trans h (Nat.mul_le_mul_right _ hab)
theorem num_int {n : Int} {b : Nat} (h : -((b : Int) * 10000000000000000000000000000000000000000) ≤ n) (h' : n ≤ (b : Int) * 10000000000000000000000000000000000000000) : Num n b := by
  unfold Num
  have e : (10 : Nat) ^ 40 = 10000000000000000000000000000000000000000 := by decide
  rw [e]
  omega
theorem Num.bd {n : Int} {b : Nat} (h : Num n b) : -((b : Int) * 10000000000000000000000000000000000000000) ≤ n ∧ n ≤ (b : Int) * 10000000000000000000000000000000000000000 := by
  unfold Num at h
  have e : (10 : Nat) ^ 40 = 10000000000000000000000000000000000000000 := by decide
  rw [e] at h
  omega
theorem many_ok {m : Int} (h : 0 < m) (h' : m ≤ 10000000000000000000000000000000000000000) : Many m := ⟨h, by
  have e : (10 : Int) ^ 100 = 10000000000000000000000000000000000000000000000000000000000000000000000000000000000000000000000000000 := by decide
  rw [e]
  omega⟩
theorem pw40 : CPow 10 40 := pow_ok (by decide) (by decide) (by decide) (by decide)
theorem at2 {a b : D} {r : Int} (h0 : 0 ≤ r) (h1 : r < 2) : ∃ d, atI [a, b] r = some d ∧ (d = a ∨ d = b) := by
  obtain ⟨d, hd⟩ := atI_some (l := [a, b]) (i := r) (by simp; omega) (by simpa using h1)
  have m := atI_mem hd
  simp at m
  exact ⟨d, hd, m⟩
theorem rd_law_centres : ∀ ds Qd Qe, sp_law_centres ds Qd Qe → b_law_centres (endsD [0] Qd Qe) (startE 2 [0] ds) := by
  rintro ds Qd Qe ⟨st, rfl, hs, h⟩
  have fin : ∀ b st', StOk st' → -10000000000000000000000000000000000000000 ≤ b → b ≤ 10000000000000000000000000000000000000000 → Qd (.lst [.int 0, .int b]) [st'] := fun b st' s h1 h2 => h _ _ ⟨0, b, rfl, num_int (by omega) (by omega), num_int (by omega) (by omega)⟩ s
  simp [b_law_centres, startE, hs]
  refine ⟨many_ok (by omega) (by omega), fun r st' r0 r1 s1 => ?_⟩
  split
  · exact ⟨s1, many_ok (by omega) (by omega), fun r st' r0 r1 s1 => fin _ _ s1 (by omega) (by omega)⟩
  · split
    · exact ⟨pw40, s1, many_ok (by omega) (by omega), fun r st' r0 r1 s1 => fin _ _ s1 (by omega) (by omega)⟩
    · split
      · exact ⟨pw40, s1, many_ok (by omega) (by omega), fun r st' r0 r1 s1 => fin _ _ s1 (by omega) (by omega)⟩
      · exact fin _ _ s1 (by omega) (by omega)
theorem cen_at {a b : Int} (ha : Num a 1) (hb : Num b 1) {r : Int} (h0 : 0 ≤ r) (h1 : r < 2) : ∃ n : Int, atI [D.int a, D.int b] r = some (.int n) ∧ Num n 1 := by
  obtain ⟨d, hd, e⟩ := at2 (a := D.int a) (b := D.int b) h0 h1
  rcases e with rfl | rfl
  · exact ⟨a, hd, ha⟩
  · exact ⟨b, hd, hb⟩
theorem sm_at {l : List D} {r : Int} (hl : ∀ d ∈ l, ∃ n : Int, d = .int n ∧ -3 ≤ n ∧ n ≤ 3) (h0 : 0 ≤ r) (h1 : r < l.length) : ∃ n : Int, atI l r = some (.int n) ∧ -3 ≤ n ∧ n ≤ 3 := by
  obtain ⟨d, hd⟩ := atI_some (l := l) (i := r) (by omega) h1
  obtain ⟨n, rfl, h2, h3⟩ := hl d (atI_mem hd)
  exact ⟨n, hd, h2, h3⟩
theorem rd_law_near : ∀ ds Qd Qe, sp_law_near ds Qd Qe → b_law_near (endsD [0] Qd Qe) (startE 2 [0] ds) := by
  rintro ds Qd Qe ⟨st, c, rfl, hs, ⟨a, b, rfl, ha, hb⟩, h⟩
  simp [b_law_near, startE, hs]
  refine ⟨many_ok (by omega) (by omega), fun r st' r0 r1 s1 => ?_⟩
  split
  · refine ⟨pw40, s1, many_ok (by omega) (by omega), fun r st' r0 r1 s1 => ⟨s1, many_ok (by omega) (by omega), fun d st' d0 d1 s1 => ⟨mul_l (by omega) (by omega), mul_r (by omega) (by omega), h _ _ ?_ s1⟩⟩⟩
    obtain rfl | rfl : d = 0 ∨ d = 1 := by omega
    · exact num_int (by omega) (by omega)
    · exact num_int (by omega) (by omega)
  · refine ⟨s1, many_ok (by omega) (by omega), fun r st' r0 r1 s1 => ?_⟩
    obtain ⟨n, hn, hn1⟩ := cen_at ha hb r0 r1
    refine ⟨_, hn, s1, many_ok (by omega) (by omega), fun r st' r0 r1 s1 => ?_⟩
    obtain ⟨m, hm, m1, m2⟩ := sm_at (l := [.int 0, .int 1, .int (-1), .int 2, .int (-2), .int 3, .int (-3)]) (r := r) (by simp) r0 (by simpa using r1)
    refine ⟨_, hm, ?_⟩
    simp
    have := hn1.bd
    exact h _ _ (num_int (by omega) (by omega)) s1
theorem txs_inj : ∀ {p q : List Str}, txs p = txs q → p = q
  | [], [], _ => rfl
  | [], _ :: _, e => by simp [txs] at e
  | _ :: _, [], e => by simp [txs] at e
  | x :: p, y :: q, e => by
    simp only [txs, List.map_cons, List.cons.injEq, D.str.injEq] at e
    rw [e.1, txs_inj e.2]
theorem len_txs {ys : List Str} : (txs ys).length = ys.length := by simp [txs]
/-- a drawn name -/
theorem txs_at {ys : List Str} {r : Int} (h0 : 0 ≤ r) (h1 : r < ((txs ys).length : Int)) : ∃ x, atI (txs ys) r = some (.str x) ∧ ∀ zs, txs ys = txs zs → x ∈ zs := by
  obtain ⟨d, hd⟩ := atI_some (l := txs ys) (i := r) (by omega) h1
  obtain ⟨x, hx, rfl⟩ := List.mem_map.mp (atI_mem hd)
  refine ⟨_, hd, fun zs e => ?_⟩
  rw [← txs_inj e]
  exact hx
theorem txs_in {l : List D} {xs : List Str} (e : l = txs xs) {r : Int} (h0 : 0 ≤ r) (h1 : r < (xs.length : Int)) : ∃ x, atI l r = some (.str x) ∧ x ∈ xs := by
  obtain ⟨d, hd⟩ := atI_some (l := l) (i := r) (by omega) (by rw [e, len_txs]; exact h1)
  have m := atI_mem hd
  rw [e] at m
  obtain ⟨x, hx, rfl⟩ := List.mem_map.mp m
  exact ⟨x, hd, hx⟩
theorem rd_law_column : ∀ ds Qd Qe, sp_law_column ds Qd Qe → b_law_column (endsD [0] Qd Qe) (startE 4 [0] ds) := by
  rintro ds Qd Qe ⟨st, xs, c, rfl, hs, ⟨ys, rfl, h1, h2⟩, ⟨a, b, rfl, ha, hb⟩, h⟩
  have hl : (txs ys).length = ys.length := len_txs
  have fin : ∀ n st', Num n 3 → StOk st' → StOk st' ∧ Many ((txs ys).length : Int) ∧ ∀ (r : Int) (st' : D), 0 ≤ r → r < ((txs ys).length : Int) → StOk st' → ∃ d, atI (txs ys) r = some d ∧ Qd (.tup [d, .int n]) [st'] := fun n st' hn s1 => ⟨s1, many_ok (by omega) (by omega), fun r st' r0 r1 s1 => by
    obtain ⟨x, hx, hm⟩ := txs_at r0 r1
    exact ⟨_, hx, h _ _ _ hm hn s1⟩⟩
  simp [b_law_column, b_law_column_1, startE, hs]
  refine ⟨many_ok (by omega) (by omega), fun r st' r0 r1 s1 => ?_⟩
  split
  · refine ⟨s1, many_ok (by omega) (by omega), fun r st' r0 r1 s1 => ?_⟩
    obtain ⟨n, hn, hn1⟩ := cen_at ha hb r0 r1
    refine ⟨_, hn, s1, many_ok (by omega) (by omega), fun r st' r0 r1 s1 => ?_⟩
    obtain ⟨m, hm, hm1⟩ := cen_at ha hb r0 r1
    refine ⟨_, hm, ?_⟩
    simp
    refine ⟨s1, many_ok (by omega) (by omega), fun r st' r0 r1 s1 => ?_⟩
    obtain ⟨k, hk, k1, k2⟩ := sm_at (l := [.int 0, .int 1, .int (-1), .int 2, .int (-2)]) (r := r) (by simp) r0 (by simpa using r1)
    refine ⟨_, hk, ?_⟩
    simp
    have := hn1.bd
    have := hm1.bd
    exact fin _ _ (num_int (by omega) (by omega)) s1
  · exact fin _ _ (num_int (by omega) (by omega)) s1
theorem rd_law_side : ∀ ds Qd Qe, sp_law_side ds Qd Qe → b_law_side (endsD [0] Qd Qe) (startE 4 [0] ds) := by
  rintro ds Qd Qe ⟨st, xs, c, rfl, hs, ⟨ys, rfl, h1, h2⟩, hc, h⟩
  simp [b_law_side, startE, hs]
  refine ⟨many_ok (by omega) (by omega), fun r st' r0 r1 s1 => ?_⟩
  split
  · exact ⟨s1, hc, fun n st' hn s1 => h (.num n) _ (fun _ _ => hn.le (by decide)) s1⟩
  · split
    · exact ⟨s1, ⟨ys, rfl, h1, h2⟩, hc, fun x n st' hx hn s1 => h (.col x n) _ (fun zs e => ⟨hx zs e, hn.le (by decide)⟩) s1⟩
    · exact h .non _ (fun _ _ => trivial) s1
theorem ops_at {r : Int} (h0 : 0 ≤ r) (h1 : r < 6) : ∃ x, atI [D.str "<", .str "<=", .str "=", .str "!=", .str ">=", .str ">"] r = some (.str x) ∧ x ∈ opsL := txs_in (xs := opsL) rfl h0 (by simpa [opsL] using h1)
theorem cst_at {r : Int} (h0 : 0 ≤ r) (h1 : r < 3) : ∃ x, atI [D.str "always", .str "never", .str "maybe"] r = some (.str x) ∧ x ∈ cstL := txs_in (xs := cstL) rfl h0 (by simpa [cstL] using h1)
theorem wrd_at {r : Int} (h0 : 0 ≤ r) (h1 : r < 3) : ∃ x, atI [D.str "false", .str "unknown", .str "true"] r = some (.str x) ∧ x ∈ wrdL := txs_in (xs := wrdL) rfl h0 (by simpa [wrdL] using h1)
theorem rd_law_small_leaf : ∀ ds Qd Qe, sp_law_small_leaf ds Qd Qe → b_law_small_leaf (endsD [0] Qd Qe) (startE 4 [0] ds) := by
  rintro ds Qd Qe ⟨st, xs, rfl, hs, ⟨ys, rfl, h1, h2⟩, h⟩
  have hl : (txs ys).length = ys.length := len_txs
  simp [b_law_small_leaf, startE, hs]
  refine ⟨many_ok (by omega) (by omega), fun k st' k0 k1 s1 => ⟨s1, many_ok (by omega) (by omega), fun r st' r0 r1 s1 => ?_⟩⟩
  obtain ⟨x, hx, hm⟩ := txs_at r0 r1
  refine ⟨_, hx, ?_⟩
  split
  · refine ⟨s1, many_ok (by omega) (by omega), fun r st' r0 r1 s1 => ?_⟩
    obtain ⟨op, ho, ho1⟩ := ops_at r0 r1
    refine ⟨_, ho, s1, many_ok (by omega) (by omega), fun r st' r0 r1 s1 => ?_⟩
    exact h (.cmp (.col x 0) op (.num (r - 9))) _ (fun zs e => ⟨⟨hm zs e, num_int (by omega) (by omega)⟩, ho1, num_int (by omega) (by omega)⟩) (by simp [Ct.size]) s1
  · split
    · refine ⟨s1, many_ok (by omega) (by omega), fun r st' r0 r1 s1 => ?_⟩
      exact h (.mis (.col x (r - 1))) _ (fun zs e => ⟨hm zs e, num_int (by omega) (by omega)⟩) (by simp [Ct.size]) s1
    · obtain ⟨w, hw, hw1⟩ := cst_at (r := k - 2) (by omega) (by omega)
      exact ⟨_, hw, h (.cst w) _ (fun _ _ => hw1) (by simp [Ct.size]) s1⟩
theorem rd_law_leaf : ∀ ds Qd Qe, sp_law_leaf ds Qd Qe → b_law_leaf (endsD [0] Qd Qe) (startE 6 [0] ds) := by
  rintro ds Qd Qe ⟨st, xs, c, rfl, hs, hy, hc, h⟩
  simp [b_law_leaf, b_law_leaf_1, startE, hs]
  refine ⟨many_ok (by omega) (by omega), fun k st' k0 k1 s1 => ?_⟩
  split
  · exact ⟨s1, hy, hc, fun x n st' hx hn s1 => h (.mis (.col x n)) _ (fun zs e => ⟨hx zs e, hn.le (by decide)⟩) (by simp [Ct.size]) s1⟩
  · split
    · exact ⟨s1, hy, hc, fun s st' hs s1 => h (.mis s) _ (fun zs e => hs zs e) (by simp [Ct.size]) s1⟩
    · split
      · refine ⟨s1, many_ok (by omega) (by omega), fun r st' r0 r1 s1 => ?_⟩
        obtain ⟨w, hw, hw1⟩ := cst_at r0 r1
        exact ⟨_, hw, h (.cst w) _ (fun _ _ => hw1) (by simp [Ct.size]) s1⟩
      · refine ⟨s1, many_ok (by omega) (by omega), fun r st' r0 r1 s1 => ?_⟩
        obtain ⟨op, ho, ho1⟩ := ops_at r0 r1
        refine ⟨_, ho, s1, hy, hc, fun x n st' hx hn s1 => ?_⟩
        split
        · exact ⟨s1, hy, hc, fun s st' hs s1 => ⟨s1, hy, hc, fun s' st' hs' s1 => h (.cmp s op s') _ (fun zs e => ⟨hs zs e, ho1, hs' zs e⟩) (by simp [Ct.size]) s1⟩⟩
        · exact ⟨s1, hy, hc, fun s' st' hs' s1 => h (.cmp (.col x n) op s') _ (fun zs e => ⟨⟨hx zs e, hn.le (by decide)⟩, ho1, hs' zs e⟩) (by simp [Ct.size]) s1⟩
end DL

namespace DL
open PySem L2

mutual
theorem steps_len : ∀ t : Ct, t.steps.length = t.size
  | .cmp _ _ _ => by simp [Ct.steps, Ct.size]
  | .mis _ => by simp [Ct.steps, Ct.size]
  | .cst _ => by simp [Ct.steps, Ct.size]
  | .neg c => by simp [Ct.steps, Ct.size, steps_len c]
  | .tst c _ => by simp [Ct.steps, Ct.size, steps_len c]
  | .jn _ cs => by simp [Ct.steps, Ct.size, stepsL_len cs]
theorem stepsL_len : ∀ ts : List Ct, (stepsL ts).length = sizeL ts
  | [] => by simp [stepsL, sizeL]
  | c :: cs => by simp [stepsL, sizeL, steps_len c, stepsL_len cs]
end
theorem sizeL_append : ∀ {a b : List Ct}, sizeL (a ++ b) = sizeL a + sizeL b
  | [], b => by simp [sizeL]
  | c :: a, b => by simp [sizeL, sizeL_append (a := a) (b := b)]; omega
theorem okL_append {xs : List Str} : ∀ {a b : List Ct}, okL xs (a ++ b) ↔ okL xs a ∧ okL xs b
  | [], b => by simp [okL]
  | c :: a, b => by simp [okL, okL_append (a := a) (b := b), and_assoc]
theorem stepsL_append : ∀ {a b : List Ct}, stepsL (a ++ b) = stepsL a ++ stepsL b
  | [], b => by simp [stepsL]
  | c :: a, b => by simp [stepsL, stepsL_append (a := a) (b := b)]
def prt (t : Ct) : D := .lst t.steps
/-- conditions over the names that xs are -/
def OkT (xs : List D) (t : Ct) : Prop := ∀ ys, xs = txs ys → t.Ok ys
def OkTs (xs : List D) (ts : List Ct) : Prop := ∀ ys, xs = txs ys → okL ys ts
theorem lp_steps1 {B : DEnds} {ys : List Str} {c : D} {e3 e9 e10 : Option Ent} (h1 : 1 ≤ ys.length) (h2 : ys.length ≤ 9) (hc : cenOk c) : ∀ (n k : Nat) (ts : List Ct) (st : D) (e6 e7 e8 : Option Ent), StOk st → ts.length = k → ts.length + n ≤ 4 → OkTs (txs ys) ts → sizeL ts ≤ 2 * k →
    (∀ (ts' : List Ct) (st : D) (e6 e7 e8 : Option Ent), StOk st → ts'.length = k + n → OkTs (txs ys) ts' → sizeL ts' ≤ 2 * (k + n) → B.nx [some (.ow true st), some (.fz (.lst (txs ys))), some (.fz c), e3, some (.fz (.lst (txs wrdL))), some (.ow false (.lst (ts'.map prt))), e6, e7, e8, e9, e10]) →
    loopD (dgName 6) b_law_steps_3 B (rangeD k n) [some (.ow true st), some (.fz (.lst (txs ys))), some (.fz c), e3, some (.fz (.lst (txs wrdL))), some (.ow false (.lst (ts.map prt))), e6, e7, e8, e9, e10]
  | 0, k, ts, st, e6, e7, e8, hs, hl, hn, ho, hz, h => h ts st _ _ _ hs hl ho hz
  | n + 1, k, ts, st, e6, e7, e8, hs, hl, hn, ho, hz, h => by
    have ih := fun (t : Ct) (st : D) (e7 e8 : Option Ent) (hs : StOk st) (ht : OkT (txs ys) t) (hz' : t.size ≤ 2) => lp_steps1 (B := B) (e3 := e3) (e9 := e9) (e10 := e10) h1 h2 hc n (k + 1) (ts ++ [t]) st (some (.fz (.int k))) e7 e8 hs (by simp [hl]) (by simp; omega) (fun zs e => okL_append.mpr ⟨ho zs e, ht zs e, trivial⟩) (by simp [sizeL_append, sizeL]; omega) (fun ts' st e6 e7 e8 q1 q2 q3 q4 => h ts' st e6 e7 e8 q1 (by omega) q3 (by omega))
    rw [rangeD_succ]
    have hl2 : ts.length < 16777216 := by omega
    simp [loopD, b_law_steps_3, b_law_steps_1, b_law_steps_2, hs, hc, hl2]
    refine ⟨⟨ys, rfl, h1, h2⟩, fun t st' ht hz1 s1 => ⟨s1, many_ok (by omega) (by omega), fun r st' r0 r1 s1 => ?_⟩⟩
    have tl := steps_len t
    split
    · rename_i r5
      subst r5
      refine ⟨by omega, ?_⟩
      have := ih (.neg t) st' (some (.fz (prt (.neg t)))) (some (.fz (.int 5))) s1 (fun zs e => ht zs e) (by simp [Ct.size]; omega)
      simp [prt, Ct.steps] at this
      exact this
    · split
      · refine ⟨s1, many_ok (by omega) (by omega), fun r' st' r0 r1 s1 => ?_⟩
        obtain ⟨w, hw, hw1⟩ := txs_in (xs := wrdL) rfl r0 (by simpa [wrdL] using r1)
        refine ⟨_, hw, by omega, ?_⟩
        have := ih (.tst t w) st' (some (.fz (prt (.tst t w)))) (some (.fz (.int r))) s1 (fun zs e => ⟨ht zs e, hw1⟩) (by simp [Ct.size]; omega)
        simp [prt, Ct.steps] at this
        exact this
      · have := ih t st' (some (.fz (prt t))) (some (.fz (.int r))) s1 ht (by omega)
        simp [prt] at this
        exact this

theorem bth_at {r : Int} (h0 : 0 ≤ r) (h1 : r < 2) : ∃ b : Bool, atI [D.str "both", .str "either"] r = some (.str (jnW b)) := by
  obtain ⟨d, hd, e⟩ := at2 (a := D.str "both") (b := D.str "either") h0 h1
  rcases e with rfl | rfl
  · exact ⟨true, hd⟩
  · exact ⟨false, hd⟩
theorem st_4 {B : DEnds} {ys : List Str} {c : D} {st : D} {ts : List Ct} {e2 e3 e4 e6 e7 e8 e9 e10 : Option Ent} (hs : StOk st) (hl : 1 ≤ ts.length) (hn : ts.length ≤ 4) (ho : OkTs (txs ys) ts) (hz : sizeL ts ≤ 8)
    (h : ∀ (ts' : List Ct) (st : D) (e9 : Option Ent), StOk st → 1 ≤ ts'.length → ts'.length ≤ 4 → OkTs (txs ys) ts' → sizeL ts' ≤ 9 → B.nx [some (.ow true st), some (.fz (.lst (txs ys))), e2, e3, e4, some (.ow false (.lst (ts'.map prt))), e6, e7, e8, e9, e10]) :
    b_law_steps_4 B [some (.ow true st), some (.fz (.lst (txs ys))), e2, e3, e4, some (.ow false (.lst (ts.map prt))), e6, e7, e8, e9, e10] := by
  by_cases h3 : 2 < ts.length
  · match ts, h3, hl, hn, ho, hz, h with
    | a :: b :: d :: rest, _, hl, hn, ho, hz, h =>
      simp only [List.length_cons] at hn
      simp only [sizeL] at hz
      have la := steps_len a
      have lb := steps_len b
      have e3 : (2 : Int) < rest.length + 1 + 1 + 1 := by omega
      simp [b_law_steps_4, hs, prt, e3]
      refine ⟨many_ok (by omega) (by omega), fun r st' r0 r1 s1 => ?_⟩
      split
      · refine ⟨by omega, s1, many_ok (by omega) (by omega), fun r st' r0 r1 s1 => ?_⟩
        obtain ⟨w, hw⟩ := bth_at r0 r1
        refine ⟨_, hw, by omega, ?_⟩
        rw [show (2 : Int) = ((2 : Nat) : Int) from rfl]
        have cut : cutD (D.lst a.steps :: D.lst b.steps :: D.lst d.steps :: List.map prt rest) (some ((2 : Nat) : Int)) none = D.lst d.steps :: rest.map prt := by
          unfold cutD
          rw [HT.sIx_nat, HT.sIx_none]
          simp
          exact List.take_of_length_le (by simp)
        rw [cut]
        have := h (.jn w [a, b] :: d :: rest) st' (some (.fz (prt (.jn w [a, b])))) s1 (by simp) (by simp; omega) (fun zs e => by
          obtain ⟨o1, o2, o3⟩ := ho zs e
          exact ⟨⟨by simp, by simp, o1, o2, trivial⟩, o3⟩) (by simp [sizeL, Ct.size]; omega)
        simp [prt, Ct.steps, stepsL, catD] at this ⊢
        exact ⟨by omega, this⟩
      · have := h (a :: b :: d :: rest) st' e9 s1 (by simp) (by simp; omega) ho (by simp only [sizeL]; omega)
        simp [prt] at this
        exact this
  · have e3 : ¬ ((2 : Int) < ts.length) := by omega
    simp [b_law_steps_4, e3]
    exact h ts st e9 hs hl hn ho (by omega)

theorem lp_steps5 {B : DEnds} {e0 e1 e2 e3 e4 e5 e6 e8 e9 : Option Ent} : ∀ (ts : List Ct) (acc : List D) (e7 : Option Ent), acc.length + sizeL ts < 1000000 →
    (∀ e7, B.nx [e0, e1, e2, e3, e4, e5, e6, e7, e8, e9, some (.fz (.lst (acc ++ stepsL ts)))]) →
    loopD (dgName 7) b_law_steps_5 B (ts.map prt) [e0, e1, e2, e3, e4, e5, e6, e7, e8, e9, some (.fz (.lst acc))]
  | [], acc, e7, hl, h => by
    have h := h e7
    rw [stepsL, List.append_nil] at h
    exact h
  | t :: ts, acc, e7, hl, h => by
    rw [sizeL] at hl
    have tl := steps_len t
    have ih := lp_steps5 (B := B) (e0 := e0) (e1 := e1) (e2 := e2) (e3 := e3) (e4 := e4) (e5 := e5) (e6 := e6) (e8 := e8) (e9 := e9) ts (acc ++ t.steps) (some (.fz (prt t))) (by rw [List.length_append]; omega) (fun e7 => by
      rw [List.append_assoc, ← stepsL]
      exact h e7)
    have hl2 : acc.length + t.steps.length ≤ 16777216 := by omega
    simp [loopD, b_law_steps_5, prt, hl2]
    exact ih
theorem st_6 {B : DEnds} {xs : List D} {st : D} {ts : List Ct} {e1 e2 e3 e4 e6 e7 e8 e9 : Option Ent} (hs : StOk st) (hl : 1 ≤ ts.length) (hn : ts.length ≤ 4) (ho : OkTs xs ts) (hz : sizeL ts ≤ 9)
    (h : ∀ (t : Ct) (st : D) (e5 : Option Ent), StOk st → OkT xs t → t.size ≤ 12 → B.nx [some (.ow true st), e1, e2, e3, e4, e5, e6, e7, e8, e9, some (.fz (.lst t.steps))]) :
    b_law_steps_6 B [some (.ow true st), e1, e2, e3, e4, some (.fz (.lst (ts.map prt))), e6, e7, e8, e9, some (.fz (.lst (stepsL ts)))] := by
  have sl := stepsL_len ts
  by_cases h2 : 1 < ts.length
  · have h3 : (1 : Int) < ts.length := by omega
    simp [b_law_steps_6, hs, h3]
    refine ⟨many_ok (by omega) (by omega), fun r st' r0 r1 s1 => ?_⟩
    obtain ⟨w, hw⟩ := bth_at r0 r1
    refine ⟨_, hw, by omega, s1, many_ok (by omega) (by omega), fun r st' r0 r1 s1 => ?_⟩
    have oj : OkT xs (.jn w ts) := fun zs e => ⟨by omega, hn, ho zs e⟩
    split
    · refine ⟨by omega, ?_⟩
      have := h (.neg (.jn w ts)) st' (some (.fz (.lst (ts.map prt)))) s1 (fun zs e => oj zs e) (by simp only [Ct.size]; omega)
      simp [Ct.steps] at this
      exact this
    · have := h (.jn w ts) st' (some (.fz (.lst (ts.map prt)))) s1 oj (by simp only [Ct.size]; omega)
      simp [Ct.steps] at this
      exact this
  · have h3 : ¬ ((1 : Int) < ts.length) := by omega
    simp [b_law_steps_6, h3]
    obtain ⟨t, rfl⟩ := List.length_eq_one_iff.mp (show ts.length = 1 by omega)
    have := h t st (some (.fz (.lst ([t].map prt)))) hs (fun zs e => (ho zs e).1) (by simp only [sizeL] at hz; omega)
    simp [stepsL]
    exact this
theorem rd_law_steps : ∀ ds Qd Qe, sp_law_steps ds Qd Qe → b_law_steps (endsD [0] Qd Qe) (startE 11 [0] ds) := by
  rintro ds Qd Qe ⟨st, xs, c, most, rfl, hs, ⟨ys, rfl, h1, h2⟩, hc, m1, m2, h⟩
  simp [b_law_steps, startE, hs]
  refine ⟨many_ok (by omega) (by omega), fun r st' r0 r1 s1 => ?_⟩
  refine ⟨by omega, by omega, ?_⟩
  have e0 : (1 + r).toNat ≤ 4 := by omega
  refine lp_steps1 h1 h2 hc (1 + r).toNat 0 [] st' none none none s1 rfl (by simpa using e0) (fun _ _ => trivial) (by simp [sizeL]) fun ts st e6 e7 e8 s1 hl ho hz => ?_
  refine st_4 (c := c) s1 (by omega) (by omega) ho (by omega) fun ts st e9 s1 hl hn ho hz => ?_
  simp
  refine lp_steps5 ts [] e7 (by simp; omega) fun e7 => ?_
  refine st_6 s1 hl hn ho hz fun t st e5 s1 ht hz => ?_
  simp
  exact h t st ht hz s1
end DL

namespace DL
open PySem L2

@[simp ↓] theorem r_ixS {s : Str} {i : Int} {Q : D → Prop} : ixD (.str s) (.int i) Q = (s.length ≤ sizeLine ∧ ∃ c, atI s.cps.toList i = some c ∧ Q (.str ⟨#[c]⟩)) := by rfl
@[simp ↓] theorem r_len_str {s : Str} {Q : D → Prop} : lenD [.str s] Q = (s.length ≤ sizeLine ∧ Q (.int s.length)) := propext (Iff.intro (fun ⟨n, h, q⟩ => by
  by_cases l : s.length ≤ sizeLine
  · have h : (if s.length ≤ sizeLine then some s.length else none) = some n := h
    rw [if_pos l] at h
    cases h
    exact ⟨l, q⟩
  · have h : (if s.length ≤ sizeLine then some s.length else none) = some n := h
    rw [if_neg l] at h
    cases h) (fun ⟨l, q⟩ => ⟨_, if_pos l, q⟩))
def sg (c : Nat) : Str := ⟨#[c]⟩
def letS : Str := "abcdefghijklmnopqrstuvwxyz"
def sgnS : Str := "abcdefghijklmnopqrstuvwxyz0123456789_"
theorem tl_letS : tl letS = letL := by decide +kernel
theorem tl_sgnS : tl sgnS = sgnL := by decide +kernel
theorem sgn_cat : letS ++ ("0123456789_" : Str) = sgnS := by decide +kernel
theorem len_letS : letS.length = 26 := by decide +kernel
theorem len_sgnS : sgnS.length = 37 := by decide +kernel
theorem tl_len {x : Str} : x.length = (tl x).length := TL.len_tl x
theorem tl_app {x y : Str} : tl (x ++ y) = tl x ++ tl y := TL.tl_append x y
theorem tl_ext {x y : Str} (h : tl x = tl y) : x = y := TL.ext_tl h
theorem tl_sg {c : Nat} : tl (sg c) = [c] := rfl
theorem len_app {x y : Str} : (x ++ y).length = x.length + y.length := by rw [tl_len, tl_app, List.length_append, ← tl_len, ← tl_len]
theorem len_sg {c : Nat} : (sg c).length = 1 := rfl
theorem tl_take {x : Str} {n : Nat} : tl (cutS x none (some (n : Int))) = (tl x).take n := by
  show ((x.cps.toList.drop (HT.sIx x.length 0 none)).take (HT.sIx x.length x.length (some (n : Int)) - HT.sIx x.length 0 none)).toArray.toList = _
  rw [HT.sIx_none, HT.sIx_nat, List.drop_zero, Nat.sub_zero]
  have e : x.length = x.cps.toList.length := tl_len
  by_cases h : n ≤ x.length
  · rw [Nat.min_eq_left h]; rfl
  · rw [Nat.min_eq_right (by omega)]
    show List.take _ _ = List.take _ _
    rw [List.take_of_length_le (by omega), List.take_of_length_le (by show (x.cps.toList).length ≤ n; omega)]
    rfl
theorem tl_drop {x : Str} {n : Nat} : tl (cutS x (some (n : Int)) none) = (tl x).drop n := by
  show ((x.cps.toList.drop (HT.sIx x.length 0 (some (n : Int)))).take (HT.sIx x.length x.length none - HT.sIx x.length 0 (some (n : Int)))).toArray.toList = _
  rw [HT.sIx_none, HT.sIx_nat]
  have e : x.length = x.cps.toList.length := tl_len
  show List.take _ (List.drop _ _) = List.drop _ _
  by_cases h : n ≤ x.length
  · rw [Nat.min_eq_left h, List.take_of_length_le (by rw [List.length_drop]; omega)]
    rfl
  · rw [Nat.min_eq_right (by omega), List.drop_of_length_le (by omega), List.drop_of_length_le (by show (x.cps.toList).length ≤ n; omega)]
    simp
theorem let_at {r : Int} (h0 : 0 ≤ r) (h1 : r < 26) : ∃ c, atI letS.cps.toList r = some c ∧ c ∈ letL := by
  have e : letS.cps.toList = letL := tl_letS
  rw [e]
  obtain ⟨c, hc⟩ := atI_some (l := letL) (i := r) (by simp [letL]; omega) (by simpa [letL] using h1)
  exact ⟨c, hc, atI_mem hc⟩
theorem sgn_at {r : Int} (h0 : 0 ≤ r) (h1 : r < 37) : ∃ c, atI sgnS.cps.toList r = some c ∧ c ∈ sgnL := by
  have e : sgnS.cps.toList = sgnL := tl_sgnS
  rw [e]
  obtain ⟨c, hc⟩ := atI_some (l := sgnL) (i := r) (by simp [sgnL, letL]; omega) (by simpa [sgnL, letL] using h1)
  exact ⟨c, hc, atI_mem hc⟩
theorem let_sgn {c : Nat} (h : c ∈ letL) : c ∈ sgnL := List.mem_append_left _ h
/-! ### candidates -/
theorem cand_sg {c : Nat} (h : c ∈ letL) : Cand (sg c) := ⟨Nat.le_refl 1, (by decide : 1 ≤ 12), fun d m => by
  rw [tl_sg, List.mem_singleton] at m
  rw [m]
  exact let_sgn h, c, [], rfl, h⟩
theorem cand_app {x : Str} {c : Nat} (h : Cand x) (hl : x.length < 12) (hc : c ∈ sgnL) : Cand (x ++ sg c) := by
  obtain ⟨h1, h2, h3, d, r, h4, h5⟩ := h
  refine ⟨by rw [len_app, len_sg]; omega, by rw [len_app, len_sg]; omega, fun e m => ?_, d, r ++ [c], by rw [tl_app, h4]; rfl, h5⟩
  rw [tl_app, List.mem_append] at m
  rcases m with m | m
  · exact h3 e m
  · rw [tl_sg, List.mem_singleton] at m
    rw [m]
    exact hc
theorem cand_take {x : Str} {n : Nat} (h : Cand x) (hn : 1 ≤ n) : Cand (cutS x none (some (n : Int))) := by
  obtain ⟨h1, h2, h3, d, r, h4, h5⟩ := h
  obtain ⟨m, rfl⟩ : ∃ m, n = m + 1 := ⟨n - 1, by omega⟩
  have e : tl (cutS x none (some ((m + 1 : Nat) : Int))) = d :: r.take m := by rw [tl_take, h4]; rfl
  rw [tl_len, h4] at h2
  refine ⟨by rw [tl_len, e]; simp, by rw [tl_len, e]; simp at h2 ⊢; omega, fun c mc => h3 c ?_, d, r.take m, e, h5⟩
  rw [tl_take] at mc
  exact List.mem_of_mem_take mc
theorem cand_mid {x : Str} {n c : Nat} (h : Cand x) (hn : n < x.length) (hc : c ∈ letL) : Cand (cutS x none (some (n : Int)) ++ sg c ++ cutS x (some ((n : Int) + 1)) none) ∧ (cutS x none (some (n : Int)) ++ sg c ++ cutS x (some ((n : Int) + 1)) none).length = x.length := by
  have e1 : ((n : Int) + 1) = ((n + 1 : Nat) : Int) := by omega
  rw [e1]
  obtain ⟨h1, h2, h3, d, r, h4, h5⟩ := h
  have et : tl (cutS x none (some (n : Int)) ++ sg c ++ cutS x (some ((n + 1 : Nat) : Int)) none) = (tl x).take n ++ [c] ++ (tl x).drop (n + 1) := by rw [tl_app, tl_app, tl_take, tl_drop, tl_sg]
  have el : ((tl x).take n ++ [c] ++ (tl x).drop (n + 1)).length = x.length := by
    rw [tl_len] at hn ⊢
    simp
    omega
  refine ⟨⟨by rw [tl_len, et, el]; exact h1, by rw [tl_len, et, el]; exact h2, fun b m => ?_, ?_⟩, by rw [tl_len, et, el]⟩
  · rw [et, List.mem_append, List.mem_append, List.mem_singleton] at m
    rcases m with (m | rfl) | m
    · exact h3 b (List.mem_of_mem_take m)
    · exact let_sgn hc
    · exact h3 b (List.mem_of_mem_drop m)
  · rw [et]
    cases n with
    | zero => exact ⟨c, (tl x).drop 1, by simp, hc⟩
    | succ n => exact ⟨d, r.take n ++ [c] ++ (tl x).drop (n + 2), by rw [h4]; simp, h5⟩
/-! ### the name that is new -/
def badN (names : List Str) (x : Str) : Prop := x ∈ names ∨ x ∈ resL
instance {names : List Str} {x : Str} : Decidable (badN names x) := by unfold badN; infer_instance
def letN (j : Nat) : Nat := letL.getD (j % 26) 0
def nextN (names : List Str) (j : Nat) (x : Str) : Str := if badN names x then cutS x none (some 11) ++ sg (letN j) else x
theorem letN_mem {j : Nat} : letN j ∈ letL := by
  unfold letN
  have h : j % 26 < letL.length := by simp [letL]; omega
  rw [List.getD_eq_getElem?_getD, List.getElem?_eq_getElem h]
  exact List.getElem_mem h
theorem cand_next {names : List Str} {j : Nat} {x : Str} (h : Cand x) : Cand (nextN names j x) := by
  unfold nextN
  split
  · refine cand_app (cand_take (n := 11) h (by decide)) ?_ (let_sgn letN_mem)
    rw [tl_len, show ((11 : Int)) = ((11 : Nat) : Int) from rfl, tl_take]
    simp
    omega
  · exact h
end DL

namespace DL
open PySem L2

theorem inj_len {α : Type} [DecidableEq α] : ∀ (n : Nat) (l : List α) (f : Nat → α), (∀ i, i < n → f i ∈ l) → (∀ i j, i < n → j < n → f i = f j → i = j) → n ≤ l.length
  | 0, _, _, _, _ => Nat.zero_le _
  | n + 1, l, f, h, k => by
    have m := h n (by omega)
    have ih := inj_len n (l.erase (f n)) f (fun i hi => (List.mem_erase_of_ne (fun e => by have := k i n (by omega) (by omega) e; omega)).mpr (h i (by omega))) (fun i j hi hj => k i j (by omega) (by omega))
    have e := List.length_erase_of_mem m
    have p : 0 < l.length := List.length_pos_of_mem m
    omega
def seqN (names : List Str) (x : Str) : Nat → Str
  | 0 => x
  | j + 1 => nextN names j (seqN names x j)
theorem seq_cand {names : List Str} {x : Str} (h : Cand x) : ∀ j, Cand (seqN names x j)
  | 0 => h
  | j + 1 => cand_next (seq_cand h j)
theorem seq_bad {names : List Str} {x : Str} : ∀ (n j : Nat), badN names (seqN names x (j + n)) → badN names (seqN names x j)
  | 0, j, h => h
  | n + 1, j, h => by
    refine seq_bad n j ?_
    by_cases b : badN names (seqN names x (j + n))
    · exact b
    · have e : seqN names x (j + (n + 1)) = seqN names x (j + n) := by
        show nextN names (j + n) (seqN names x (j + n)) = _
        unfold nextN
        rw [if_neg b]
      rw [e] at h
      exact h
theorem seq_tl {names : List Str} {x : Str} {j : Nat} (h : badN names (seqN names x j)) : tl (seqN names x (j + 1)) = (tl (seqN names x j)).take 11 ++ [letN j] := by
  show tl (nextN names j (seqN names x j)) = _
  unfold nextN
  rw [if_pos h, tl_app, show ((11 : Int)) = ((11 : Nat) : Int) from rfl, tl_take, tl_sg]
theorem res_len {x : Str} (h : x ∈ resL) : x.length ≤ 9 := by
  have : resL.all (fun x => decide (x.length ≤ 9)) = true := by decide +kernel
  have := List.all_eq_true.mp this x h
  simpa using this
theorem letN_inj : ∀ i, i < 9 → ∀ j, j < 9 → letN (12 + i) = letN (12 + j) → i = j := by decide
theorem seq_good {names : List Str} {x : Str} (h : Cand x) (hl : names.length ≤ 8) : ¬ badN names (seqN names x 60) := by
  intro b
  have bad : ∀ j, j ≤ 60 → badN names (seqN names x j) := fun j hj => seq_bad (60 - j) j (by rw [show j + (60 - j) = 60 by omega]; exact b)
  have len : ∀ j, j ≤ 60 → min 12 (1 + j) ≤ (tl (seqN names x j)).length := by
    intro j
    induction j with
    | zero =>
      intro _
      have := h.1
      rw [tl_len] at this
      show min 12 1 ≤ (tl x).length
      omega
    | succ j ih =>
      intro hj
      have := ih (by omega)
      rw [seq_tl (bad j (by omega)), List.length_append, List.length_take]
      simp
      omega
  have pre : ∀ j, 11 ≤ j → j ≤ 59 → (tl (seqN names x j)).take 11 = (tl (seqN names x 11)).take 11 := by
    intro j
    induction j with
    | zero => intro h; omega
    | succ j ih =>
      intro h1 h2
      by_cases e : j + 1 = 11
      · rw [e]
      · rw [seq_tl (bad j (by omega)), ← ih (by omega) (by omega)]
        have := len j (by omega)
        rw [List.take_append_of_le_length (by rw [List.length_take]; omega), List.take_take]
        simp
  have tlv : ∀ j, 11 ≤ j → j ≤ 59 → tl (seqN names x (j + 1)) = (tl (seqN names x 11)).take 11 ++ [letN j] := fun j h1 h2 => by
    rw [seq_tl (bad j (by omega)), pre j h1 h2]
  have inn : ∀ i, i < 9 → seqN names x (12 + i + 1) ∈ names := fun i hi => by
    rcases bad (12 + i + 1) (by omega) with q | q
    · exact q
    · have q := res_len q
      have := len (12 + i + 1) (by omega)
      rw [tl_len] at q
      omega
  have := inj_len 9 names (fun i => seqN names x (12 + i + 1)) inn (fun i j hi hj e => by
    have e : tl (seqN names x (12 + i + 1)) = tl (seqN names x (12 + j + 1)) := congrArg tl e
    rw [tlv (12 + i) (by omega) (by omega), tlv (12 + j) (by omega) (by omega)] at e
    have e := List.append_cancel_left e
    exact letN_inj i hi j hj (by simpa using e))
  omega
theorem let_mod {j : Nat} : atI letS.cps.toList ((j : Int).fmod 26) = some (letN j) := by
  have e : letS.cps.toList = letL := tl_letS
  rw [e, Int.fmod_eq_emod_of_nonneg _ (by decide), atI_nonneg (j := j % 26) (by omega)]
  unfold letN
  have h : j % 26 < letL.length := by simp [letL]; omega
  rw [List.getD_eq_getElem?_getD, List.getElem?_eq_getElem h]
  rfl
theorem letS_eq : (Str.ofString "abcdefghijklmnopqrstuvwxyz") = letS := rfl
theorem lp_names3 {B : DEnds} {names : List Str} {x : Str} {e0 e1 e4 e5 e6 e7 e8 : Option Ent} (hx : Cand x) : ∀ (n j : Nat) (e11 : Option Ent),
    (∀ e11, B.nx [e0, e1, some (.fz (.lst (txs resL))), some (.fz (.str letS)), e4, e5, e6, e7, e8, some (.ow false (.lst (txs names))), some (.fz (.str (seqN names x (j + n)))), e11]) →
    loopD (dgName 11) b_law_names_3 B (rangeD j n) [e0, e1, some (.fz (.lst (txs resL))), some (.fz (.str letS)), e4, e5, e6, e7, e8, some (.ow false (.lst (txs names))), some (.fz (.str (seqN names x j))), e11]
  | 0, j, e11, h => h e11
  | n + 1, j, e11, h => by
    have ih := lp_names3 (B := B) (names := names) (e0 := e0) (e1 := e1) (e4 := e4) (e5 := e5) (e6 := e6) (e7 := e7) (e8 := e8) hx n (j + 1) (some (.fz (.int j))) (fun e11 => by
      rw [show j + 1 + n = j + (n + 1) by omega]
      exact h e11)
    rw [rangeD_succ]
    have hc := seq_cand (names := names) hx j
    have l1 := hc.2.1
    have nx : seqN names x (j + 1) = nextN names j (seqN names x j) := rfl
    rw [nx] at ih
    simp only [nextN] at ih
    have l2 : letS.length = 26 := len_letS
    have cl : (cutS (seqN names x j) none (some 11)).length ≤ 12 := Nat.le_trans (cutS_length _ _ _) l1
    have l3 : (cutS (seqN names x j) none (some 11)).length + Str.length { cps := #[letN j] } ≤ 16777216 := by
      show _ + 1 ≤ _
      omega
    by_cases b1 : seqN names x j ∈ names
    · rw [if_pos (show badN names (seqN names x j) from .inl b1)] at ih
      simp [loopD, b_law_names_3, b1, l2]
      refine ⟨by omega, _, let_mod, l3, ?_⟩
      exact ih
    · by_cases b2 : seqN names x j ∈ resL
      · rw [if_pos (show badN names (seqN names x j) from .inr b2)] at ih
        simp [loopD, b_law_names_3, b1, b2, l2]
        refine ⟨by omega, _, let_mod, l3, ?_⟩
        exact ih
      · rw [if_neg (show ¬ badN names (seqN names x j) from fun z => z.elim b1 b2)] at ih
        simp [loopD, b_law_names_3, b1, b2]
        exact ih
end DL

namespace DL
open PySem L2

theorem cut_le {x : Str} {lo hi : Option Int} : (cutS x lo hi).length ≤ x.length := cutS_length x lo hi
theorem lp_names1 {B : DEnds} {e1 e2 e3 e5 e8 e9 e10 e11 : Option Ent} : ∀ (n k : Nat) (x : Str) (st : D) (e7 : Option Ent), StOk st → Cand x → x.length = k + 1 → k + 1 + n ≤ 12 →
    (∀ (x : Str) (st : D) e7, StOk st → Cand x → x.length = k + 1 + n → B.nx [some (.ow true st), e1, e2, e3, some (.fz (.str sgnS)), e5, some (.fz (.str x)), e7, e8, e9, e10, e11]) →
    loopD (dgName 7) b_law_names_1 B (rangeD k n) [some (.ow true st), e1, e2, e3, some (.fz (.str sgnS)), e5, some (.fz (.str x)), e7, e8, e9, e10, e11]
  | 0, k, x, st, e7, hs, hx, hl, hn, h => h x st e7 hs hx hl
  | n + 1, k, x, st, e7, hs, hx, hl, hn, h => by
    have l2 : sgnS.length = 37 := len_sgnS
    rw [rangeD_succ]
    simp [loopD, b_law_names_1, hs, l2]
    refine ⟨many_ok (by omega) (by omega), fun r st' r0 r1 s1 => ?_⟩
    obtain ⟨c, hc, hm⟩ := sgn_at r0 r1
    refine ⟨_, hc, by show x.length + 1 ≤ _; omega, ?_⟩
    exact lp_names1 n (k + 1) (x ++ sg c) st' (some (.fz (.int k))) s1 (cand_app hx (by omega) hm) (by rw [len_app, len_sg]; omega) (by omega) (fun y st e7 q1 q2 q3 => h y st e7 q1 q2 (by omega))
theorem nm_2 {B : DEnds} {st : D} {base : Str} {k at_ : Int} {e1 e2 e4 e5 e9 e11 : Option Ent} (hs : StOk st) (hb : Cand base) (h0 : 0 ≤ at_) (h1 : at_ < base.length)
    (h : ∀ (st : D) (x : Str), StOk st → Cand x → B.nx [some (.ow true st), e1, e2, some (.fz (.str letS)), e4, e5, some (.fz (.str base)), some (.fz (.int k)), some (.fz (.int at_)), e9, some (.fz (.str x)), e11]) :
    b_law_names_2 B [some (.ow true st), e1, e2, some (.fz (.str letS)), e4, e5, some (.fz (.str base)), some (.fz (.int k)), some (.fz (.int at_)), e9, some (.fz (.str base)), e11] := by
  obtain ⟨n, rfl⟩ : ∃ n : Nat, at_ = n := ⟨at_.toNat, by omega⟩
  have l2 : letS.length = 26 := len_letS
  have lb := hb.2.1
  have lb1 := hb.1
  by_cases hk : 0 < k
  · simp [b_law_names_2, hs, l2, hk]
    refine ⟨by omega, many_ok (by omega) (by omega), fun r st' r0 r1 s1 => ?_⟩
    obtain ⟨c, hc, hm⟩ := let_at r0 r1
    obtain ⟨hcand, hlen⟩ := cand_mid (x := base) (n := n) hb (by omega) hm
    have c1 : (cutS base none (some (n : Int))).length ≤ base.length := cut_le
    have c2 : (cutS base (some ((n : Int) + 1)) none).length ≤ base.length := cut_le
    have c3 : ({ cps := #[c] } : Str).length = 1 := rfl
    have c4 : (cutS base none (some (n : Int)) ++ ({ cps := #[c] } : Str)).length = (cutS base none (some (n : Int))).length + 1 := len_app
    refine ⟨_, hc, by omega, by omega, by omega, s1, many_ok (by omega) (by omega), fun r st' r0 r1 s1 => ?_⟩
    have hlen' : (cutS base none (some (n : Int)) ++ ({ cps := #[c] } : Str) ++ cutS base (some ((n : Int) + 1)) none).length = base.length := hlen
    split
    · refine ⟨by omega, s1, many_ok (by omega) (by omega), fun r st' r0 r1 s1 => ⟨by omega, ?_⟩⟩
      obtain ⟨m, rfl⟩ : ∃ m : Nat, r = m := ⟨r.toNat, by omega⟩
      have := cand_take (x := cutS base none (some (n : Int)) ++ sg c ++ cutS base (some ((n : Int) + 1)) none) (n := m + 1) hcand (by omega)
      rw [show (((m + 1 : Nat) : Int)) = 1 + (m : Int) by omega] at this
      exact h _ _ s1 this
    · exact h _ _ s1 hcand
  · simp [b_law_names_2, hk]
    exact h _ _ hs hb

theorem lp_names4 {B : DEnds} {base : Str} {at_ : Int} {e1 e4 e5 : Option Ent} (hb : Cand base) (h0 : 0 ≤ at_) (h1 : at_ < base.length) : ∀ (n k : Nat) (xs : List Str) (st : D) (e7 e10 e11 : Option Ent), StOk st → xs.length = k → k + n ≤ 9 → NamesOk xs →
    (∀ (xs : List Str) (st : D) e7 e10 e11, StOk st → xs.length = k + n → NamesOk xs → B.nx [some (.ow true st), e1, some (.fz (.lst (txs resL))), some (.fz (.str letS)), e4, e5, some (.fz (.str base)), e7, some (.fz (.int at_)), some (.ow false (.lst (txs xs))), e10, e11]) →
    loopD (dgName 7) b_law_names_4 B (rangeD k n) [some (.ow true st), e1, some (.fz (.lst (txs resL))), some (.fz (.str letS)), e4, e5, some (.fz (.str base)), e7, some (.fz (.int at_)), some (.ow false (.lst (txs xs))), e10, e11]
  | 0, k, xs, st, e7, e10, e11, hs, hl, hn, ho, h => h xs st e7 e10 e11 hs hl ho
  | n + 1, k, xs, st, e7, e10, e11, hs, hl, hn, ho, h => by
    have ih := fun (x : Str) (st : D) e7 e10 e11 (hs : StOk st) (hx : NameOk x) (hx2 : x ∉ xs) => lp_names4 (B := B) (e1 := e1) (e4 := e4) (e5 := e5) hb h0 h1 n (k + 1) (xs ++ [x]) st e7 e10 e11 hs (by simp [hl]) (by omega) ⟨fun y m => by
      rcases List.mem_append.mp m with m | m
      · exact ho.1 y m
      · rw [List.mem_singleton.mp m]; exact hx, List.nodup_append.mpr ⟨ho.2, by simp, fun a ha b hb e => by
        rw [List.mem_singleton] at hb
        subst hb
        rw [e] at ha
        exact hx2 ha⟩⟩ (fun xs st e7 e10 e11 q1 q2 q3 => h xs st e7 e10 e11 q1 (by omega) q3)
    have hl2 : (txs xs).length < 16777216 := by rw [len_txs]; omega
    rw [rangeD_succ]
    simp [loopD, b_law_names_4]
    refine nm_2 hs hb h0 h1 fun st x hs hx => ?_
    simp
    refine lp_names3 (names := xs) (x := x) hx 60 0 e11 fun e11 => ?_
    have g := seq_good (names := xs) hx (by omega)
    have c := seq_cand (names := xs) hx 60
    have := ih (seqN xs x 60) st (some (.fz (.int k))) (some (.fz (.str (seqN xs x 60)))) e11 hs ⟨c, fun z => g (.inr z)⟩ (fun z => g (.inl z))
    simp [hl2]
    simp [txs] at this ⊢
    exact this
theorem rd_law_names : ∀ ds Qd Qe, sp_law_names ds Qd Qe → b_law_names (endsD [0] Qd Qe) (startE 12 [0] ds) := by
  rintro ds Qd Qe ⟨st, many, rfl, hs, m1, m2, h⟩
  have l1 : letS.length = 26 := len_letS
  have l2 : Str.length "abcdefghijklmnopqrstuvwxyz" = 26 := len_letS
  have l3 : Str.length "0123456789_" = 11 := by decide +kernel
  simp [b_law_names, startE, hs, l2, l3]
  refine ⟨many_ok (by omega) (by omega), fun r st' r0 r1 s1 => ?_⟩
  obtain ⟨d, hd⟩ := atI_some (l := [D.int 1, .int 2, .int 4, .int 12]) (i := r) (by simp; omega) (by simpa using r1)
  have md := atI_mem hd
  obtain ⟨z, rfl, z1, z2⟩ : ∃ z : Nat, d = .int z ∧ 1 ≤ z ∧ z ≤ 12 := by
    simp at md
    rcases md with rfl | rfl | rfl | rfl
    · exact ⟨1, rfl, by decide, by decide⟩
    · exact ⟨2, rfl, by decide, by decide⟩
    · exact ⟨4, rfl, by decide, by decide⟩
    · exact ⟨12, rfl, by decide, by decide⟩
  refine ⟨_, hd, s1, many_ok (by omega) (by omega), fun r st' r0 r1 s1 => ?_⟩
  obtain ⟨c, hc, hm⟩ := let_at r0 r1
  refine ⟨_, hc, ?_⟩
  simp
  refine ⟨by omega, by omega, ?_⟩
  refine lp_names1 (z - 1) 0 (sg c) st' none s1 (cand_sg hm) rfl (by omega) fun x st e7 s1 hx hl => ?_
  simp [s1]
  refine ⟨many_ok (by omega) (by omega), fun r st' r0 r1 s1 => ⟨by omega, by omega, ?_⟩⟩
  refine lp_names4 hx r0 (by omega) many.toNat 0 [] st' _ _ _ s1 rfl (by omega) ⟨by simp, by simp⟩ fun xs st e7 e10 e11 s1 hl ho => ?_
  simp
  exact h xs st (by omega) ho s1
end DL

namespace DL
open PySem L2

theorem sub_one {c : Nat} {x : Str} : subS (sg c) x = decide (c ∈ tl x) := StrLaws.found_one x c
@[simp ↓] theorem r_in1 {n : Bool} {c : Nat} {x : Str} {Q : D → Prop} : inD n (.str ⟨#[c]⟩) (.str x) Q = Q (.bl (decide (c ∈ tl x) != n)) := by
  have e : inD n (.str ⟨#[c]⟩) (.str x) Q = Q (.bl (subS (sg c) x != n)) := rfl
  rw [e, sub_one]
theorem lp_isname {B : DEnds} {e0 : Option Ent} : ∀ (l : List Nat) (e1 : Option Ent), (∀ c ∈ l, c ∈ sgnL) → (∀ e1, B.nx [e0, e1]) → loopD (dgName 1) b_is_name_1 B (l.map fun c => D.str ⟨#[c]⟩) [e0, e1]
  | [], e1, h, k => k e1
  | c :: l, e1, h, k => by
    have hc : c ∈ tl "abcdefghijklmnopqrstuvwxyz0123456789_" := by
      show c ∈ tl sgnS
      rw [tl_sgnS]
      exact h c (List.mem_cons_self ..)
    have ih := lp_isname (B := B) (e0 := e0) l (some (.fz (.str ⟨#[c]⟩))) (fun c m => h c (List.mem_cons_of_mem _ m)) k
    simp [loopD, b_is_name_1, hc]
    exact ih
theorem rd_is_name : ∀ ds Qd Qe, sp_is_name ds Qd Qe → b_is_name (endsD [] Qd Qe) (startE 2 [] ds) := by
  rintro ds Qd Qe ⟨x, rfl, ⟨⟨h1, h2, h3, c, r, h4, h5⟩, h6⟩, h⟩
  have e1 : ¬ ((x.length : Int) < 1) := by omega
  have e2 : ¬ ((12 : Int) < (x.length : Int)) := by omega
  have e3 : x.length ≤ 16777216 := by omega
  have e4 : x.cps.toList = c :: r := h4
  have e5 : c ∈ tl "abcdefghijklmnopqrstuvwxyz" := by
    show c ∈ tl letS
    rw [tl_letS]
    exact h5
  have e6 : atI x.cps.toList 0 = some c := by rw [e4, atI_nonneg (i := 0) (j := 0) rfl]; rfl
  have e7 : x ≠ Str.empty := fun e => by rw [e] at h4; cases h4
  simp [b_is_name, startE, e1, e2, e3, c_RES, h6, e6, e5, itemsD]
  exact lp_isname (tl x) none h3 fun e1 => by simpa using h
/-! ### conditions made of their steps -/
@[simp] theorem ofStr_eq {a b : String} : (Str.ofString a = Str.ofString b) = (a = b) := propext ofString_inj
abbrev cnd (t : Ct) : D := cond t.steps
theorem cut_tail {S P : List D} {i : Int} (h : i = S.length) : cutD (S ++ P) (some i) none = P := by
  subst h
  unfold cutD
  rw [HT.sIx_nat, HT.sIx_none, List.length_append, Nat.min_eq_left (by omega), List.drop_left, List.take_of_length_le (by omega)]
theorem cut_head {S P : List D} {i : Int} (h : i = S.length) : cutD (S ++ P) none (some i) = S := by
  subst h
  unfold cutD
  rw [HT.sIx_nat, HT.sIx_none, List.length_append, Nat.min_eq_left (by omega), List.drop_zero, Nat.sub_zero, List.take_left]
theorem sh_ok {s : Sh} {ys : List Str} (h : s.Ok ys) (hy : ∀ x ∈ ys, NameOk x) : ∃ s', s.d = Sh.d s' ∧ ∃ ys, s'.Ok ys ∧ ∀ x ∈ ys, NameOk x := ⟨s, rfl, ys, h, hy⟩
theorem flat_steps : ∀ {cs : List Ct}, (cs.map Ct.steps).flatten = stepsL cs
  | [] => rfl
  | c :: cs => by rw [List.map_cons, List.flatten_cons, flat_steps, stepsL]
mutual
theorem lpM {B : DEnds} {ys : List Str} {e0 : Option Ent} (hy : ∀ x ∈ ys, NameOk x) : ∀ (t : Ct), t.Ok ys → ∀ (rest S : List D) (e2 e3 : Option Ent), S.length + t.size ≤ 100000 →
    (∀ e2 e3, loopD (dgName 2) b_law_made_1 B rest [e0, some (.ow false (.lst (S ++ [cnd t]))), e2, e3]) →
    loopD (dgName 2) b_law_made_1 B (t.steps ++ rest) [e0, some (.ow false (.lst S)), e2, e3]
  | .cmp a op b, ok, rest, S, e2, e3, hl, h => by
    simp only [Ct.size] at hl
    have hl2 : S.length < 16777216 := by omega
    have oa := sh_ok ok.1 hy
    have ob := sh_ok ok.2.2 hy
    have h := h (some (.fz (.tup [.str "compare", a.d, .str op, b.d]))) e3
    simp only [cnd, Ct.steps] at h
    simp [loopD, b_law_made_1, Ct.steps, ok.2.1, hl2]
    exact ⟨oa, ob, h⟩
  | .mis a, ok, rest, S, e2, e3, hl, h => by
    simp only [Ct.size] at hl
    have hl2 : S.length < 16777216 := by omega
    have oa := sh_ok ok hy
    have h := h (some (.fz (.tup [.str "missing", a.d]))) e3
    simp only [cnd, Ct.steps] at h
    simp [loopD, b_law_made_1, Ct.steps, hl2]
    exact ⟨oa, h⟩
  | .cst w, ok, rest, S, e2, e3, hl, h => by
    simp only [Ct.size] at hl
    have hl2 : S.length < 16777216 := by omega
    have h := h (some (.fz (.tup [.str w]))) e3
    simp only [cnd, Ct.steps] at h
    have ok : w ∈ cstL := ok
    simp only [cstL, List.mem_cons, List.not_mem_nil, or_false] at ok
    rcases ok with rfl | rfl | rfl <;> simp [loopD, b_law_made_1, Ct.steps, hl2] <;> exact h
  | .neg c, ok, rest, S, e2, e3, hl, h => by
    simp only [Ct.size] at hl
    have lc := steps_len c
    rw [Ct.steps, List.append_assoc]
    refine lpM hy c ok ([.tup [.str "not"]] ++ rest) S e2 e3 (by omega) fun e2 e3 => ?_
    have h := h (some (.fz (.tup [.str "not"]))) e3
    simp only [cnd, Ct.steps] at h
    have hl2 : S.length < 16777216 := by omega
    have hl3 : c.steps.length < 16777216 := by omega
    simp [loopD, b_law_made_1, hl2, hl3]
    exact h
  | .tst c w, ok, rest, S, e2, e3, hl, h => by
    simp only [Ct.size] at hl
    have lc := steps_len c
    rw [Ct.steps, List.append_assoc]
    refine lpM hy c ok.1 ([.tup [.str "test", .str w]] ++ rest) S e2 e3 (by omega) fun e2 e3 => ?_
    have h := h (some (.fz (.tup [.str "test", .str w]))) e3
    simp only [cnd, Ct.steps] at h
    have hl2 : S.length < 16777216 := by omega
    have hl3 : c.steps.length < 16777216 := by omega
    simp [loopD, b_law_made_1, hl2, hl3, ok.2]
    exact h
  | .jn b cs, ok, rest, S, e2, e3, hl, h => by
    simp only [Ct.size] at hl
    have lc := stepsL_len cs
    rw [Ct.steps, List.append_assoc]
    refine lpMs hy cs ok.2.2 ([.tup [.str (jnW b), .int cs.length]] ++ rest) S e2 e3 (by omega) fun e2 e3 => ?_
    have h := h (some (.fz (.tup [.str (jnW b), .int cs.length]))) (some (.fz (.lst (cs.map cnd))))
    simp only [cnd, Ct.steps] at h
    have hl2 : S.length < 16777216 := by omega
    have ct : cutD (S ++ cs.map cnd) (some (S.length : Int)) none = cs.map cnd := cut_tail rfl
    have ch : cutD (S ++ cs.map cnd) none (some (S.length : Int)) = S := cut_head rfl
    have fl : ((cs.map Ct.steps).map List.length).sum = (stepsL cs).length := by rw [← List.length_flatten, flat_steps]
    cases b <;> simp [loopD, b_law_made_1, hl2, jnW]
    · rw [ct, ch]
      refine ⟨cs.map Ct.steps, by simp [conds], by simpa using ok.1, by simpa using ok.2.1, by omega, hl2, ?_⟩
      rw [← flat_steps] at h
      simp [jnW] at h
      rw [List.length_map]
      exact h
    · rw [ct, ch]
      refine ⟨cs.map Ct.steps, by simp [conds], by simpa using ok.1, by simpa using ok.2.1, by omega, hl2, ?_⟩
      rw [← flat_steps] at h
      simp [jnW] at h
      rw [List.length_map]
      exact h
theorem lpMs {B : DEnds} {ys : List Str} {e0 : Option Ent} (hy : ∀ x ∈ ys, NameOk x) : ∀ (ts : List Ct), okL ys ts → ∀ (rest S : List D) (e2 e3 : Option Ent), S.length + sizeL ts ≤ 100000 →
    (∀ e2 e3, loopD (dgName 2) b_law_made_1 B rest [e0, some (.ow false (.lst (S ++ ts.map cnd))), e2, e3]) →
    loopD (dgName 2) b_law_made_1 B (stepsL ts ++ rest) [e0, some (.ow false (.lst S)), e2, e3]
  | [], _, rest, S, e2, e3, hl, h => by
    have h := h e2 e3
    simpa [stepsL] using h
  | t :: ts, ok, rest, S, e2, e3, hl, h => by
    rw [sizeL] at hl
    rw [stepsL, List.append_assoc]
    have tp : 1 ≤ t.size := by cases t <;> simp [Ct.size]
    refine lpM hy t ok.1 (stepsL ts ++ rest) S e2 e3 (by omega) fun e2 e3 => lpMs hy ts ok.2 rest (S ++ [cnd t]) e2 e3 (by rw [List.length_append]; simp; omega) fun e2 e3 => ?_
    have h := h e2 e3
    rw [List.append_assoc]
    exact h
end

theorem rd_law_made : ∀ ds Qd Qe, sp_law_made ds Qd Qe → b_law_made (endsD [] Qd Qe) (startE 4 [] ds) := by
  rintro ds Qd Qe ⟨l, rfl, t, ys, rfl, ok, hy, hz, h⟩
  simp [b_law_made, startE]
  have e : t.steps = t.steps ++ [] := by simp
  rw [e]
  refine lpM hy t ok [] [] none none (by simp; omega) fun e2 e3 => ?_
  simpa [loopD] using h
end DL

namespace DL
open PySem L2

theorem txs_snoc {l : List Str} {x : Str} : txs l ++ [D.str x] = txs (l ++ [x]) := by simp [txs]
theorem size_pos {t : Ct} : 1 ≤ t.size := by cases t <;> simp [Ct.size]
theorem size_in : ∀ {cs : List Ct} {c : Ct}, c ∈ cs → c.size ≤ sizeL cs
  | d :: cs, c, m => by
    simp only [sizeL]
    rcases List.mem_cons.mp m with rfl | m
    · omega
    · have := size_in m
      omega
theorem ok_in {ys : List Str} : ∀ {cs : List Ct} {c : Ct}, c ∈ cs → okL ys cs → c.Ok ys
  | d :: cs, c, m, ok => by
    rcases List.mem_cons.mp m with rfl | m
    · exact ok.1
    · exact ok_in m ok.2
theorem wrd_cases {w : Str} (h : w ∈ wrdL) : w = "false" ∨ w = "unknown" ∨ w = "true" := by simpa [wrdL] using h
theorem cst_cases {w : Str} (h : w ∈ cstL) : w = "always" ∨ w = "never" ∨ w = "maybe" := by simpa [cstL] using h
/-- how a walk over steps goes: leaves push, a not, a test and a join take their parts off; at most N stand on the stack -/
structure StepsRun (ys : List Str) {α : Type} (val : Ct → α) (N : Nat) (run : List D → List α → Prop) : Prop where
  leaf : ∀ (t : Ct) (d : D) (xs : List α) (rest : List D), t.Ok ys → t.size = 1 → t.steps = [d] → xs.length + 1 ≤ N → run rest (xs ++ [val t]) → run (d :: rest) xs
  neg : ∀ (c : Ct) (xs : List α) (rest : List D), c.Ok ys → xs.length + 1 ≤ N → run rest (xs ++ [val (.neg c)]) → run (.tup [.str "not"] :: rest) (xs ++ [val c])
  tst : ∀ (c : Ct) (w : Str) (xs : List α) (rest : List D), c.Ok ys → w ∈ wrdL → xs.length + 1 ≤ N → run rest (xs ++ [val (.tst c w)]) → run (.tup [.str "test", .str w] :: rest) (xs ++ [val c])
  jn : ∀ (b : Bool) (cs : List Ct) (xs : List α) (rest : List D), 2 ≤ cs.length → cs.length ≤ 4 → okL ys cs → xs.length + cs.length ≤ N → run rest (xs ++ [val (.jn b cs)]) → run (.tup [.str (jnW b), .int cs.length] :: rest) (xs ++ cs.map val)
theorem sizeL_len : ∀ cs : List Ct, cs.length ≤ sizeL cs
  | [] => Nat.zero_le _
  | c :: cs => by
    have := sizeL_len cs
    have := size_pos (t := c)
    simp only [sizeL, List.length_cons]
    omega
section
variable {ys : List Str} {α : Type} {val : Ct → α} {N : Nat} {run : List D → List α → Prop}
mutual
theorem StepsRun.go (R : StepsRun ys val N run) : ∀ (t : Ct), t.Ok ys → ∀ (rest : List D) (xs : List α), xs.length + t.size ≤ N → run rest (xs ++ [val t]) → run (t.steps ++ rest) xs
  | .cmp a op b, ok, rest, xs, hn, h => R.leaf (.cmp a op b) _ xs rest ok rfl rfl hn h
  | .mis a, ok, rest, xs, hn, h => R.leaf (.mis a) _ xs rest ok rfl rfl hn h
  | .cst w, ok, rest, xs, hn, h => R.leaf (.cst w) _ xs rest ok rfl rfl hn h
  | .neg c, ok, rest, xs, hn, h => by
    simp only [Ct.size] at hn
    have hp := size_pos (t := c)
    rw [Ct.steps, List.append_assoc]
    exact R.go c ok _ xs (by omega) (R.neg c xs rest ok (by omega) h)
  | .tst c w, ok, rest, xs, hn, h => by
    simp only [Ct.size] at hn
    have hp := size_pos (t := c)
    rw [Ct.steps, List.append_assoc]
    exact R.go c ok.1 _ xs (by omega) (R.tst c w xs rest ok.1 ok.2 (by omega) h)
  | .jn b cs, ok, rest, xs, hn, h => by
    simp only [Ct.size] at hn
    have := sizeL_len cs
    rw [Ct.steps, List.append_assoc]
    exact R.goL cs ok.2.2 _ xs (by omega) (R.jn b cs xs rest ok.1 ok.2.1 ok.2.2 (by omega) h)
theorem StepsRun.goL (R : StepsRun ys val N run) : ∀ (cs : List Ct), okL ys cs → ∀ (rest : List D) (xs : List α), xs.length + sizeL cs ≤ N → run rest (xs ++ cs.map val) → run (stepsL cs ++ rest) xs
  | [], _, rest, xs, hn, h => by simpa [stepsL] using h
  | c :: cs, ok, rest, xs, hn, h => by
    simp only [sizeL] at hn
    have hp := size_pos (t := c)
    rw [stepsL, List.append_assoc]
    refine R.go c ok.1 _ xs (by omega) (R.goL cs ok.2 rest (xs ++ [val c]) (by rw [List.length_append]; simp; omega) ?_)
    rw [List.append_assoc]
    exact h
end
end
theorem leaf_cases {ys : List Str} {t : Ct} {d : D} (ok : t.Ok ys) (h : t.size = 1) (e : t.steps = [d]) : (∃ a op b, t = .cmp a op b ∧ d = .tup [.str "compare", a.d, .str op, b.d]) ∨ (∃ a, t = .mis a ∧ d = .tup [.str "missing", a.d]) ∨ ∃ w, t = .cst w ∧ d = .tup [.str w] := by
  cases t with
  | cmp a op b => left; refine ⟨a, op, b, rfl, ?_⟩; simp [Ct.steps] at e; exact e.symm
  | mis a => right; left; refine ⟨a, rfl, ?_⟩; simp [Ct.steps] at e; exact e.symm
  | cst w => right; right; refine ⟨w, rfl, ?_⟩; simp [Ct.steps] at e; exact e.symm
  | neg c => simp only [Ct.size] at h; have := size_pos (t := c); omega
  | tst c w => simp only [Ct.size] at h; have := size_pos (t := c); omega
  | jn b cs =>
    simp only [Ct.steps] at e
    cases cs with
    | nil => have := ok.1; simp at this
    | cons c cs => simp only [Ct.size, sizeL] at h; have := size_pos (t := c); omega
end DL

namespace DL
open PySem L2

/-! ### shared: texts that are plain, cuts -/
theorem sh_plain (s : Sh) : ∀ n, plainN (n + 2) s.d = true := fun n => by cases s <;> rfl
mutual
theorem steps_plain : ∀ (t : Ct), t.size ≤ 1000 → ∀ d ∈ t.steps, plainN 5 d = true
  | .cmp a op b, _, d, m => by
    simp only [Ct.steps, List.mem_singleton] at m
    subst m
    have ha := sh_plain a 2
    have hb := sh_plain b 2
    simp only [Nat.reduceAdd] at ha hb
    simp [plainN, ha, hb]
  | .mis a, _, d, m => by
    simp only [Ct.steps, List.mem_singleton] at m
    subst m
    have ha := sh_plain a 2
    simp only [Nat.reduceAdd] at ha
    simp [plainN, ha]
  | .cst w, _, d, m => by
    simp only [Ct.steps, List.mem_singleton] at m
    subst m
    rfl
  | .neg c, hz, d, m => by
    simp only [Ct.size] at hz
    simp only [Ct.steps, List.mem_append, List.mem_singleton] at m
    rcases m with m | rfl
    · exact steps_plain c (by omega) d m
    · rfl
  | .tst c w, hz, d, m => by
    simp only [Ct.size] at hz
    simp only [Ct.steps, List.mem_append, List.mem_singleton] at m
    rcases m with m | rfl
    · exact steps_plain c (by omega) d m
    · rfl
  | .jn b cs, hz, d, m => by
    simp only [Ct.size] at hz
    simp only [Ct.steps, List.mem_append, List.mem_singleton] at m
    rcases m with m | rfl
    · exact stepsL_plain cs (by omega) d m
    · rfl
theorem stepsL_plain : ∀ (cs : List Ct), sizeL cs ≤ 1000 → ∀ d ∈ stepsL cs, plainN 5 d = true
  | [], _, d, m => by simp [stepsL] at m
  | c :: cs, hz, d, m => by
    simp only [sizeL] at hz
    simp only [stepsL, List.mem_append] at m
    rcases m with m | m
    · exact steps_plain c (by omega) d m
    · exact stepsL_plain cs (by omega) d m
end
theorem same_txt {x : Str} {Qd : D → List D → Prop} {Qe : Exn → List D → Prop} (q : Qd (.bl true) []) : sp_law_same [.str x, .str x] Qd Qe := ⟨_, rfl, rfl, q⟩
theorem same_steps {t : Ct} (hz : t.size ≤ 1000) {Qd : D → List D → Prop} {Qe : Exn → List D → Prop} (q : Qd (.bl true) []) : sp_law_same [.tup t.steps, .tup t.steps] Qd Qe := ⟨_, rfl, by
  show (decide (t.steps.length ≤ 16777216) && t.steps.all (plainN 5)) = true
  have := steps_len t
  simp only [Bool.and_eq_true, decide_eq_true_eq, List.all_eq_true]
  exact ⟨by omega, fun d m => steps_plain t hz d m⟩, q⟩
theorem cut_one {l : List D} : cutD l (some 1) none = l.tail := by
  cases l with
  | nil => simp [cutD]
  | cons x l => exact cut_tail (S := [x]) (P := l) (by simp)
end DL

namespace DL
open PySem L2

/-! ### answers, bounds -/
def sd : Option Str → D
  | none => .non
  | some x => .str x
def bd (l r : Option Str) (s : Int) : D := .tup [sd l, sd r, .int s]
inductive An where
  | unk (x : Str) (b : Bool) | mst (l r : Option Str) (s : Int) (b : Bool)
def An.d : An → D
  | .unk x b => .tup [.str "unknown", .str x, .bl b]
  | .mst l r s b => .tup [.str "most", sd l, sd r, .int s, .bl b]
def ans (as : List An) : List D := as.map An.d
/-- the bound of a most-answer -/
def bnL (l r : Option Str) (b : Bool) : Option Str := if b then l else r
def bnS (s : Int) (b : Bool) : Int := if b then s else -s - 1
def optB : Option Bool → D
  | none => .non
  | some b => .bl b
/-- how a column is answered, first -/
def asked : List An → Str → Option Bool
  | [], _ => none
  | .unk y b :: as, x => if y = x then some b else asked as x
  | _ :: as, x => asked as x
/-- some answer gives the bound (l, r, s) or a tighter one -/
def hasB : List An → Option Str → Option Str → Int → Bool
  | [], _, _, _ => false
  | .mst l' r' s' b :: as, l, r, s => (decide (bnL l' r' b = l) && decide (bnL r' l' b = r) && decide (bnS s' b ≤ s)) || hasB as l r s
  | _ :: as, l, r, s => hasB as l r s
def stl (as : List An) (l r : Option Str) (s : Int) : Option Bool :=
  if l = r then some (decide (0 ≤ s)) else if hasB as l r s = true then some true else if hasB as r l (-s - 1) = true then some false else none
/-- the columns answered, each once -/
def cols : List An → List Str
  | [] => []
  | .unk y _ :: as => y :: cols as
  | _ :: as => cols as
def Uq (as : List An) : Prop := (cols as).Nodup
def Sh.side : Sh → Option Str
  | .col x _ => some x
  | _ => none
def Sh.sh : Sh → Int
  | .num n => n
  | .col _ n => n
  | .non => 0
/-- the bounds on which a comparison rests -/
def rests (a : Sh) (op : Str) (b : Sh) : List (Option Str × Option Str × Int) :=
  if op = "<=" then [(a.side, b.side, b.sh - a.sh)] else if op = "<" then [(a.side, b.side, b.sh - a.sh - 1)] else if op = ">=" then [(b.side, a.side, -(b.sh - a.sh))] else if op = ">" then [(b.side, a.side, -(b.sh - a.sh) - 1)] else [(a.side, b.side, b.sh - a.sh), (b.side, a.side, -(b.sh - a.sh))]
def bds (l : List (Option Str × Option Str × Int)) : List D := l.map fun b => bd b.1 b.2.1 b.2.2
/-! ### sets of truth values -/
structure T3 where
  f : Bool
  u : Bool
  t : Bool
def T3.d (x : T3) : D := .lst [.bl x.f, .bl x.u, .bl x.t]
def b01 (b : Bool) (n : Int) : Int := if b then n else 0
def T3.n (x : T3) : Int := b01 x.f 1 + b01 x.u 2 + b01 x.t 4
def T3.mir (x : T3) : T3 := ⟨x.t, x.u, x.f⟩
def T3.lst (x y : T3) : T3 := ⟨x.f || y.f, (x.u && (y.u || y.t)) || (y.u && (x.u || x.t)), x.t && y.t⟩
def T3.bth (x : T3) : List T3 → T3
  | [] => x
  | y :: ys => (x.lst y).bth ys
def T3.jnd (b : Bool) (xs : List T3) : T3 := if b = true then T3.bth ⟨false, false, true⟩ xs else (T3.bth ⟨false, false, true⟩ (xs.map T3.mir)).mir
def T3.tst (x : T3) (w : Str) : T3 := if w = "false" then ⟨x.u || x.t, false, x.f⟩ else if w = "unknown" then ⟨x.f || x.t, false, x.u⟩ else ⟨x.f || x.u, false, x.t⟩
def T3.words (x : T3) : List Str := (if x.f then (["false"] : List Str) else []) ++ ((if x.u then (["unknown"] : List Str) else []) ++ (if x.t then (["true"] : List Str) else []))
def unkB (as : List An) (s : Sh) : Bool := match s with
  | .non => true
  | .num _ => false
  | .col x _ => decide (asked as x = some true)
def opnB (as : List An) (s : Sh) : Bool := match s with
  | .col x _ => decide (asked as x = none)
  | _ => false
def cmpMay (as : List An) (a : Sh) (op : Str) (b : Sh) : T3 :=
  if (unkB as a || unkB as b) = true then ⟨false, true, false⟩ else if (opnB as a || opnB as b) = true then ⟨true, true, true⟩ else
    let fs := (rests a op b).map fun q => stl as q.1 q.2.1 q.2.2
    let m : T3 := if some false ∈ fs then ⟨true, false, false⟩ else if none ∈ fs then ⟨true, false, true⟩ else ⟨false, false, true⟩
    if op = "!=" then m.mir else m
def misMay (as : List An) (s : Sh) : T3 := match s with
  | .non => ⟨false, false, true⟩
  | .num _ => ⟨true, false, false⟩
  | .col x _ => if asked as x = some false then ⟨true, false, false⟩ else if asked as x = some true then ⟨false, false, true⟩ else ⟨true, false, true⟩
def cstMay (w : Str) : T3 := if w = "always" then ⟨false, false, true⟩ else if w = "never" then ⟨true, false, false⟩ else ⟨false, true, false⟩
mutual
def Ct.may (as : List An) : Ct → T3
  | .cmp a op b => cmpMay as a op b
  | .mis a => misMay as a
  | .cst w => cstMay w
  | .neg c => (c.may as).mir
  | .tst c w => (c.may as).tst w
  | .jn b cs => T3.jnd b (mayL as cs)
def mayL (as : List An) : List Ct → List T3
  | [] => []
  | c :: cs => c.may as :: mayL as cs
end
/-- a comparison's step -/
def stepC (a : Sh) (op : Str) (b : Sh) : D := .tup [.str "compare", a.d, .str op, b.d]
/-- dicts of the answers -/
structure ColsR (as : List An) (ks vs : List D) : Prop where
  sz : ks.length = vs.length
  keys : ∀ d ∈ ks, ∃ x, d = .str x
  len : ks.length ≤ as.length
  at_ : ∀ x, lkD ks vs (.str x) = (asked as x).map D.bl
structure ShiftsR (as : List An) (ks vs : List D) : Prop where
  sz : ks.length = vs.length
  keys : ∀ d ∈ ks, ∃ l r, d = .tup [sd l, sd r]
  len : ks.length ≤ as.length
  at_ : ∀ l r, (∃ s, lkD ks vs (.tup [sd l, sd r]) = some (.int s) ∧ ∀ s', hasB as l r s' = decide (s ≤ s')) ∨ (lkD ks vs (.tup [sd l, sd r]) = none ∧ ∀ s', hasB as l r s' = false)
def sp_law_bound : SpD := fun ds Qd _ => ∃ (d : D), ds = [d] ∧ ∃ l r s b, d = An.d (.mst l r s b) ∧ Qd (bd (bnL l r b) (bnL r l b) (bnS s b)) []
theorem len_law_bound : ∀ ds Qd Qe, sp_law_bound ds Qd Qe → ds.length = 1 := by rintro _ _ _ ⟨_, rfl, _⟩; rfl
theorem i_law_bound {d : D} {Qd : D → List D → Prop} {Qe : Exn → List D → Prop} (h : ∃ l r s b, d = An.d (.mst l r s b) ∧ Qd (bd (bnL l r b) (bnL r l b) (bnS s b)) []) : sp_law_bound [d] Qd Qe := ⟨_, rfl, h⟩
def sp_answer_bound : SpD := fun ds Qd _ => ∃ (d : D), ds = [d] ∧ ∃ l r s b, d = An.d (.mst l r s b) ∧ Qd (bd (bnL l r b) (bnL r l b) (bnS s b)) []
theorem len_answer_bound : ∀ ds Qd Qe, sp_answer_bound ds Qd Qe → ds.length = 1 := by rintro _ _ _ ⟨_, rfl, _⟩; rfl
theorem i_answer_bound {d : D} {Qd : D → List D → Prop} {Qe : Exn → List D → Prop} (h : ∃ l r s b, d = An.d (.mst l r s b) ∧ Qd (bd (bnL l r b) (bnL r l b) (bnS s b)) []) : sp_answer_bound [d] Qd Qe := ⟨_, rfl, h⟩
def sp_law_asked : SpD := fun ds Qd _ => ∃ (l : List D) (x : Str), ds = [.lst l, .str x] ∧ ∃ as, l = ans as ∧ Qd (optB (asked as x)) []
theorem len_law_asked : ∀ ds Qd Qe, sp_law_asked ds Qd Qe → ds.length = 2 := by rintro _ _ _ ⟨_, _, rfl, _⟩; rfl
theorem i_law_asked {l : List D} {x : Str} {Qd : D → List D → Prop} {Qe : Exn → List D → Prop} (h : ∃ as, l = ans as ∧ Qd (optB (asked as x)) []) : sp_law_asked [.lst l, .str x] Qd Qe := ⟨_, _, rfl, h⟩
def sp_law_settled : SpD := fun ds Qd _ => ∃ (dl dr : D) (s : Int) (l : List D), ds = [dl, dr, .int s, .lst l] ∧ ∃ as x y, dl = sd x ∧ dr = sd y ∧ l = ans as ∧ Qd (optB (stl as x y s)) []
theorem len_law_settled : ∀ ds Qd Qe, sp_law_settled ds Qd Qe → ds.length = 4 := by rintro _ _ _ ⟨_, _, _, _, rfl, _⟩; rfl
theorem i_law_settled {dl dr : D} {s : Int} {l : List D} {Qd : D → List D → Prop} {Qe : Exn → List D → Prop} (h : ∃ as x y, dl = sd x ∧ dr = sd y ∧ l = ans as ∧ Qd (optB (stl as x y s)) []) : sp_law_settled [dl, dr, .int s, .lst l] Qd Qe := ⟨_, _, _, _, rfl, h⟩
def sp_law_rests : SpD := fun ds Qd _ => ∃ (d : D), ds = [d] ∧ ∃ a op b, d = stepC a op b ∧ a ≠ .non ∧ b ≠ .non ∧ Qd (.lst (bds (rests a op b))) []
theorem len_law_rests : ∀ ds Qd Qe, sp_law_rests ds Qd Qe → ds.length = 1 := by rintro _ _ _ ⟨_, rfl, _⟩; rfl
theorem i_law_rests {d : D} {Qd : D → List D → Prop} {Qe : Exn → List D → Prop} (h : ∃ a op b, d = stepC a op b ∧ a ≠ .non ∧ b ≠ .non ∧ Qd (.lst (bds (rests a op b))) []) : sp_law_rests [d] Qd Qe := ⟨_, rfl, h⟩
def sp_bounds_of : SpD := fun ds Qd _ => ∃ (d : D), ds = [d] ∧ ∃ a op b, d = stepC a op b ∧ a ≠ .non ∧ b ≠ .non ∧ Qd (.lst (bds (rests a op b))) []
theorem len_bounds_of : ∀ ds Qd Qe, sp_bounds_of ds Qd Qe → ds.length = 1 := by rintro _ _ _ ⟨_, rfl, _⟩; rfl
theorem i_bounds_of {d : D} {Qd : D → List D → Prop} {Qe : Exn → List D → Prop} (h : ∃ a op b, d = stepC a op b ∧ a ≠ .non ∧ b ≠ .non ∧ Qd (.lst (bds (rests a op b))) []) : sp_bounds_of [d] Qd Qe := ⟨_, rfl, h⟩
def sp_law_compare_may : SpD := fun ds Qd _ => ∃ (d : D) (l : List D), ds = [d, .lst l] ∧ ∃ a op b as, d = stepC a op b ∧ l = ans as ∧ Qd (T3.d (cmpMay as a op b)) []
theorem len_law_compare_may : ∀ ds Qd Qe, sp_law_compare_may ds Qd Qe → ds.length = 2 := by rintro _ _ _ ⟨_, _, rfl, _⟩; rfl
theorem i_law_compare_may {d : D} {l : List D} {Qd : D → List D → Prop} {Qe : Exn → List D → Prop} (h : ∃ a op b as, d = stepC a op b ∧ l = ans as ∧ Qd (T3.d (cmpMay as a op b)) []) : sp_law_compare_may [d, .lst l] Qd Qe := ⟨_, _, rfl, h⟩
def sp_law_leaf_may : SpD := fun ds Qd _ => ∃ (d : D) (l : List D), ds = [d, .lst l] ∧ ∃ (t : Ct) (as : List An) (ys : List Str), [d] = t.steps ∧ t.Ok ys ∧ t.size = 1 ∧ l = ans as ∧ Qd (T3.d (t.may as)) []
theorem len_law_leaf_may : ∀ ds Qd Qe, sp_law_leaf_may ds Qd Qe → ds.length = 2 := by rintro _ _ _ ⟨_, _, rfl, _⟩; rfl
theorem i_law_leaf_may {d : D} {l : List D} {Qd : D → List D → Prop} {Qe : Exn → List D → Prop} (h : ∃ (t : Ct) (as : List An) (ys : List Str), [d] = t.steps ∧ t.Ok ys ∧ t.size = 1 ∧ l = ans as ∧ Qd (T3.d (t.may as)) []) : sp_law_leaf_may [d, .lst l] Qd Qe := ⟨_, _, rfl, h⟩
def sp_law_both_may : SpD := fun ds Qd _ => ∃ (d e : D), ds = [d, e] ∧ ∃ x y : T3, d = x.d ∧ e = y.d ∧ Qd (x.lst y).d []
theorem len_law_both_may : ∀ ds Qd Qe, sp_law_both_may ds Qd Qe → ds.length = 2 := by rintro _ _ _ ⟨_, _, rfl, _⟩; rfl
theorem i_law_both_may {d e : D} {Qd : D → List D → Prop} {Qe : Exn → List D → Prop} (h : ∃ x y : T3, d = x.d ∧ e = y.d ∧ Qd (x.lst y).d []) : sp_law_both_may [d, e] Qd Qe := ⟨_, _, rfl, h⟩
def sp_law_joined_may : SpD := fun ds Qd _ => ∃ (w : Str) (l : List D), ds = [.str w, .lst l] ∧ ∃ b xs, w = jnW b ∧ l = xs.map T3.d ∧ Qd (T3.jnd b xs).d []
theorem len_law_joined_may : ∀ ds Qd Qe, sp_law_joined_may ds Qd Qe → ds.length = 2 := by rintro _ _ _ ⟨_, _, rfl, _⟩; rfl
theorem i_law_joined_may {w : Str} {l : List D} {Qd : D → List D → Prop} {Qe : Exn → List D → Prop} (h : ∃ b xs, w = jnW b ∧ l = xs.map T3.d ∧ Qd (T3.jnd b xs).d []) : sp_law_joined_may [.str w, .lst l] Qd Qe := ⟨_, _, rfl, h⟩
def sp_law_possible : SpD := fun ds Qd _ => ∃ (l m : List D), ds = [.lst l, .lst m] ∧ ∃ (t : Ct) (as : List An) (ys : List Str), l = t.steps ∧ t.Ok ys ∧ t.size ≤ 1000 ∧ m = ans as ∧ Qd (t.may as).d []
theorem len_law_possible : ∀ ds Qd Qe, sp_law_possible ds Qd Qe → ds.length = 2 := by rintro _ _ _ ⟨_, _, rfl, _⟩; rfl
theorem i_law_possible {l m : List D} {Qd : D → List D → Prop} {Qe : Exn → List D → Prop} (h : ∃ (t : Ct) (as : List An) (ys : List Str), l = t.steps ∧ t.Ok ys ∧ t.size ≤ 1000 ∧ m = ans as ∧ Qd (t.may as).d []) : sp_law_possible [.lst l, .lst m] Qd Qe := ⟨_, _, rfl, h⟩
def sp_read_answers : SpD := fun ds Qd _ => ∃ (l : List D), ds = [.lst l] ∧ ∃ as, l = ans as ∧ Uq as ∧ as.length ≤ 1000 ∧ ∀ ck cv sk sv, ColsR as ck cv → ShiftsR as sk sv → Qd (.tup [.dct ck cv, .dct sk sv]) []
theorem len_read_answers : ∀ ds Qd Qe, sp_read_answers ds Qd Qe → ds.length = 1 := by rintro _ _ _ ⟨_, rfl, _⟩; rfl
theorem i_read_answers {l : List D} {Qd : D → List D → Prop} {Qe : Exn → List D → Prop} (h : ∃ as, l = ans as ∧ Uq as ∧ as.length ≤ 1000 ∧ ∀ ck cv sk sv, ColsR as ck cv → ShiftsR as sk sv → Qd (.tup [.dct ck cv, .dct sk sv]) []) : sp_read_answers [.lst l] Qd Qe := ⟨_, rfl, h⟩
def sp_step_shapes : SpD := fun ds Qd _ => ∃ (d : D), ds = [d] ∧ ((∃ a op b, d = stepC a op b ∧ Qd (.tup [a.d, b.d]) []) ∨ (∃ a, d = .tup [.str "missing", Sh.d a] ∧ Qd (.tup [a.d]) []) ∨ ∃ w r, d = .tup (.str w :: r) ∧ w ≠ "compare" ∧ w ≠ "missing" ∧ Qd (.tup []) [])
theorem len_step_shapes : ∀ ds Qd Qe, sp_step_shapes ds Qd Qe → ds.length = 1 := by rintro _ _ _ ⟨_, rfl, _⟩; rfl
theorem i_step_shapes {d : D} {Qd : D → List D → Prop} {Qe : Exn → List D → Prop} (h : ((∃ a op b, d = stepC a op b ∧ Qd (.tup [a.d, b.d]) []) ∨ (∃ a, d = .tup [.str "missing", Sh.d a] ∧ Qd (.tup [a.d]) []) ∨ ∃ w r, d = .tup (.str w :: r) ∧ w ≠ "compare" ∧ w ≠ "missing" ∧ Qd (.tup []) [])) : sp_step_shapes [d] Qd Qe := ⟨_, rfl, h⟩
def sp_settled : SpD := fun ds Qd _ => ∃ (dl dr : D) (s : Int) (k v : List D), ds = [.tup [dl, dr, .int s], .dct k v] ∧ ∃ as x y, dl = sd x ∧ dr = sd y ∧ ShiftsR as k v ∧ Qd (.int (match stl as x y s with | some true => 4 | some false => 1 | none => 5)) []
theorem len_settled : ∀ ds Qd Qe, sp_settled ds Qd Qe → ds.length = 2 := by rintro _ _ _ ⟨_, _, _, _, _, rfl, _⟩; rfl
theorem i_settled {dl dr : D} {s : Int} {k v : List D} {Qd : D → List D → Prop} {Qe : Exn → List D → Prop} (h : ∃ as x y, dl = sd x ∧ dr = sd y ∧ ShiftsR as k v ∧ Qd (.int (match stl as x y s with | some true => 4 | some false => 1 | none => 5)) []) : sp_settled [.tup [dl, dr, .int s], .dct k v] Qd Qe := ⟨_, _, _, _, _, rfl, h⟩
def sp_mirrored : SpD := fun ds Qd _ => ∃ (n : Int), ds = [.int n] ∧ ∃ x : T3, n = x.n ∧ Qd (.int x.mir.n) []
theorem len_mirrored : ∀ ds Qd Qe, sp_mirrored ds Qd Qe → ds.length = 1 := by rintro _ _ _ ⟨_, rfl, _⟩; rfl
theorem i_mirrored {n : Int} {Qd : D → List D → Prop} {Qe : Exn → List D → Prop} (h : ∃ x : T3, n = x.n ∧ Qd (.int x.mir.n) []) : sp_mirrored [.int n] Qd Qe := ⟨_, rfl, h⟩
def sp_compare_truths : SpD := fun ds Qd _ => ∃ (d : D) (ck cv sk sv : List D), ds = [d, .dct ck cv, .dct sk sv] ∧ ∃ a op b as, d = stepC a op b ∧ ColsR as ck cv ∧ ShiftsR as sk sv ∧ Qd (.int (cmpMay as a op b).n) []
theorem len_compare_truths : ∀ ds Qd Qe, sp_compare_truths ds Qd Qe → ds.length = 3 := by rintro _ _ _ ⟨_, _, _, _, _, rfl, _⟩; rfl
theorem i_compare_truths {d : D} {ck cv sk sv : List D} {Qd : D → List D → Prop} {Qe : Exn → List D → Prop} (h : ∃ a op b as, d = stepC a op b ∧ ColsR as ck cv ∧ ShiftsR as sk sv ∧ Qd (.int (cmpMay as a op b).n) []) : sp_compare_truths [d, .dct ck cv, .dct sk sv] Qd Qe := ⟨_, _, _, _, _, rfl, h⟩
def sp_leaf_truths : SpD := fun ds Qd _ => ∃ (d : D) (ck cv sk sv : List D), ds = [d, .dct ck cv, .dct sk sv] ∧ ∃ (t : Ct) (as : List An) (ys : List Str), [d] = t.steps ∧ t.Ok ys ∧ t.size = 1 ∧ ColsR as ck cv ∧ ShiftsR as sk sv ∧ Qd (.int (t.may as).n) []
theorem len_leaf_truths : ∀ ds Qd Qe, sp_leaf_truths ds Qd Qe → ds.length = 3 := by rintro _ _ _ ⟨_, _, _, _, _, rfl, _⟩; rfl
theorem i_leaf_truths {d : D} {ck cv sk sv : List D} {Qd : D → List D → Prop} {Qe : Exn → List D → Prop} (h : ∃ (t : Ct) (as : List An) (ys : List Str), [d] = t.steps ∧ t.Ok ys ∧ t.size = 1 ∧ ColsR as ck cv ∧ ShiftsR as sk sv ∧ Qd (.int (t.may as).n) []) : sp_leaf_truths [d, .dct ck cv, .dct sk sv] Qd Qe := ⟨_, _, _, _, _, rfl, h⟩
def sp_least_of : SpD := fun ds Qd _ => ∃ (m n : Int), ds = [.int m, .int n] ∧ ∃ x y : T3, m = x.n ∧ n = y.n ∧ Qd (.int (x.lst y).n) []
theorem len_least_of : ∀ ds Qd Qe, sp_least_of ds Qd Qe → ds.length = 2 := by rintro _ _ _ ⟨_, _, rfl, _⟩; rfl
theorem i_least_of {m n : Int} {Qd : D → List D → Prop} {Qe : Exn → List D → Prop} (h : ∃ x y : T3, m = x.n ∧ n = y.n ∧ Qd (.int (x.lst y).n) []) : sp_least_of [.int m, .int n] Qd Qe := ⟨_, _, rfl, h⟩
def t3ns (xs : List T3) : List D := xs.map fun x => .int x.n
def sp_joined_truths_n : Nat → SpD
  | 0 => fun _ _ _ => False
  | n + 1 => fun ds Qd _ => ∃ (b : Bool) (xs : List T3), ds = [.str (jnW b), .lst (t3ns xs)] ∧ (b = false → 1 ≤ n) ∧ xs.length ≤ 1000 ∧ Qd (.int (T3.jnd b xs).n) []
def sp_joined_truths : SpD := sp_joined_truths_n 2
theorem len_joined_truths_n : ∀ n ds Qd Qe, sp_joined_truths_n n ds Qd Qe → ds.length = 2
  | _ + 1, _, _, _, h => by obtain ⟨_, _, rfl, _⟩ := h; rfl
def sp_tested_truths : SpD := fun ds Qd _ => ∃ (n : Int) (w : Str), ds = [.int n, .str w] ∧ ∃ x : T3, n = x.n ∧ w ∈ wrdL ∧ Qd (.int (x.tst w).n) []
theorem len_tested_truths : ∀ ds Qd Qe, sp_tested_truths ds Qd Qe → ds.length = 2 := by rintro _ _ _ ⟨_, _, rfl, _⟩; rfl
theorem i_tested_truths {n : Int} {w : Str} {Qd : D → List D → Prop} {Qe : Exn → List D → Prop} (h : ∃ x : T3, n = x.n ∧ w ∈ wrdL ∧ Qd (.int (x.tst w).n) []) : sp_tested_truths [.int n, .str w] Qd Qe := ⟨_, _, rfl, h⟩
/-- what stands on survey's stack -/
def svs (l : List D) (xs : List T3) : Prop := ∃ ps : List Int, ps.length = xs.length ∧ l = List.zipWith (fun x p => D.tup [.int (T3.n x), .int p]) xs ps
def sp_first_open : SpD := fun ds Qd _ => ∃ (n : Int) (l : List D), ds = [.int n, .lst l] ∧ ∃ xs, svs l xs ∧ ∀ p : Int, Qd (.int p) []
theorem len_first_open : ∀ ds Qd Qe, sp_first_open ds Qd Qe → ds.length = 2 := by rintro _ _ _ ⟨_, _, rfl, _⟩; rfl
theorem i_first_open {n : Int} {l : List D} {Qd : D → List D → Prop} {Qe : Exn → List D → Prop} (h : ∃ xs, svs l xs ∧ ∀ p : Int, Qd (.int p) []) : sp_first_open [.int n, .lst l] Qd Qe := ⟨_, _, rfl, h⟩
def sp_survey : SpD := fun ds Qd _ => ∃ (l m : List D), ds = [.tup l, .lst m] ∧ ∃ (t : Ct) (as : List An) (ys : List Str), l = t.steps ∧ t.Ok ys ∧ t.size ≤ 1000 ∧ m = ans as ∧ Uq as ∧ as.length ≤ 1000 ∧ ∀ p : Int, Qd (.tup [.int (t.may as).n, .int p]) []
theorem len_survey : ∀ ds Qd Qe, sp_survey ds Qd Qe → ds.length = 2 := by rintro _ _ _ ⟨_, _, rfl, _⟩; rfl
theorem i_survey {l m : List D} {Qd : D → List D → Prop} {Qe : Exn → List D → Prop} (h : ∃ (t : Ct) (as : List An) (ys : List Str), l = t.steps ∧ t.Ok ys ∧ t.size ≤ 1000 ∧ m = ans as ∧ Uq as ∧ as.length ≤ 1000 ∧ ∀ p : Int, Qd (.tup [.int (t.may as).n, .int p]) []) : sp_survey [.tup l, .lst m] Qd Qe := ⟨_, _, rfl, h⟩
def sp_possible_truths : SpD := fun ds Qd _ => ∃ (l m : List D), ds = [cond l, .lst m] ∧ ∃ (t : Ct) (as : List An) (ys : List Str), l = t.steps ∧ t.Ok ys ∧ t.size ≤ 1000 ∧ m = ans as ∧ Uq as ∧ as.length ≤ 1000 ∧ Qd (.tup (txs (t.may as).words)) []
theorem len_possible_truths : ∀ ds Qd Qe, sp_possible_truths ds Qd Qe → ds.length = 2 := by rintro _ _ _ ⟨_, _, rfl, _⟩; rfl
theorem i_possible_truths {l m : List D} {Qd : D → List D → Prop} {Qe : Exn → List D → Prop} (h : ∃ (t : Ct) (as : List An) (ys : List Str), l = t.steps ∧ t.Ok ys ∧ t.size ≤ 1000 ∧ m = ans as ∧ Uq as ∧ as.length ≤ 1000 ∧ Qd (.tup (txs (t.may as).words)) []) : sp_possible_truths [cond l, .lst m] Qd Qe := ⟨_, _, rfl, h⟩
/-- sides: None and names -/
def sds (l : List (Option Str)) : List D := l.map sd
end DL

namespace DL
open PySem L2

def i_WORDS : List Str := ["false", "unknown", "true"]
/-- _law_rests(step); names 0:step 1:left 2:right 3:by -/
def b_law_rests : TDS :=
 (dSeq (dSet 1 (dOp ixD (dVar 0) (dC (.int 1)))) (dSeq (dSet 2 (dOp ixD (dVar 0) (dC (.int 3)))) (dSeq (dSet 3 (dOp subD (dOp ixD (dVar 2) (dC (.int 1))) (dOp ixD (dVar 1) (dC (.int 1))))) (dSeq (dIfS (dTest (dOp eqD (dOp ixD (dVar 0) (dC (.int 2))) (dC (.str "<=")))) (dRet (dLst (dCons (dTup (dCons (dOp ixD (dVar 1) (dC (.int 0))) (dCons (dOp ixD (dVar 2) (dC (.int 0))) (dCons (dVar 3) dNil)))) dNil))) dNext) (dSeq (dIfS (dTest (dOp eqD (dOp ixD (dVar 0) (dC (.int 2))) (dC (.str "<")))) (dRet (dLst (dCons (dTup (dCons (dOp ixD (dVar 1) (dC (.int 0))) (dCons (dOp ixD (dVar 2) (dC (.int 0))) (dCons (dOp subD (dVar 3) (dC (.int 1))) dNil)))) dNil))) dNext) (dSeq (dIfS (dTest (dOp eqD (dOp ixD (dVar 0) (dC (.int 2))) (dC (.str ">=")))) (dRet (dLst (dCons (dTup (dCons (dOp ixD (dVar 2) (dC (.int 0))) (dCons (dOp ixD (dVar 1) (dC (.int 0))) (dCons (dOp subD (dC (.int 0)) (dVar 3)) dNil)))) dNil))) dNext) (dSeq (dIfS (dTest (dOp eqD (dOp ixD (dVar 0) (dC (.int 2))) (dC (.str ">")))) (dRet (dLst (dCons (dTup (dCons (dOp ixD (dVar 2) (dC (.int 0))) (dCons (dOp ixD (dVar 1) (dC (.int 0))) (dCons (dOp subD (dOp subD (dC (.int 0)) (dVar 3)) (dC (.int 1))) dNil)))) dNil))) dNext) (dRet (dLst (dCons (dTup (dCons (dOp ixD (dVar 1) (dC (.int 0))) (dCons (dOp ixD (dVar 2) (dC (.int 0))) (dCons (dVar 3) dNil)))) (dCons (dTup (dCons (dOp ixD (dVar 2) (dC (.int 0))) (dCons (dOp ixD (dVar 1) (dC (.int 0))) (dCons (dOp subD (dC (.int 0)) (dVar 3)) dNil)))) dNil)))))))))))

/-- _law_both_may(one, other); names 0:one 1:other 2:unknown -/
def b_law_both_may : TDS :=
 (dSeq (dSet 2 (dOrV (dAndV (dOp ixD (dVar 0) (dC (.int 1))) (dOrV (dOp ixD (dVar 1) (dC (.int 1))) (dOp ixD (dVar 1) (dC (.int 2))))) (dAndV (dOp ixD (dVar 1) (dC (.int 1))) (dOrV (dOp ixD (dVar 0) (dC (.int 1))) (dOp ixD (dVar 0) (dC (.int 2))))))) (dRet (dLst (dCons (dOrV (dOp ixD (dVar 0) (dC (.int 0))) (dOp ixD (dVar 1) (dC (.int 0)))) (dCons (dVar 2) (dCons (dAndV (dOp ixD (dVar 0) (dC (.int 2))) (dOp ixD (dVar 1) (dC (.int 2)))) dNil))))))

def b_law_joined_may_1 : TDS :=
 (dIfS (dTest (dOp eqD (dVar 0) (dC (.str "both")))) (dSet 2 (dCall sp_law_both_may (dCons (dVar 2) (dCons (dVar 3) dNil)))) (dSet 2 (dCall sp_law_both_may (dCons (dVar 2) (dCons (dLst (dCons (dOp ixD (dVar 3) (dC (.int 2))) (dCons (dOp ixD (dVar 3) (dC (.int 1))) (dCons (dOp ixD (dVar 3) (dC (.int 0))) dNil)))) dNil)))))

/-- _law_joined_may(word, parts); names 0:word 1:parts 2:found 3:part -/
def b_law_joined_may : TDS :=
 (dSeq (dSet 2 (dLst (dCons (dC (.bl false)) (dCons (dC (.bl false)) (dCons (dC (.bl true)) dNil))))) (dSeq (dFor (diSeq (dVar 1)) (dgName 3) b_law_joined_may_1) (dSeq (dIfS (dTest (dOp eqD (dVar 0) (dC (.str "both")))) (dRet (dVar 2)) dNext) (dRet (dLst (dCons (dOp ixD (dVar 2) (dC (.int 2))) (dCons (dOp ixD (dVar 2) (dC (.int 1))) (dCons (dOp ixD (dVar 2) (dC (.int 0))) dNil))))))))

def b_law_asked_1 : TDS :=
 (dIfS (dAnd (dTest (dOp eqD (dOp ixD (dVar 2) (dC (.int 0))) (dC (.str "unknown")))) (dTest (dOp eqD (dOp ixD (dVar 2) (dC (.int 1))) (dVar 1)))) (dRet (dOp ixD (dVar 2) (dC (.int 2)))) dNext)

/-- _law_asked(answers, column); names 0:answers 1:column 2:answer -/
def b_law_asked : TDS :=
 (dSeq (dFor (diSeq (dVar 0)) (dgName 2) b_law_asked_1) (dRet (dC .non)))

/-- _law_bound(answer); names 0:answer -/
def b_law_bound : TDS :=
 (dSeq (dIfS (dTru (dOp ixD (dVar 0) (dC (.int 4)))) (dRet (dTup (dCons (dOp ixD (dVar 0) (dC (.int 1))) (dCons (dOp ixD (dVar 0) (dC (.int 2))) (dCons (dOp ixD (dVar 0) (dC (.int 3))) dNil))))) dNext) (dRet (dTup (dCons (dOp ixD (dVar 0) (dC (.int 2))) (dCons (dOp ixD (dVar 0) (dC (.int 1))) (dCons (dOp subD (dOp subD (dC (.int 0)) (dOp ixD (dVar 0) (dC (.int 3)))) (dC (.int 1))) dNil))))))

def b_law_settled_1 : TDS :=
 (dIfS (dTest (dOp eqD (dOp ixD (dVar 5) (dC (.int 0))) (dC (.str "most")))) (dSeq (dSet 6 (dCall sp_law_bound (dCons (dVar 5) dNil))) (dSeq (dIfS (dAnd (dTest (dOp eqD (dOp ixD (dVar 6) (dC (.int 0))) (dVar 0))) (dAnd (dTest (dOp eqD (dOp ixD (dVar 6) (dC (.int 1))) (dVar 1))) (dTest (dOp leD (dOp ixD (dVar 6) (dC (.int 2))) (dVar 2))))) (dRet (dC (.bl true))) dNext) (dIfS (dAnd (dTest (dOp eqD (dOp ixD (dVar 6) (dC (.int 0))) (dVar 1))) (dAnd (dTest (dOp eqD (dOp ixD (dVar 6) (dC (.int 1))) (dVar 0))) (dTest (dOp leD (dOp ixD (dVar 6) (dC (.int 2))) (dOp subD (dOp subD (dC (.int 0)) (dVar 2)) (dC (.int 1))))))) (dSet 4 (dC (.bl true))) dNext))) dNext)

/-- _law_settled(left, right, shift, answers); names 0:left 1:right 2:shift 3:answers 4:opposite 5:answer 6:bound -/
def b_law_settled : TDS :=
 (dSeq (dIfS (dTest (dOp eqD (dVar 0) (dVar 1))) (dRet (dOp geD (dVar 2) (dC (.int 0)))) dNext) (dSeq (dSet 4 (dC (.bl false))) (dSeq (dFor (diSeq (dVar 3)) (dgName 5) b_law_settled_1) (dSeq (dIfS (dTru (dVar 4)) (dRet (dC (.bl false))) dNext) (dRet (dC .non))))))

def b_law_compare_may_1 : TDS :=
 (dSeq (dIfS (dTest (dOp (isD false) (dVar 3) (dC .non))) (dRet (dLst (dCons (dC (.bl false)) (dCons (dC (.bl true)) (dCons (dC (.bl false)) dNil))))) dNext) (dIfS (dTest (dOp (isD true) (dOp ixD (dVar 3) (dC (.int 0))) (dC .non))) (dSeq (dIfS (dTest (dOp (isD false) (dCall sp_law_asked (dCons (dVar 1) (dCons (dOp ixD (dVar 3) (dC (.int 0))) dNil))) (dC (.bl true)))) (dRet (dLst (dCons (dC (.bl false)) (dCons (dC (.bl true)) (dCons (dC (.bl false)) dNil))))) dNext) (dIfS (dTest (dOp (isD false) (dCall sp_law_asked (dCons (dVar 1) (dCons (dOp ixD (dVar 3) (dC (.int 0))) dNil))) (dC .non))) (dSet 2 (dC (.bl false))) dNext)) dNext))

def b_law_compare_may_2 : TDS :=
 (dIfS (dTest (dOp (inD false) (dC (.bl false)) (dVar 4))) (dSet 5 (dLst (dCons (dC (.bl true)) (dCons (dC (.bl false)) (dCons (dC (.bl false)) dNil))))) (dIfS (dTest (dOp (inD true) (dC .non) (dVar 4))) (dSet 5 (dLst (dCons (dC (.bl false)) (dCons (dC (.bl false)) (dCons (dC (.bl true)) dNil))))) dNext))

/-- _law_compare_may(step, answers); names 0:step 1:answers 2:known 3:shape 4:found 5:may 6:bound -/
def b_law_compare_may : TDS :=
 (dSeq (dSet 2 (dC (.bl true))) (dSeq (dFor (diSeq (dLst (dCons (dOp ixD (dVar 0) (dC (.int 1))) (dCons (dOp ixD (dVar 0) (dC (.int 3))) dNil)))) (dgName 3) b_law_compare_may_1) (dSeq (dIfS (dNot (dTru (dVar 2))) (dRet (dLst (dCons (dC (.bl true)) (dCons (dC (.bl true)) (dCons (dC (.bl true)) dNil))))) dNext) (dSeq (dSet 4 (dLc [6] (diSeq (dCall sp_law_rests (dCons (dVar 0) dNil))) (dgName 6) dYes (dCall sp_law_settled (dCons (dOp ixD (dVar 6) (dC (.int 0))) (dCons (dOp ixD (dVar 6) (dC (.int 1))) (dCons (dOp ixD (dVar 6) (dC (.int 2))) (dCons (dVar 1) dNil))))))) (dSeq (dSet 5 (dLst (dCons (dC (.bl true)) (dCons (dC (.bl false)) (dCons (dC (.bl true)) dNil))))) (dSeq b_law_compare_may_2 (dSeq (dIfS (dTest (dOp eqD (dOp ixD (dVar 0) (dC (.int 2))) (dC (.str "!=")))) (dRet (dLst (dCons (dOp ixD (dVar 5) (dC (.int 2))) (dCons (dC (.bl false)) (dCons (dOp ixD (dVar 5) (dC (.int 0))) dNil))))) dNext) (dRet (dVar 5)))))))))

/-- _law_leaf_may(step, answers); names 0:step 1:answers -/
def b_law_leaf_may : TDS :=
 (dSeq (dIfS (dTest (dOp eqD (dOp ixD (dVar 0) (dC (.int 0))) (dC (.str "compare")))) (dRet (dCall sp_law_compare_may (dCons (dVar 0) (dCons (dVar 1) dNil)))) dNext) (dSeq (dIfS (dTest (dOp eqD (dOp ixD (dVar 0) (dC (.int 0))) (dC (.str "always")))) (dRet (dLst (dCons (dC (.bl false)) (dCons (dC (.bl false)) (dCons (dC (.bl true)) dNil))))) dNext) (dSeq (dIfS (dTest (dOp eqD (dOp ixD (dVar 0) (dC (.int 0))) (dC (.str "never")))) (dRet (dLst (dCons (dC (.bl true)) (dCons (dC (.bl false)) (dCons (dC (.bl false)) dNil))))) dNext) (dSeq (dIfS (dTest (dOp eqD (dOp ixD (dVar 0) (dC (.int 0))) (dC (.str "maybe")))) (dRet (dLst (dCons (dC (.bl false)) (dCons (dC (.bl true)) (dCons (dC (.bl false)) dNil))))) dNext) (dSeq (dIfS (dTest (dOp (isD false) (dOp ixD (dVar 0) (dC (.int 1))) (dC .non))) (dRet (dLst (dCons (dC (.bl false)) (dCons (dC (.bl false)) (dCons (dC (.bl true)) dNil))))) dNext) (dSeq (dIfS (dOr (dTest (dOp (isD false) (dOp ixD (dOp ixD (dVar 0) (dC (.int 1))) (dC (.int 0))) (dC .non))) (dTest (dOp (isD false) (dCall sp_law_asked (dCons (dVar 1) (dCons (dOp ixD (dOp ixD (dVar 0) (dC (.int 1))) (dC (.int 0))) dNil))) (dC (.bl false))))) (dRet (dLst (dCons (dC (.bl true)) (dCons (dC (.bl false)) (dCons (dC (.bl false)) dNil))))) dNext) (dSeq (dIfS (dTest (dOp (isD false) (dCall sp_law_asked (dCons (dVar 1) (dCons (dOp ixD (dOp ixD (dVar 0) (dC (.int 1))) (dC (.int 0))) dNil))) (dC (.bl true)))) (dRet (dLst (dCons (dC (.bl false)) (dCons (dC (.bl false)) (dCons (dC (.bl true)) dNil))))) dNext) (dRet (dLst (dCons (dC (.bl true)) (dCons (dC (.bl false)) (dCons (dC (.bl true)) dNil))))))))))))

def b_law_possible_1 : TDS :=
 (dIfS (dTest (dOp eqD (dOp ixD (dVar 4) (dC (.int 0))) (dC (.str "not")))) (dSeq (dSet 5 (dLM 3 popM dNil)) (dDrop (dLM 3 appM (dCons (dLst (dCons (dOp ixD (dVar 5) (dC (.int 2))) (dCons (dOp ixD (dVar 5) (dC (.int 1))) (dCons (dOp ixD (dVar 5) (dC (.int 0))) dNil)))) dNil)))) (dIfS (dTest (dOp eqD (dOp ixD (dVar 4) (dC (.int 0))) (dC (.str "test")))) (dSeq (dSet 5 (dLM 3 popM dNil)) (dSeq (dSet 6 (dLix (dVar 2) (dOp ixD (dVar 4) (dC (.int 1))))) (dSeq (dSet 7 (dLc [9] (diRng1 (dCons (dC (.int 3)) dNil)) (dgName 9) (dTest (dOp neD (dVar 9) (dVar 6))) (dOp ixD (dVar 5) (dVar 9)))) (dDrop (dLM 3 appM (dCons (dLst (dCons (dOrV (dOp ixD (dVar 7) (dC (.int 0))) (dOp ixD (dVar 7) (dC (.int 1)))) (dCons (dC (.bl false)) (dCons (dOp ixD (dVar 5) (dVar 6)) dNil)))) dNil)))))) (dIfS (dOr (dTest (dOp eqD (dOp ixD (dVar 4) (dC (.int 0))) (dC (.str "both")))) (dTest (dOp eqD (dOp ixD (dVar 4) (dC (.int 0))) (dC (.str "either"))))) (dSeq (dSet 8 (dSlV 3 (dSomeP (dOp subD (dLenV 3) (dOp ixD (dVar 4) (dC (.int 1))))) dNoP)) (dSeq (dSetO 3 (dSlV 3 dNoP (dSomeP (dOp subD (dLenV 3) (dOp ixD (dVar 4) (dC (.int 1))))))) (dDrop (dLM 3 appM (dCons (dCall sp_law_joined_may (dCons (dOp ixD (dVar 4) (dC (.int 0))) (dCons (dVar 8) dNil))) dNil))))) (dDrop (dLM 3 appM (dCons (dCall sp_law_leaf_may (dCons (dVar 4) (dCons (dVar 1) dNil))) dNil))))))

/-- _law_possible(steps, answers); names 0:steps 1:answers 2:words 3:stack 4:step 5:part 6:at 7:others 8:parts 9:k -/
def b_law_possible : TDS :=
 (dSeq (dSet 2 (dLst (dCons (dC (.str "false")) (dCons (dC (.str "unknown")) (dCons (dC (.str "true")) dNil))))) (dSeq (dSetO 3 (dLst dNil)) (dSeq (dFor (diSeq (dVar 0)) (dgName 4) b_law_possible_1) (dRet (dIxV 3 (dC (.int 0)))))))

/-- answer_bound(answer); names 0:answer 1:left 2:right 3:shift -/
def b_answer_bound : TDS :=
 (dSeq (dPar3 1 2 3 (dCons (dOp ixD (dVar 0) (dC (.int 1))) (dCons (dOp ixD (dVar 0) (dC (.int 2))) (dCons (dOp ixD (dVar 0) (dC (.int 3))) dNil)))) (dSeq (dIfS (dTru (dOp ixD (dVar 0) (dC (.int 4)))) (dRet (dTup (dCons (dVar 1) (dCons (dVar 2) (dCons (dVar 3) dNil))))) dNext) (dRet (dTup (dCons (dVar 2) (dCons (dVar 1) (dCons (dOp subD (dUn negD (dVar 3)) (dC (.int 1))) dNil)))))))

def b_read_answers_1 : TDS :=
 (dIfS (dTest (dOp eqD (dOp ixD (dVar 3) (dC (.int 0))) (dC (.str "unknown")))) (dStore 1 (dOp ixD (dVar 3) (dC (.int 1))) (dOp ixD (dVar 3) (dC (.int 2)))) (dSeq (dAsg (dCall sp_answer_bound (dCons (dVar 3) dNil)) (dgTup 3 (dgCons (dgName 4) (dgCons (dgName 5) (dgCons (dgName 6) dgNil))))) (dIfS (dOr (dTest (dInV true 2 (dTup (dCons (dVar 4) (dCons (dVar 5) dNil))))) (dTest (dOp ltD (dVar 6) (dIxV 2 (dTup (dCons (dVar 4) (dCons (dVar 5) dNil))))))) (dStore 2 (dTup (dCons (dVar 4) (dCons (dVar 5) dNil))) (dVar 6)) dNext)))

/-- read_answers(answers); names 0:answers 1:columns 2:shifts 3:answer 4:left 5:right 6:shift -/
def b_read_answers : TDS :=
 (dSeq (dSetO 1 dNewD) (dSeq (dSetO 2 dNewD) (dSeq (dFor (diSeq (dVar 0)) (dgName 3) b_read_answers_1) (dRet (dTup (dCons (dVar 1) (dCons (dVar 2) dNil)))))))

/-- step_shapes(step); names 0:step -/
def b_step_shapes : TDS :=
 (dSeq (dIfS (dTest (dOp eqD (dOp ixD (dVar 0) (dC (.int 0))) (dC (.str "compare")))) (dRet (dTup (dCons (dOp ixD (dVar 0) (dC (.int 1))) (dCons (dOp ixD (dVar 0) (dC (.int 3))) dNil)))) dNext) (dSeq (dIfS (dTest (dOp eqD (dOp ixD (dVar 0) (dC (.int 0))) (dC (.str "missing")))) (dRet (dTup (dCons (dOp ixD (dVar 0) (dC (.int 1))) dNil))) dNext) (dRet (dTup dNil))))

/-- bounds_of(step); names 0:step 1:left 2:op 3:right 4:shift -/
def b_bounds_of : TDS :=
 (dSeq (dPar3 1 2 3 (dCons (dOp ixD (dVar 0) (dC (.int 1))) (dCons (dOp ixD (dVar 0) (dC (.int 2))) (dCons (dOp ixD (dVar 0) (dC (.int 3))) dNil)))) (dSeq (dSet 4 (dOp subD (dOp ixD (dVar 3) (dC (.int 1))) (dOp ixD (dVar 1) (dC (.int 1))))) (dSeq (dIfS (dTest (dOp eqD (dVar 2) (dC (.str "<=")))) (dRet (dLst (dCons (dTup (dCons (dOp ixD (dVar 1) (dC (.int 0))) (dCons (dOp ixD (dVar 3) (dC (.int 0))) (dCons (dVar 4) dNil)))) dNil))) dNext) (dSeq (dIfS (dTest (dOp eqD (dVar 2) (dC (.str "<")))) (dRet (dLst (dCons (dTup (dCons (dOp ixD (dVar 1) (dC (.int 0))) (dCons (dOp ixD (dVar 3) (dC (.int 0))) (dCons (dOp subD (dVar 4) (dC (.int 1))) dNil)))) dNil))) dNext) (dSeq (dIfS (dTest (dOp eqD (dVar 2) (dC (.str ">=")))) (dRet (dLst (dCons (dTup (dCons (dOp ixD (dVar 3) (dC (.int 0))) (dCons (dOp ixD (dVar 1) (dC (.int 0))) (dCons (dUn negD (dVar 4)) dNil)))) dNil))) dNext) (dSeq (dIfS (dTest (dOp eqD (dVar 2) (dC (.str ">")))) (dRet (dLst (dCons (dTup (dCons (dOp ixD (dVar 3) (dC (.int 0))) (dCons (dOp ixD (dVar 1) (dC (.int 0))) (dCons (dOp subD (dUn negD (dVar 4)) (dC (.int 1))) dNil)))) dNil))) dNext) (dRet (dLst (dCons (dTup (dCons (dOp ixD (dVar 1) (dC (.int 0))) (dCons (dOp ixD (dVar 3) (dC (.int 0))) (dCons (dVar 4) dNil)))) (dCons (dTup (dCons (dOp ixD (dVar 3) (dC (.int 0))) (dCons (dOp ixD (dVar 1) (dC (.int 0))) (dCons (dUn negD (dVar 4)) dNil)))) dNil))))))))))

/-- settled(bound, shifts); names 0:bound 1:shifts 2:left 3:right 4:shift -/
def b_settled : TDS :=
 (dSeq (dAsg (dVar 0) (dgTup 3 (dgCons (dgName 2) (dgCons (dgName 3) (dgCons (dgName 4) dgNil))))) (dSeq (dIfS (dTest (dOp eqD (dVar 2) (dVar 3))) (dSeq (dIfS (dTest (dOp leD (dC (.int 0)) (dVar 4))) (dRet (dC (.int 4))) dNext) (dRet (dC (.int 1)))) dNext) (dSeq (dIfS (dAnd (dTest (dOp (inD false) (dTup (dCons (dVar 2) (dCons (dVar 3) dNil))) (dVar 1))) (dTest (dOp leD (dOp ixD (dVar 1) (dTup (dCons (dVar 2) (dCons (dVar 3) dNil)))) (dVar 4)))) (dRet (dC (.int 4))) dNext) (dSeq (dIfS (dAnd (dTest (dOp (inD false) (dTup (dCons (dVar 3) (dCons (dVar 2) dNil))) (dVar 1))) (dTest (dOp leD (dOp ixD (dVar 1) (dTup (dCons (dVar 3) (dCons (dVar 2) dNil)))) (dOp subD (dUn negD (dVar 4)) (dC (.int 1)))))) (dRet (dC (.int 1))) dNext) (dRet (dC (.int 5)))))))

/-- mirrored(truths); names 0:truths -/
def b_mirrored : TDS :=
 (dRet (dOp addD (dOp addD (dOp andD (dVar 0) (dC (.int 2))) (dOp mulD (dOp andD (dVar 0) (dC (.int 1))) (dC (.int 4)))) (dOp divD (dOp andD (dVar 0) (dC (.int 4))) (dC (.int 4)))))

def b_compare_truths_1 : TDS :=
 (dIfS (dOr (dTest (dOp (isD false) (dVar 3) (dC .non))) (dTest (dOp (isD false) (dGet1 (dVar 1) (dOp ixD (dVar 3) (dC (.int 0)))) (dC (.bl true))))) (dRet (dC (.int 2))) dNext)

def b_compare_truths_2 : TDS :=
 (dIfS (dAnd (dTest (dOp (isD true) (dOp ixD (dVar 3) (dC (.int 0))) (dC .non))) (dTest (dOp (inD true) (dOp ixD (dVar 3) (dC (.int 0))) (dVar 1)))) (dRet (dC (.int 7))) dNext)

def b_compare_truths_3 : TDS :=
 (dIfS (dTru (dBlt allD (dCons (dLc [7] (diSeq (dVar 4)) (dgName 7) dYes (dOp eqD (dVar 7) (dC (.int 4)))) dNil))) (dSet 5 (dC (.int 4))) (dIfS (dTest (dOp (inD false) (dC (.int 1)) (dVar 4))) (dSet 5 (dC (.int 1))) dNext))

/-- compare_truths(step, columns, shifts); names 0:step 1:columns 2:shifts 3:shape 4:found 5:truths 6:bound 7:one -/
def b_compare_truths : TDS :=
 (dSeq (dFor (diSeq (dCall sp_step_shapes (dCons (dVar 0) dNil))) (dgName 3) b_compare_truths_1) (dSeq (dFor (diSeq (dCall sp_step_shapes (dCons (dVar 0) dNil))) (dgName 3) b_compare_truths_2) (dSeq (dSet 4 (dLc [6] (diSeq (dCall sp_bounds_of (dCons (dVar 0) dNil))) (dgName 6) dYes (dCall sp_settled (dCons (dVar 6) (dCons (dVar 2) dNil))))) (dSeq (dSet 5 (dC (.int 5))) (dSeq b_compare_truths_3 (dSeq (dIfS (dTest (dOp eqD (dOp ixD (dVar 0) (dC (.int 2))) (dC (.str "!=")))) (dRet (dCall sp_mirrored (dCons (dVar 5) dNil))) dNext) (dRet (dVar 5))))))))

/-- leaf_truths(step, columns, shifts); names 0:step 1:columns 2:shifts 3:shape -/
def b_leaf_truths : TDS :=
 (dSeq (dIfS (dTest (dOp eqD (dOp ixD (dVar 0) (dC (.int 0))) (dC (.str "compare")))) (dRet (dCall sp_compare_truths (dCons (dVar 0) (dCons (dVar 1) (dCons (dVar 2) dNil))))) dNext) (dSeq (dIfS (dTest (dOp eqD (dOp ixD (dVar 0) (dC (.int 0))) (dC (.str "missing")))) (dSeq (dSet 3 (dOp ixD (dVar 0) (dC (.int 1)))) (dSeq (dIfS (dTest (dOp (isD false) (dVar 3) (dC .non))) (dRet (dC (.int 4))) dNext) (dSeq (dIfS (dOr (dTest (dOp (isD false) (dOp ixD (dVar 3) (dC (.int 0))) (dC .non))) (dTest (dOp (isD false) (dGet1 (dVar 1) (dOp ixD (dVar 3) (dC (.int 0)))) (dC (.bl false))))) (dRet (dC (.int 1))) dNext) (dSeq (dIfS (dTest (dOp (isD false) (dGet1 (dVar 1) (dOp ixD (dVar 3) (dC (.int 0)))) (dC (.bl true)))) (dRet (dC (.int 4))) dNext) (dRet (dC (.int 5))))))) dNext) (dRet (dOp ixD (dDisp [("always", (dC (.int 4))), ("never", (dC (.int 1))), ("maybe", (dC (.int 2)))]) (dOp ixD (dVar 0) (dC (.int 0)))))))

def b_tested_truths_1 : TDS :=
 (dIfS (dTru (dOp andD (dVar 0) (dVar 2))) (dSet 3 (dC (.int 4))) dNext)

def b_tested_truths_2 : TDS :=
 (dIfS (dTru (dOp andD (dVar 0) (dOp subD (dC (.int 7)) (dVar 2)))) (dSet 3 (dOp addD (dVar 3) (dC (.int 1)))) dNext)

/-- tested_truths(truths, word); names 0:truths 1:word 2:wanted 3:found -/
def b_tested_truths : TDS :=
 (dSeq (dSet 2 (dOp ixD (dTup (dCons (dC (.int 1)) (dCons (dC (.int 2)) (dCons (dC (.int 4)) dNil)))) (dTupIx i_WORDS (dVar 1)))) (dSeq (dSet 3 (dC (.int 0))) (dSeq b_tested_truths_1 (dSeq b_tested_truths_2 (dRet (dVar 3))))))

def b_least_of_1 : TDS :=
 (dIfS (dOr (dAnd (dTru (dOp andD (dVar 0) (dC (.int 2)))) (dTest (dOp gtD (dVar 1) (dC (.int 1))))) (dAnd (dTru (dOp andD (dVar 1) (dC (.int 2)))) (dTest (dOp gtD (dVar 0) (dC (.int 1)))))) (dSet 2 (dOp addD (dVar 2) (dC (.int 2)))) dNext)

/-- least_of(one, other); names 0:one 1:other 2:found -/
def b_least_of : TDS :=
 (dSeq (dSet 2 (dOp andD (dOp orD (dVar 0) (dVar 1)) (dC (.int 1)))) (dSeq b_least_of_1 (dRet (dOp addD (dVar 2) (dOp andD (dOp andD (dVar 0) (dVar 1)) (dC (.int 4)))))))

def b_joined_truths_1 (sr : SpD) : TDS :=
 (dSet 2 (dCall sp_least_of (dCons (dVar 2) (dCons (dVar 3) dNil))))

/-- joined_truths(word, parts); names 0:word 1:parts 2:found 3:part -/
def b_joined_truths (sr : SpD) : TDS :=
 (dSeq (dIfS (dTest (dOp eqD (dVar 0) (dC (.str "either")))) (dRet (dCall sp_mirrored (dCons (dCall sr (dCons (dC (.str "both")) (dCons (dLc [3] (diSeq (dVar 1)) (dgName 3) dYes (dCall sp_mirrored (dCons (dVar 3) dNil))) dNil))) dNil))) dNext) (dSeq (dSet 2 (dC (.int 4))) (dSeq (dFor (diSeq (dVar 1)) (dgName 3) (b_joined_truths_1 sr)) (dRet (dVar 2)))))

def b_first_open_1 : TDS :=
 (dIfS (dTest (dOp geD (dOp ixD (dVar 2) (dC (.int 1))) (dC (.int 0)))) (dRet (dOp ixD (dVar 2) (dC (.int 1)))) dNext)

/-- first_open(truths, parts); names 0:truths 1:parts 2:part -/
def b_first_open : TDS :=
 (dSeq (dIfS (dTest (dOp (inD false) (dVar 0) (dTup (dCons (dC (.int 1)) (dCons (dC (.int 2)) (dCons (dC (.int 4)) dNil)))))) (dRet (dUn negD (dC (.int 1)))) dNext) (dSeq (dFor (diSeq (dVar 1)) (dgName 2) b_first_open_1) (dRet (dUn negD (dC (.int 1))))))

def b_survey_1 : TDS :=
 (dIfS (dTest (dOp (inD false) (dOp ixD (dVar 6) (dC (.int 0))) (dTup (dCons (dC (.str "not")) (dCons (dC (.str "test")) dNil))))) (dSet 7 (dC (.int 1))) (dIfS (dTest (dOp (inD false) (dOp ixD (dVar 6) (dC (.int 0))) (dTup (dCons (dC (.str "both")) (dCons (dC (.str "either")) dNil))))) (dSet 7 (dOp ixD (dVar 6) (dC (.int 1)))) dNext))

def b_survey_2 : TDS :=
 (dIfS (dTest (dOp (inD false) (dVar 9) (dTup (dCons (dC (.int 1)) (dCons (dC (.int 2)) (dCons (dC (.int 4)) dNil)))))) (dSet 10 (dUn negD (dC (.int 1)))) dNext)

def b_survey_3 : TDS :=
 (dIfS (dTest (dOp eqD (dOp ixD (dVar 6) (dC (.int 0))) (dC (.str "not")))) (dSet 9 (dCall sp_mirrored (dCons (dOp ixD (dOp ixD (dVar 8) (dC (.int 0))) (dC (.int 0))) dNil))) (dIfS (dTest (dOp eqD (dOp ixD (dVar 6) (dC (.int 0))) (dC (.str "test")))) (dSet 9 (dCall sp_tested_truths (dCons (dOp ixD (dOp ixD (dVar 8) (dC (.int 0))) (dC (.int 0))) (dCons (dOp ixD (dVar 6) (dC (.int 1))) dNil)))) (dSet 9 (dCall sp_joined_truths (dCons (dOp ixD (dVar 6) (dC (.int 0))) (dCons (dLc [11] (diSeq (dVar 8)) (dgName 11) dYes (dOp ixD (dVar 11) (dC (.int 0)))) dNil))))))

def b_survey_4 : TDS :=
 (dSeq (dSet 6 (dOp ixD (dVar 0) (dVar 5))) (dSeq (dSet 7 (dC (.int 0))) (dSeq b_survey_1 (dSeq (dSet 8 (dSlV 4 (dSomeP (dOp subD (dLenV 4) (dVar 7))) dNoP)) (dSeq (dSetO 4 (dSlV 4 dNoP (dSomeP (dOp subD (dLenV 4) (dVar 7))))) (dSeq (dIfS (dTest (dOp eqD (dVar 7) (dC (.int 0)))) (dSeq (dSet 9 (dCall sp_leaf_truths (dCons (dVar 6) (dCons (dVar 2) (dCons (dVar 3) dNil))))) (dSeq (dSet 10 (dVar 5)) (dSeq b_survey_2 (dSeq (dDrop (dLM 4 appM (dCons (dTup (dCons (dVar 9) (dCons (dVar 10) dNil))) dNil))) dCont)))) dNext) (dSeq b_survey_3 (dDrop (dLM 4 appM (dCons (dTup (dCons (dVar 9) (dCons (dCall sp_first_open (dCons (dVar 9) (dCons (dVar 8) dNil))) dNil))) dNil))))))))))

/-- survey(steps, answers); names 0:steps 1:answers 2:columns 3:shifts 4:stack 5:at 6:step 7:count 8:parts 9:truths 10:place 11:part -/
def b_survey : TDS :=
 (dSeq (dAsg (dCall sp_read_answers (dCons (dVar 1) dNil)) (dgTup 2 (dgCons (dgName 2) (dgCons (dgName 3) dgNil)))) (dSeq (dSetO 4 (dLst dNil)) (dSeq (dFor (diRng1 (dCons (dBlt lenD (dCons (dVar 0) dNil)) dNil)) (dgName 5) b_survey_4) (dRet (dIxV 4 (dC (.int 0)))))))

/-- possible_truths(condition, answers); names 0:condition 1:answers 2:truths 3:at -/
def b_possible_truths : TDS :=
 (dSeq (dSet 2 (dOp ixD (dCall sp_survey (dCons (dFld ["Condition"] "steps" (dVar 0)) (dCons (dVar 1) dNil))) (dC (.int 0)))) (dRet (dBlt tupleD (dCons (dLc [3] (diRng1 (dCons (dC (.int 3)) dNil)) (dgName 3) (dTru (dOp andD (dVar 2) (dOp ixD (dTup (dCons (dC (.int 1)) (dCons (dC (.int 2)) (dCons (dC (.int 4)) dNil)))) (dVar 3)))) (dOp ixD (dC c_WORDS) (dVar 3))) dNil))))
end DL

namespace DL
open PySem L2

@[simp ↓] theorem r_eqSd {n : Bool} {l r : Option Str} {Q : D → Prop} : eqBD n (sd l) (sd r) Q = Q (.bl (decide (l = r) != n)) := by
  cases l <;> cases r <;> simp [sd]
@[simp] theorem isNon_sd {l : Option Str} : isNon (sd l) = l.isNone := by cases l <;> rfl
theorem sd_inj {l r : Option Str} : sd l = sd r ↔ l = r := by cases l <;> cases r <;> simp [sd]
@[simp ↓ high] theorem u_law_bound' {l r : Option Str} {s : Int} {b : Bool} {Qd : D → List D → Prop} {Qe : Exn → List D → Prop} : sp_law_bound [.tup [.str "most", sd l, sd r, .int s, .bl b]] Qd Qe = Qd (bd (bnL l r b) (bnL r l b) (bnS s b)) [] := by
  refine propext ⟨?_, fun h => ⟨_, rfl, l, r, s, b, rfl, h⟩⟩
  rintro ⟨d, h, l', r', s', b', rfl, q⟩
  simp [An.d, sd_inj] at h
  obtain ⟨rfl, rfl, rfl, rfl⟩ := h
  exact q
@[simp ↓ high] theorem u_answer_bound' {l r : Option Str} {s : Int} {b : Bool} {Qd : D → List D → Prop} {Qe : Exn → List D → Prop} : sp_answer_bound [.tup [.str "most", sd l, sd r, .int s, .bl b]] Qd Qe = Qd (bd (bnL l r b) (bnL r l b) (bnS s b)) [] := by
  refine propext ⟨?_, fun h => ⟨_, rfl, l, r, s, b, rfl, h⟩⟩
  rintro ⟨d, h, l', r', s', b', rfl, q⟩
  simp [An.d, sd_inj] at h
  obtain ⟨rfl, rfl, rfl, rfl⟩ := h
  exact q
theorem rd_law_bound : ∀ ds Qd Qe, sp_law_bound ds Qd Qe → b_law_bound (endsD [] Qd Qe) (startE 1 [] ds) := by
  rintro ds Qd Qe ⟨d, rfl, l, r, s, b, rfl, h⟩
  cases b <;> simp [b_law_bound, startE, An.d] <;> simpa [bd, bnL, bnS] using h
theorem rd_answer_bound : ∀ ds Qd Qe, sp_answer_bound ds Qd Qe → b_answer_bound (endsD [] Qd Qe) (startE 4 [] ds) := by
  rintro ds Qd Qe ⟨d, rfl, l, r, s, b, rfl, h⟩
  cases b <;> simp [b_answer_bound, startE, An.d] <;> simpa [bd, bnL, bnS] using h
theorem lp_asked {B : DEnds} {e0 : Option Ent} {x : Str} : ∀ (as : List An) (e2 : Option Ent), (asked as x = none → ∀ e2, B.nx [e0, some (.fz (.str x)), e2]) → (∀ b e2, asked as x = some b → B.fr = false ∧ B.rt (.bl b) [e0, some (.fz (.str x)), e2]) →
    loopD (dgName 2) b_law_asked_1 B (ans as) [e0, some (.fz (.str x)), e2]
  | [], e2, h, _ => h rfl e2
  | .mst l r s b :: as, e2, h, h' => by
    have ih := lp_asked as (some (.fz (An.d (.mst l r s b)))) h h'
    simp [ans, loopD, b_law_asked_1, An.d]
    exact ih
  | .unk y b :: as, e2, h, h' => by
    by_cases e : y = x
    · have h' := h' b (some (.fz (An.d (.unk y b)))) (by simp [asked, e])
      simp [ans, loopD, b_law_asked_1, An.d, e]
      simpa [An.d, e] using h'
    · have ea : asked (.unk y b :: as) x = asked as x := by simp [asked, e]
      rw [ea] at h h'
      have ih := lp_asked as (some (.fz (An.d (.unk y b)))) h h'
      simp [ans, loopD, b_law_asked_1, An.d, e]
      exact ih
theorem rd_law_asked : ∀ ds Qd Qe, sp_law_asked ds Qd Qe → b_law_asked (endsD [] Qd Qe) (startE 3 [] ds) := by
  rintro ds Qd Qe ⟨l, x, rfl, as, rfl, h⟩
  simp [b_law_asked, startE]
  refine lp_asked as none (fun e e2 => ?_) fun b e2 e => ?_
  · rw [e] at h
    simpa [optB] using h
  · rw [e] at h
    simpa [optB] using h
theorem lp_settled {B : DEnds} {e3 : Option Ent} {l r : Option Str} {s : Int} : ∀ (as : List An) (o : Bool) (e5 e6 : Option Ent),
    (hasB as l r s = false → ∀ e5 e6, B.nx [some (.fz (sd l)), some (.fz (sd r)), some (.fz (.int s)), e3, some (.fz (.bl (o || hasB as r l (-s - 1)))), e5, e6]) → (hasB as l r s = true → B.fr = false ∧ ∀ e4 e5 e6, B.rt (.bl true) [some (.fz (sd l)), some (.fz (sd r)), some (.fz (.int s)), e3, e4, e5, e6]) →
    loopD (dgName 5) b_law_settled_1 B (ans as) [some (.fz (sd l)), some (.fz (sd r)), some (.fz (.int s)), e3, some (.fz (.bl o)), e5, e6]
  | [], o, e5, e6, h, _ => by
    have h := h rfl e5 e6
    simpa [hasB, ans, loopD] using h
  | .unk y b :: as, o, e5, e6, h, h' => by
    have ih := lp_settled as o (some (.fz (An.d (.unk y b)))) e6 h h'
    simp [ans, loopD, b_law_settled_1, An.d]
    exact ih
  | .mst l' r' s' b :: as, o, e5, e6, h, h' => by
    have ih := fun o' e6 => lp_settled (B := B) (e3 := e3) (l := l) (r := r) (s := s) as o' (some (.fz (An.d (.mst l' r' s' b)))) e6
    simp [ans, loopD, b_law_settled_1, An.d]
    simp [bd]
    have hc : hasB (.mst l' r' s' b :: as) l r s = ((decide (bnL l' r' b = l) && decide (bnL r' l' b = r) && decide (bnS s' b ≤ s)) || hasB as l r s) := rfl
    have tail : ∀ o', (decide (bnL l' r' b = l) && decide (bnL r' l' b = r) && decide (bnS s' b ≤ s)) = false → o' = (o || (decide (bnL l' r' b = r) && decide (bnL r' l' b = l) && decide (bnS s' b ≤ -s - 1))) → loopD (dgName 5) b_law_settled_1 B (ans as) [some (.fz (sd l)), some (.fz (sd r)), some (.fz (.int s)), e3, some (.fz (.bl o')), some (.fz (An.d (.mst l' r' s' b))), some (.fz (bd (bnL l' r' b) (bnL r' l' b) (bnS s' b)))] := by
      rintro o' c1 rfl
      have hh : hasB (.mst l' r' s' b :: as) l r s = hasB as l r s := by rw [hc, c1, Bool.false_or]
      refine ih _ _ (fun e e5 e6 => ?_) fun e => ?_
      · have h := h (by rw [hh]; exact e) e5 e6
        simp only [hasB] at h
        rw [Bool.or_assoc]
        exact h
      · exact h' (by rw [hh]; exact e)
    repeat' split
    all_goals first
      | (have q : hasB (.mst l' r' s' b :: as) l r s = true := by grind
         exact ⟨(h' q).1, (h' q).2 _ _ _⟩)
      | exact tail true (by grind) (by grind)
      | exact tail o (by grind) (by grind)

theorem rd_law_settled : ∀ ds Qd Qe, sp_law_settled ds Qd Qe → b_law_settled (endsD [] Qd Qe) (startE 7 [] ds) := by
  rintro ds Qd Qe ⟨dl, dr, s, l, rfl, as, x, y, rfl, rfl, rfl, h⟩
  simp [b_law_settled, startE]
  split
  · rename_i e
    simpa [stl, e, optB] using h
  · rename_i e
    refine lp_settled as false none none (fun e1 e5 e6 => ?_) fun e1 => ⟨rfl, fun e4 e5 e6 => ?_⟩
    · simp [stl, e, e1] at h
      cases e2 : hasB as y x (-s - 1) <;> rw [e2] at h <;> simpa [optB] using h
    · simpa [stl, e, e1, optB] using h
theorem shd {a : Sh} (h : a ≠ .non) : a.d = .tup [sd a.side, .int a.sh] := by
  cases a with
  | non => exact absurd rfl h
  | num n => rfl
  | col x n => rfl
theorem rd_law_rests : ∀ ds Qd Qe, sp_law_rests ds Qd Qe → b_law_rests (endsD [] Qd Qe) (startE 4 [] ds) := by
  rintro ds Qd Qe ⟨d, rfl, a, op, b, rfl, ha, hb, h⟩
  simp [b_law_rests, startE, stepC, shd ha, shd hb]
  unfold rests at h
  repeat' split
  all_goals (rename_i e; simp_all [bds, bd])
theorem rd_bounds_of : ∀ ds Qd Qe, sp_bounds_of ds Qd Qe → b_bounds_of (endsD [] Qd Qe) (startE 5 [] ds) := by
  rintro ds Qd Qe ⟨d, rfl, a, op, b, rfl, ha, hb, h⟩
  simp [b_bounds_of, startE, stepC, shd ha, shd hb]
  unfold rests at h
  repeat' split
  all_goals (rename_i e; simp_all [bds, bd])
theorem rd_law_both_may : ∀ ds Qd Qe, sp_law_both_may ds Qd Qe → b_law_both_may (endsD [] Qd Qe) (startE 3 [] ds) := by
  rintro ds Qd Qe ⟨d, e, rfl, ⟨f, u, t⟩, ⟨f', u', t'⟩, rfl, rfl, h⟩
  cases f <;> cases u <;> cases t <;> cases f' <;> cases u' <;> cases t' <;> simpa [b_law_both_may, startE, T3.d, T3.lst] using h
theorem u_both_may {x y : T3} {Qd : D → List D → Prop} {Qe : Exn → List D → Prop} (h : Qd (x.lst y).d []) : sp_law_both_may [x.d, y.d] Qd Qe := ⟨_, _, rfl, x, y, rfl, rfl, h⟩
theorem mir_mir (x : T3) : x.mir.mir = x := rfl
theorem lp_joined_may {B : DEnds} {b : Bool} {e1 : Option Ent} : ∀ (xs : List T3) (x : T3) (e3 : Option Ent), (∀ e3, B.nx [some (.fz (.str (jnW b))), e1, some (.fz (T3.d (x.bth (if b then xs else xs.map T3.mir)))), e3]) →
    loopD (dgName 3) b_law_joined_may_1 B (xs.map T3.d) [some (.fz (.str (jnW b))), e1, some (.fz x.d), e3]
  | [], x, e3, h => by
    have h := h e3
    cases b <;> simpa [loopD, T3.bth] using h
  | y :: xs, x, e3, h => by
    have ih := lp_joined_may (B := B) (b := b) (e1 := e1) xs (x.lst (if b then y else y.mir)) (some (.fz y.d)) (fun e3 => by
      have h := h e3
      cases b <;> simpa [T3.bth] using h)
    cases b with
    | true =>
      simp [loopD, b_law_joined_may_1, jnW]
      exact i_law_both_may ⟨x, y, rfl, rfl, ih⟩
    | false =>
      simp [loopD, b_law_joined_may_1, jnW]
      have e : y.d = .lst [.bl y.f, .bl y.u, .bl y.t] := rfl
      rw [e]
      simp
      exact i_law_both_may ⟨x, y.mir, rfl, rfl, ih⟩
theorem rd_law_joined_may : ∀ ds Qd Qe, sp_law_joined_may ds Qd Qe → b_law_joined_may (endsD [] Qd Qe) (startE 4 [] ds) := by
  rintro ds Qd Qe ⟨w, l, rfl, b, xs, rfl, rfl, h⟩
  simp [b_law_joined_may, startE]
  have e : D.lst [D.bl false, D.bl false, D.bl true] = T3.d ⟨false, false, true⟩ := rfl
  rw [e]
  refine lp_joined_may xs _ none fun e3 => ?_
  cases b with
  | true => simpa [jnW, T3.jnd] using h
  | false => simpa [jnW, T3.jnd, T3.d, T3.mir] using h
end DL

namespace DL
open PySem L2

/-! ### compare, the law's -/
/-- one shape, as the law's loop sees it -/
theorem st_compare_may {B : DEnds} {as : List An} {e0 e4 e5 e6 : Option Ent} {k : Bool} (s : Sh)
    (h1 : unkB as s = true → ∀ e2 e3, B.fr = false ∧ B.rt (.lst [.bl false, .bl true, .bl false]) [e0, some (.fz (.lst (ans as))), e2, e3, e4, e5, e6])
    (h2 : unkB as s = false → ∀ e3, B.nx [e0, some (.fz (.lst (ans as))), some (.fz (.bl (k && !opnB as s))), e3, e4, e5, e6]) :
    b_law_compare_may_1 B [e0, some (.fz (.lst (ans as))), some (.fz (.bl k)), some (.fz s.d), e4, e5, e6] := by
  cases s with
  | non =>
    simp [b_law_compare_may_1, Sh.d]
    exact h1 rfl _ _
  | num n =>
    have h2 := h2 rfl (some (.fz (Sh.num n).d))
    simp [b_law_compare_may_1, Sh.d, isNon]
    simpa [opnB, Sh.d] using h2
  | col x n =>
    simp [b_law_compare_may_1, Sh.d, isNon]
    refine i_law_asked ⟨as, rfl, ?_⟩
    cases e : asked as x with
    | none =>
      have h2 := h2 (by simp [unkB, e]) (some (.fz (Sh.col x n).d))
      simp [optB, isBl]
      refine i_law_asked ⟨as, rfl, ?_⟩
      simp [e, optB]
      simpa [opnB, Sh.d, e] using h2
    | some b =>
      cases b with
      | true =>
        simp [optB, isBl]
        exact h1 (by simp [unkB, e]) _ _
      | false =>
        have h2 := h2 (by simp [unkB, e]) (some (.fz (Sh.col x n).d))
        simp [optB, isBl]
        refine i_law_asked ⟨as, rfl, ?_⟩
        simp [e, optB, isNon]
        simpa [opnB, Sh.d, e] using h2
def obs (l : List (Option Bool)) : List D := l.map optB
theorem lc_settled {as : List An} {e0 e2 e3 e4 e5 : Option Ent} {Q : List D → En → Prop} : ∀ (bs : List (Option Str × Option Str × Int)) (acc : List (Option Bool)) (e6 : Option Ent), acc.length + bs.length < 1000 →
    (∀ e6, Q (obs (acc ++ bs.map fun q => stl as q.1 q.2.1 q.2.2)) [e0, some (.fz (.lst (ans as))), e2, e3, e4, e5, e6]) →
    lcD [6] (dgName 6) dYes (dCall sp_law_settled (dCons (dOp ixD (dVar 6) (dC (.int 0))) (dCons (dOp ixD (dVar 6) (dC (.int 1))) (dCons (dOp ixD (dVar 6) (dC (.int 2))) (dCons (dVar 1) dNil))))) (bds bs) (obs acc) [e0, some (.fz (.lst (ans as))), e2, e3, e4, e5, e6] Q
  | [], acc, e6, hn, h => by
    have h := h e6
    simpa [bds, lcD] using h
  | (l, r, s) :: bs, acc, e6, hn, h => by
    rw [List.length_cons] at hn
    have ih := lc_settled (as := as) (e0 := e0) (e2 := e2) (e3 := e3) (e4 := e4) (e5 := e5) (Q := Q) bs (acc ++ [stl as l r s]) (some (.fz (bd l r s))) (by simp; omega) (fun e6 => by
      have h := h e6
      rw [List.append_assoc]
      exact h)
    have la : (obs acc).length < 16777216 := by simp [obs]; omega
    simp [bds, lcD, wipeE, bd]
    refine i_law_settled ⟨as, l, r, rfl, rfl, rfl, ?_⟩
    try simp
    refine ⟨la, ?_⟩
    have e : obs acc ++ [optB (stl as l r s)] = obs (acc ++ [stl as l r s]) := by simp [obs]
    rw [e]
    exact ih
theorem in_obs_false (l : List (Option Bool)) : inFD (.bl false) (obs l) = decide (some false ∈ l) := by
  induction l with
  | nil => rfl
  | cons x l ih =>
    unfold inFD obs at ih ⊢
    rw [List.map_cons, List.any_cons, ih]
    cases x with
    | none => simp [eqFD, optB]
    | some b => cases b <;> simp [eqFD, optB]
theorem in_obs_none (l : List (Option Bool)) : inFD .non (obs l) = decide (none ∈ l) := by
  induction l with
  | nil => rfl
  | cons x l ih =>
    unfold inFD obs at ih ⊢
    rw [List.map_cons, List.any_cons, ih]
    cases x with
    | none => simp [eqFD, optB]
    | some b => cases b <;> simp [eqFD, optB]
theorem flat_obs (l : List (Option Bool)) : (obs l).all flatD = true := by
  induction l with
  | nil => rfl
  | cons x l ih =>
    unfold obs at ih ⊢
    rw [List.map_cons, List.all_cons, ih]
    cases x <;> rfl
theorem rests_len (a : Sh) (op : Str) (b : Sh) : (rests a op b).length ≤ 2 := by
  unfold rests
  repeat' split
  all_goals simp
theorem rd_law_compare_may : ∀ ds Qd Qe, sp_law_compare_may ds Qd Qe → b_law_compare_may (endsD [] Qd Qe) (startE 7 [] ds) := by
  rintro ds Qd Qe ⟨d, l, rfl, a, op, b, as, rfl, rfl, h⟩
  simp [b_law_compare_may, startE, stepC, loopD]
  refine st_compare_may a (fun u e2 e3 => ?_) fun ua e3 => ?_
  · simpa [cmpMay, u, T3.d] using h
  simp
  refine st_compare_may b (fun u e2 e3 => ?_) fun ub e3 => ?_
  · simpa [cmpMay, u, T3.d] using h
  simp
  cases ea : opnB as a with
  | true => simpa [cmpMay, ua, ub, ea, T3.d] using h
  | false =>
    cases eb : opnB as b with
    | true => simpa [cmpMay, ua, ub, ea, eb, T3.d] using h
    | false =>
      have na : a ≠ .non := fun z => by rw [z] at ua; cases ua
      have nb : b ≠ .non := fun z => by rw [z] at ub; cases ub
      simp
      refine i_law_rests ⟨a, op, b, rfl, na, nb, ?_⟩
      simp [wipeE]
      refine lc_settled (rests a op b) [] none (by have := rests_len a op b; simp; omega) fun e6 => ?_
      rw [List.nil_append]
      simp only [cmpMay, ua, ub, ea, eb] at h
      generalize (rests a op b).map (fun q => stl as q.1 q.2.1 q.2.2) = fs at h ⊢
      simp [b_law_compare_may_2, backE, inD, flat_obs, flatD]
      simp only [in_obs_false, in_obs_none]
      by_cases c3 : op = "!=" <;> by_cases c1 : some false ∈ fs <;> by_cases c2 : none ∈ fs <;> simp [c1, c2, c3, T3.d, T3.mir] at h ⊢ <;> exact h
end DL

namespace DL
open PySem L2

theorem stepC_steps (a : Sh) (op : Str) (b : Sh) : (Ct.cmp a op b).steps = [stepC a op b] := rfl
theorem leaf_one {t : Ct} {d : D} (h : [d] = t.steps) : t.steps = [d] := h.symm
theorem rd_law_leaf_may : ∀ ds Qd Qe, sp_law_leaf_may ds Qd Qe → b_law_leaf_may (endsD [] Qd Qe) (startE 2 [] ds) := by
  rintro ds Qd Qe ⟨d, l, rfl, t, as, ys, e, ok, hz, rfl, h⟩
  rcases leaf_cases ok hz e.symm with ⟨a, op, b, rfl, rfl⟩ | ⟨a, rfl, rfl⟩ | ⟨w, rfl, rfl⟩
  · simp [b_law_leaf_may, startE]
    exact i_law_compare_may ⟨a, op, b, as, rfl, rfl, by simpa [Ct.may] using h⟩
  · simp only [Ct.may] at h
    cases a with
    | non => simpa [b_law_leaf_may, startE, Sh.d, misMay, T3.d] using h
    | num n => simpa [b_law_leaf_may, startE, Sh.d, misMay, T3.d, isNon] using h
    | col x n =>
      simp [b_law_leaf_may, startE, Sh.d, isNon]
      refine i_law_asked ⟨as, rfl, ?_⟩
      cases e : asked as x with
      | none =>
        simp [optB, isBl]
        refine i_law_asked ⟨as, rfl, ?_⟩
        simpa [misMay, e, T3.d, optB, isBl] using h
      | some b =>
        cases b with
        | true =>
          simp [optB, isBl]
          refine i_law_asked ⟨as, rfl, ?_⟩
          simpa [misMay, e, T3.d, optB, isBl] using h
        | false => simpa [misMay, e, T3.d, optB, isBl] using h
  · simp only [Ct.may] at h
    rcases cst_cases ok with rfl | rfl | rfl <;> simpa [b_law_leaf_may, startE, cstMay, T3.d] using h
theorem mayL_map {as : List An} : ∀ cs : List Ct, mayL as cs = cs.map (Ct.may as)
  | [] => rfl
  | c :: cs => by simp [mayL, mayL_map cs]
theorem t3_snoc (xs : List T3) (x : T3) : (xs ++ [x]).map T3.d = xs.map T3.d ++ [x.d] := by simp
/-- the loop of _law_possible, by its stack -/
def runP (B : DEnds) (e0 : Option Ent) (as : List An) (rest : List D) (xs : List T3) : Prop := ∀ e4 e5 e6 e7 e8 e9, loopD (dgName 4) b_law_possible_1 B rest [e0, some (.fz (.lst (ans as))), some (.fz (.lst [.str "false", .str "unknown", .str "true"])), some (.ow false (.lst (xs.map T3.d))), e4, e5, e6, e7, e8, e9]
theorem run_possible {B : DEnds} {e0 : Option Ent} {as : List An} {ys : List Str} : StepsRun ys (Ct.may as) 1000 (runP B e0 as) where
  leaf := fun t d xs rest ok hz e hn h e4 e5 e6 e7 e8 e9 => by
    have h := h (some (.fz d)) e5 e6 e7 e8 e9
    rw [t3_snoc] at h
    have hl : xs.length < 16777216 := by omega
    rcases leaf_cases ok hz e with ⟨a, op, b, rfl, rfl⟩ | ⟨a, rfl, rfl⟩ | ⟨w, rfl, rfl⟩
    · simp [loopD, b_law_possible_1]
      refine i_law_leaf_may ⟨.cmp a op b, as, ys, rfl, ok, rfl, rfl, ?_⟩
      simp [hl]
      exact h
    · simp [loopD, b_law_possible_1]
      refine i_law_leaf_may ⟨.mis a, as, ys, rfl, ok, rfl, rfl, ?_⟩
      simp [hl]
      exact h
    · rcases cst_cases ok with rfl | rfl | rfl
      · simp [loopD, b_law_possible_1]
        refine i_law_leaf_may ⟨.cst "always", as, ys, rfl, ok, rfl, rfl, ?_⟩
        simp [hl]
        exact h
      · simp [loopD, b_law_possible_1]
        refine i_law_leaf_may ⟨.cst "never", as, ys, rfl, ok, rfl, rfl, ?_⟩
        simp [hl]
        exact h
      · simp [loopD, b_law_possible_1]
        refine i_law_leaf_may ⟨.cst "maybe", as, ys, rfl, ok, rfl, rfl, ?_⟩
        simp [hl]
        exact h
  neg := fun c xs rest ok hn h e4 e5 e6 e7 e8 e9 => by
    have hl : xs.length < 16777216 := by omega
    have h := h (some (.fz (.tup [.str "not"]))) (some (.fz (c.may as).d)) e6 e7 e8 e9
    simp only [Ct.may, t3_snoc] at h
    simp [loopD, b_law_possible_1]
    have e : (c.may as).d = .lst [.bl (c.may as).f, .bl (c.may as).u, .bl (c.may as).t] := rfl
    rw [e]
    simp [hl]
    exact h
  tst := fun c w xs rest ok hw hn h e4 e5 e6 e7 e8 e9 => by
    have hl : xs.length < 16777216 := by omega
    unfold runP at h
    simp only [Ct.may, t3_snoc] at h ⊢
    generalize c.may as = x at h ⊢
    obtain ⟨f, u, t⟩ := x
    rcases wrd_cases hw with rfl | rfl | rfl
    · simp only [T3.tst, T3.d, if_true] at h
      simp [loopD, b_law_possible_1, flatD, T3.d]
      refine ⟨0, .str "false", rfl, rfl, fun m e' hm => absurd hm (Nat.not_lt_zero _), ?_⟩
      simp [lcD, wipeE, rangeD, backE, List.range, List.range.loop]
      simp [hl]
      cases u <;> simp <;> exact h _ _ _ _ _ _
    · have n1 : ¬ (("unknown" : Str) = "false") := by decide
      simp only [T3.tst, T3.d, n1, if_false, if_true] at h
      simp [loopD, b_law_possible_1, flatD, T3.d]
      refine ⟨1, .str "unknown", rfl, rfl, fun m e' hm he => ?_, ?_⟩
      · have : m = 0 := by omega
        subst this
        cases he
        rfl
      simp [lcD, wipeE, rangeD, backE, List.range, List.range.loop]
      simp [hl]
      cases f <;> simp <;> exact h _ _ _ _ _ _
    · have n1 : ¬ (("true" : Str) = "false") := by decide
      have n2 : ¬ (("true" : Str) = "unknown") := by decide
      simp only [T3.tst, T3.d, n1, n2, if_false, if_true] at h
      simp [loopD, b_law_possible_1, flatD, T3.d]
      refine ⟨2, .str "true", rfl, rfl, fun m e' hm he => ?_, ?_⟩
      · have : m = 0 ∨ m = 1 := by omega
        rcases this with rfl | rfl <;> cases he <;> rfl
      simp [lcD, wipeE, rangeD, backE, List.range, List.range.loop]
      simp [hl]
      cases f <;> simp <;> exact h _ _ _ _ _ _
  jn := fun b cs xs rest h2 h4 ok hn h e4 e5 e6 e7 e8 e9 => by
    have hl : xs.length < 16777216 := by omega
    have h := h (some (.fz (.tup [.str (jnW b), .int cs.length]))) e5 e6 e7 (some (.fz (.lst ((cs.map (Ct.may as)).map T3.d)))) e9
    have hm := mayL_map (as := as) cs
    simp only [Ct.may, t3_snoc, hm] at h
    have e : (xs ++ cs.map (Ct.may as)).map T3.d = xs.map T3.d ++ (cs.map (Ct.may as)).map T3.d := by simp
    have ct : cutD (xs.map T3.d ++ (cs.map (Ct.may as)).map T3.d) (some (xs.length : Int)) none = (cs.map (Ct.may as)).map T3.d := cut_tail (by simp)
    have ch : cutD (xs.map T3.d ++ (cs.map (Ct.may as)).map T3.d) none (some (xs.length : Int)) = xs.map T3.d := cut_head (by simp)
    rw [e]
    cases b <;> simp [loopD, b_law_possible_1, jnW] at h ⊢
    · simp at ct ch
      rw [ct, ch]
      refine i_law_joined_may ⟨false, cs.map (Ct.may as), rfl, by simp, ?_⟩
      simp [hl]
      exact h
    · simp at ct ch
      rw [ct, ch]
      refine i_law_joined_may ⟨true, cs.map (Ct.may as), rfl, by simp, ?_⟩
      simp [hl]
      exact h

theorem rd_law_possible : ∀ ds Qd Qe, sp_law_possible ds Qd Qe → b_law_possible (endsD [] Qd Qe) (startE 10 [] ds) := by
  rintro ds Qd Qe ⟨l, m, rfl, t, as, ys, rfl, ok, hz, rfl, h⟩
  simp [b_law_possible, startE]
  have e : t.steps = t.steps ++ [] := by simp
  rw [e]
  refine (run_possible (ys := ys)).go t ok [] [] (by simpa using hz) (fun e4 e5 e6 e7 e8 e9 => ?_) none none none none none none
  simpa [loopD] using h
theorem lc_words {x : T3} {e0 e1 : Option Ent} {Q : List D → En → Prop} (h : ∀ e4, Q (txs x.words) [e0, e1, some (.fz (.lst [.str "false", .str "unknown", .str "true"])), some (.fz x.d), e4]) :
    lcD [4] (dgName 4) (dTru (dOp ixD (dVar 3) (dVar 4))) (dOp ixD (dVar 2) (dVar 4)) (rangeD 0 3) [] [e0, e1, some (.fz (.lst [.str "false", .str "unknown", .str "true"])), some (.fz x.d), none] Q := by
  obtain ⟨f, u, t⟩ := x
  simp only [T3.d] at h ⊢
  simp [lcD, wipeE, rangeD, List.range, List.range.loop]
  cases f <;> cases u <;> cases t <;> simp <;> exact h _
theorem words_len (x : T3) : x.words.length ≤ 3 := by
  obtain ⟨f, u, t⟩ := x
  cases f <;> cases u <;> cases t <;> decide
end DL

namespace DL
open PySem L2

/-! ### the program's: answers read -/
@[simp] theorem nk_str {x : Str} : nkD (.str x) = some (.text x) := rfl
@[simp] theorem nk_non : nkD .non = some .none := rfl
@[simp] theorem nk_int {i : Int} : nkD (.int i) = some (.num i) := rfl
theorem nk_sd {l : Option Str} : nkD (sd l) = some (match l with | none => .none | some x => .text x) := by cases l <;> rfl
theorem nk_pair {l r : Option Str} : nkD (.tup [sd l, sd r]) = some (.tup [match l with | none => .none | some x => .text x, match r with | none => .none | some x => .text x]) := by
  unfold nkD nkL nkL nkL
  rw [nk_sd, nk_sd]
  rfl
theorem pair_eq {l r l' r' : Option Str} : (nkD (.tup [sd l, sd r]) = nkD (.tup [sd l', sd r'])) ↔ (l = l' ∧ r = r') := by
  rw [nk_pair, nk_pair]
  cases l <;> cases r <;> cases l' <;> cases r' <;> simp
theorem tupD_pair {l r : Option Str} : tupD (.tup [sd l, sd r]) = true := by
  have e : nkL [sd l, sd r] = some [match l with | none => .none | some x => .text x, match r with | none => .none | some x => .text x] := by
    unfold nkL nkL nkL
    rw [nk_sd, nk_sd]
  simp only [tupD, e]
  cases l <;> cases r <;> rfl
theorem fit_str {ks : List D} {x : Str} (h : ∀ d ∈ ks, ∃ x, d = .str x) : fitD ks (.str x) = true := by
  have : ks.all mixD = true := List.all_eq_true.mpr fun d m => by
    obtain ⟨y, rfl⟩ := h d m
    rfl
  simp [fitD, mixD, this]
theorem fit_non {ks : List D} (h : ∀ d ∈ ks, ∃ x, d = .str x) : fitD ks .non = true := by
  have : ks.all leafD = true := List.all_eq_true.mpr fun d m => by
    obtain ⟨y, rfl⟩ := h d m
    rfl
  simp [fitD, leafD, this]
theorem fit_pair {ks : List D} {l r : Option Str} (h : ∀ d ∈ ks, ∃ l r, d = .tup [sd l, sd r]) : fitD ks (.tup [sd l, sd r]) = true := by
  have : ks.all tupD = true := List.all_eq_true.mpr fun d m => by
    obtain ⟨y, z, rfl⟩ := h d m
    exact tupD_pair
  simp [fitD, tupD_pair, this]
/-- looked up behind a store -/
theorem lk_put (x v : D) : ∀ (ks vs : List D) (y : D), ks.length = vs.length → lkD (putDk ks x) (putDv ks vs x v) y = if nkD x = nkD y then some v else lkD ks vs y
  | [], [], y, _ => by
    have e : putDk [] x = [x] := by simp [putDk, hasD]
    rw [e]
    by_cases q : nkD x = nkD y <;> simp [putDv, lkD, q]
  | [], _ :: _, _, h => by simp at h
  | _ :: _, [], _, h => by simp at h
  | k :: ks, w :: vs, y, h => by
    have ih := lk_put x v ks vs y (by simpa using h)
    by_cases e : nkD k = nkD x
    · have e1 : putDk (k :: ks) x = k :: ks := by simp [putDk, hasD, e]
      rw [e1, putDv, if_pos e, lkD, e, lkD, e]
      by_cases q : nkD x = nkD y <;> simp [q]
    · have e1 : putDk (k :: ks) x = k :: putDk ks x := by
        have : hasD (k :: ks) x = hasD ks x := by simp [hasD, e]
        unfold putDk
        rw [this]
        split <;> rfl
      rw [e1, putDv, if_neg e, lkD, lkD, ih]
      by_cases q : nkD k = nkD y
      · have : ¬ nkD x = nkD y := fun z => e (q.trans z.symm)
        simp [q, this]
      · simp [q]
theorem put_len (x v : D) : ∀ (ks vs : List D), ks.length = vs.length → (putDk ks x).length = (putDv ks vs x v).length ∧ (putDk ks x).length ≤ ks.length + 1
  | [], [], _ => by simp [putDk, hasD, putDv]
  | [], _ :: _, h => by simp at h
  | _ :: _, [], h => by simp at h
  | k :: ks, w :: vs, h => by
    have ih := put_len x v ks vs (by simpa using h)
    by_cases e : nkD k = nkD x
    · have e1 : putDk (k :: ks) x = k :: ks := by simp [putDk, hasD, e]
      rw [e1, putDv, if_pos e]
      simpa using h
    · have e1 : putDk (k :: ks) x = k :: putDk ks x := by
        have : hasD (k :: ks) x = hasD ks x := by simp [hasD, e]
        unfold putDk
        rw [this]
        split <;> rfl
      rw [e1, putDv, if_neg e]
      simpa using ih
theorem put_keys {P : D → Prop} {ks : List D} {x : D} (h : ∀ d ∈ ks, P d) (hx : P x) : ∀ d ∈ putDk ks x, P d := by
  intro d m
  unfold putDk at m
  split at m
  · exact h d m
  · rcases List.mem_append.mp m with m | m
    · exact h d m
    · rw [List.mem_singleton.mp m]; exact hx
/-- what holds of the two dicts behind so many answers -/
structure ReadR (as : List An) (ck cv sk sv : List D) : Prop where
  cl : ck.length = cv.length
  sl : sk.length = sv.length
  c : ColsR as ck cv
  s : ShiftsR as sk sv
theorem asked_append {x : Str} {b : Bool} {y : Str} : ∀ (as : List An), y ∉ cols as → asked (as ++ [.unk y b]) x = if y = x then some b else asked as x
  | [], h => by simp [asked]
  | .mst _ _ _ _ :: as, h => by
    have := asked_append (x := x) (b := b) as h
    simpa [asked] using this
  | .unk z c :: as, h => by
    simp [cols] at h
    have := asked_append (x := x) (b := b) as h.2
    by_cases e : z = x
    · subst e
      have : ¬ y = z := h.1
      simp [asked, this]
    · simp [asked, e, this]
theorem asked_mst {x : Str} {l r : Option Str} {s : Int} {b : Bool} : ∀ (as : List An), asked (as ++ [.mst l r s b]) x = asked as x
  | [] => rfl
  | .mst _ _ _ _ :: as => by simpa [asked] using asked_mst as
  | .unk z c :: as => by simp [asked, asked_mst as]
theorem hasB_append {l r : Option Str} {s : Int} : ∀ (as bs : List An), hasB (as ++ bs) l r s = (hasB as l r s || hasB bs l r s)
  | [], bs => by simp [hasB]
  | .mst _ _ _ _ :: as, bs => by simp [hasB, hasB_append as bs, Bool.or_assoc]
  | .unk _ _ :: as, bs => by simp [hasB, hasB_append as bs]
theorem readR_nil : ReadR [] [] [] [] [] := ⟨rfl, rfl, ⟨rfl, (fun _ h => nomatch h), Nat.le_refl _, fun _ => rfl⟩, ⟨rfl, (fun _ h => nomatch h), Nat.le_refl _, fun _ _ => .inr ⟨rfl, fun _ => rfl⟩⟩⟩
theorem readR_unk {as : List An} {ck cv sk sv : List D} {x : Str} {b : Bool} (h : ReadR as ck cv sk sv) (hx : x ∉ cols as) : ReadR (as ++ [.unk x b]) (putDk ck (.str x)) (putDv ck cv (.str x) (.bl b)) sk sv := by
  obtain ⟨p1, p2⟩ := put_len (.str x) (.bl b) ck cv h.cl
  refine ⟨p1, h.sl, ⟨p1, put_keys h.c.keys ⟨x, rfl⟩, by have := h.c.len; simp; omega, fun y => ?_⟩, ⟨h.sl, h.s.keys, by have := h.s.len; simp; omega, fun l r => ?_⟩⟩
  · rw [lk_put _ _ _ _ _ h.cl, asked_append as hx, h.c.at_ y]
    by_cases e : x = y <;> simp [e]
  · simpa [hasB_append, hasB] using h.s.at_ l r
theorem readR_keep {as : List An} {ck cv sk sv : List D} {l r : Option Str} {s : Int} {b : Bool} (h : ReadR as ck cv sk sv) {s0 : Int} (e : lkD sk sv (.tup [sd (bnL l r b), sd (bnL r l b)]) = some (.int s0)) (hs : s0 ≤ bnS s b) : ReadR (as ++ [.mst l r s b]) ck cv sk sv := by
  refine ⟨h.cl, h.sl, ⟨h.cl, h.c.keys, by have := h.c.len; simp; omega, fun y => by rw [asked_mst]; exact h.c.at_ y⟩, ⟨h.sl, h.s.keys, by have := h.s.len; simp; omega, fun x y => ?_⟩⟩
  rcases h.s.at_ x y with ⟨t, h1, h2⟩ | ⟨h1, h2⟩
  · refine .inl ⟨t, h1, fun s' => ?_⟩
    rw [hasB_append, h2]
    by_cases q : bnL l r b = x ∧ bnL r l b = y
    · obtain ⟨rfl, rfl⟩ := q
      rw [e] at h1
      cases h1
      simp [hasB]
      omega
    · have : hasB [.mst l r s b] x y s' = false := by
        simp [hasB]
        intro q1 q2
        exact absurd ⟨q1, q2⟩ q
      rw [this, Bool.or_false]
  · refine .inr ⟨h1, fun s' => ?_⟩
    rw [hasB_append, h2]
    have : hasB [.mst l r s b] x y s' = false := by
      simp [hasB]
      rintro rfl rfl
      rw [e] at h1
      cases h1
    rw [this]
    rfl
theorem readR_put {as : List An} {ck cv sk sv : List D} {l r : Option Str} {s : Int} {b : Bool} (h : ReadR as ck cv sk sv) (hs : ∀ s0, lkD sk sv (.tup [sd (bnL l r b), sd (bnL r l b)]) = some (.int s0) → bnS s b ≤ s0) :
    ReadR (as ++ [.mst l r s b]) ck cv (putDk sk (.tup [sd (bnL l r b), sd (bnL r l b)])) (putDv sk sv (.tup [sd (bnL l r b), sd (bnL r l b)]) (.int (bnS s b))) := by
  obtain ⟨p1, p2⟩ := put_len (.tup [sd (bnL l r b), sd (bnL r l b)]) (.int (bnS s b)) sk sv h.sl
  refine ⟨h.cl, p1, ⟨h.cl, h.c.keys, by have := h.c.len; simp; omega, fun y => by rw [asked_mst]; exact h.c.at_ y⟩, ⟨p1, put_keys h.s.keys ⟨_, _, rfl⟩, by have := h.s.len; simp; omega, fun x y => ?_⟩⟩
  rw [lk_put _ _ _ _ _ h.sl]
  by_cases q : bnL l r b = x ∧ bnL r l b = y
  · rw [if_pos (pair_eq.mpr q)]
    obtain ⟨rfl, rfl⟩ := q
    refine .inl ⟨_, rfl, fun s' => ?_⟩
    rw [hasB_append]
    rcases h.s.at_ (bnL l r b) (bnL r l b) with ⟨t, h1, h2⟩ | ⟨h1, h2⟩
    · have := hs t h1
      rw [h2]
      simp [hasB]
      omega
    · rw [h2]
      simp [hasB]
  · rw [if_neg (fun z => q (pair_eq.mp z))]
    have e : ∀ s', hasB (as ++ [.mst l r s b]) x y s' = hasB as x y s' := fun s' => by
      rw [hasB_append]
      have : hasB [.mst l r s b] x y s' = false := by
        simp [hasB]
        intro q1 q2
        exact absurd ⟨q1, q2⟩ q
      rw [this, Bool.or_false]
    simpa [e] using h.s.at_ x y
theorem cols_append : ∀ (as bs : List An), cols (as ++ bs) = cols as ++ cols bs
  | [], _ => rfl
  | .mst _ _ _ _ :: as, bs => by simpa [cols] using cols_append as bs
  | .unk _ _ :: as, bs => by simp [cols, cols_append as bs]
theorem lp_read {B : DEnds} {e0 : Option Ent} : ∀ (as bs : List An) (ck cv sk sv : List D) (e3 e4 e5 e6 : Option Ent), ReadR bs ck cv sk sv → Uq (bs ++ as) → bs.length + as.length ≤ 1000 →
    (∀ ck cv sk sv e3 e4 e5 e6, ReadR (bs ++ as) ck cv sk sv → B.nx [e0, some (.ow false (.dct ck cv)), some (.ow false (.dct sk sv)), e3, e4, e5, e6]) →
    loopD (dgName 3) b_read_answers_1 B (ans as) [e0, some (.ow false (.dct ck cv)), some (.ow false (.dct sk sv)), e3, e4, e5, e6]
  | [], bs, ck, cv, sk, sv, e3, e4, e5, e6, hR, hu, hn, h => by
    have h := h ck cv sk sv e3 e4 e5 e6 (by simpa using hR)
    exact h
  | .unk x b :: as, bs, ck, cv, sk, sv, e3, e4, e5, e6, hR, hu, hn, h => by
    rw [List.length_cons] at hn
    have hx : x ∉ cols bs := by
      unfold Uq at hu
      rw [cols_append, List.nodup_append] at hu
      intro m
      exact hu.2.2 x m x (by simp [cols]) rfl
    have ih := lp_read (B := B) (e0 := e0) as (bs ++ [.unk x b]) _ _ sk sv (some (.fz (An.d (.unk x b)))) e4 e5 e6 (readR_unk hR hx) (by simpa using hu) (by simp; omega) (by simpa using h)
    have := hR.c.len
    have hl : ck.length < 16777216 := by omega
    simp [ans, loopD, b_read_answers_1, An.d, fit_str hR.c.keys, hl]
    exact ih
  | .mst l r s b :: as, bs, ck, cv, sk, sv, e3, e4, e5, e6, hR, hu, hn, h => by
    rw [List.length_cons] at hn
    have ih := fun sk sv hR e4 e5 e6 => lp_read (B := B) (e0 := e0) as (bs ++ [.mst l r s b]) ck cv sk sv (some (.fz (An.d (.mst l r s b)))) e4 e5 e6 hR (by simpa using hu) (by simp; omega) (by simpa using h)
    have := hR.s.len
    have hl : sk.length < 16777216 := by omega
    simp [ans, loopD, b_read_answers_1, An.d]
    simp [bd, fit_pair hR.s.keys, hl]
    cases e : lkD sk sv (.tup [sd (bnL l r b), sd (bnL r l b)]) with
    | none =>
      simp
      exact ih _ _ (readR_put hR (fun s0 q => by rw [e] at q; cases q)) _ _ _
    | some d =>
      obtain ⟨s0, rfl⟩ : ∃ s0, d = .int s0 := by
        rcases hR.s.at_ (bnL l r b) (bnL r l b) with ⟨t, h1, _⟩ | ⟨h1, _⟩
        · rw [e] at h1; exact ⟨t, Option.some.inj h1⟩
        · rw [e] at h1; cases h1
      simp
      split
      · rename_i q
        exact ih _ _ (readR_put hR (fun s1 q1 => by rw [e] at q1; cases q1; omega)) _ _ _
      · rename_i q
        exact ih _ _ (readR_keep hR e (by omega)) _ _ _
theorem rd_read_answers : ∀ ds Qd Qe, sp_read_answers ds Qd Qe → b_read_answers (endsD [] Qd Qe) (startE 7 [] ds) := by
  rintro ds Qd Qe ⟨l, rfl, as, rfl, hu, hn, h⟩
  simp [b_read_answers, startE]
  refine lp_read as [] [] [] [] [] none none none none readR_nil hu (by simpa using hn) fun ck cv sk sv e3 e4 e5 e6 hR => ?_
  simp
  exact h ck cv sk sv hR.c hR.s
end DL

namespace DL
open PySem L2
@[simp] theorem ba_0_0 : Builtin.bitAnd 0 0 = 0 := by decide
@[simp] theorem bo_0_0 : Builtin.bitOr 0 0 = 0 := by decide
@[simp] theorem ba_0_1 : Builtin.bitAnd 0 1 = 0 := by decide
@[simp] theorem bo_0_1 : Builtin.bitOr 0 1 = 1 := by decide
@[simp] theorem ba_0_2 : Builtin.bitAnd 0 2 = 0 := by decide
@[simp] theorem bo_0_2 : Builtin.bitOr 0 2 = 2 := by decide
@[simp] theorem ba_0_3 : Builtin.bitAnd 0 3 = 0 := by decide
@[simp] theorem bo_0_3 : Builtin.bitOr 0 3 = 3 := by decide
@[simp] theorem ba_0_4 : Builtin.bitAnd 0 4 = 0 := by decide
@[simp] theorem bo_0_4 : Builtin.bitOr 0 4 = 4 := by decide
@[simp] theorem ba_0_5 : Builtin.bitAnd 0 5 = 0 := by decide
@[simp] theorem bo_0_5 : Builtin.bitOr 0 5 = 5 := by decide
@[simp] theorem ba_0_6 : Builtin.bitAnd 0 6 = 0 := by decide
@[simp] theorem bo_0_6 : Builtin.bitOr 0 6 = 6 := by decide
@[simp] theorem ba_0_7 : Builtin.bitAnd 0 7 = 0 := by decide
@[simp] theorem bo_0_7 : Builtin.bitOr 0 7 = 7 := by decide
@[simp] theorem ba_1_0 : Builtin.bitAnd 1 0 = 0 := by decide
@[simp] theorem bo_1_0 : Builtin.bitOr 1 0 = 1 := by decide
@[simp] theorem ba_1_1 : Builtin.bitAnd 1 1 = 1 := by decide
@[simp] theorem bo_1_1 : Builtin.bitOr 1 1 = 1 := by decide
@[simp] theorem ba_1_2 : Builtin.bitAnd 1 2 = 0 := by decide
@[simp] theorem bo_1_2 : Builtin.bitOr 1 2 = 3 := by decide
@[simp] theorem ba_1_3 : Builtin.bitAnd 1 3 = 1 := by decide
@[simp] theorem bo_1_3 : Builtin.bitOr 1 3 = 3 := by decide
@[simp] theorem ba_1_4 : Builtin.bitAnd 1 4 = 0 := by decide
@[simp] theorem bo_1_4 : Builtin.bitOr 1 4 = 5 := by decide
@[simp] theorem ba_1_5 : Builtin.bitAnd 1 5 = 1 := by decide
@[simp] theorem bo_1_5 : Builtin.bitOr 1 5 = 5 := by decide
@[simp] theorem ba_1_6 : Builtin.bitAnd 1 6 = 0 := by decide
@[simp] theorem bo_1_6 : Builtin.bitOr 1 6 = 7 := by decide
@[simp] theorem ba_1_7 : Builtin.bitAnd 1 7 = 1 := by decide
@[simp] theorem bo_1_7 : Builtin.bitOr 1 7 = 7 := by decide
@[simp] theorem ba_2_0 : Builtin.bitAnd 2 0 = 0 := by decide
@[simp] theorem bo_2_0 : Builtin.bitOr 2 0 = 2 := by decide
@[simp] theorem ba_2_1 : Builtin.bitAnd 2 1 = 0 := by decide
@[simp] theorem bo_2_1 : Builtin.bitOr 2 1 = 3 := by decide
@[simp] theorem ba_2_2 : Builtin.bitAnd 2 2 = 2 := by decide
@[simp] theorem bo_2_2 : Builtin.bitOr 2 2 = 2 := by decide
@[simp] theorem ba_2_3 : Builtin.bitAnd 2 3 = 2 := by decide
@[simp] theorem bo_2_3 : Builtin.bitOr 2 3 = 3 := by decide
@[simp] theorem ba_2_4 : Builtin.bitAnd 2 4 = 0 := by decide
@[simp] theorem bo_2_4 : Builtin.bitOr 2 4 = 6 := by decide
@[simp] theorem ba_2_5 : Builtin.bitAnd 2 5 = 0 := by decide
@[simp] theorem bo_2_5 : Builtin.bitOr 2 5 = 7 := by decide
@[simp] theorem ba_2_6 : Builtin.bitAnd 2 6 = 2 := by decide
@[simp] theorem bo_2_6 : Builtin.bitOr 2 6 = 6 := by decide
@[simp] theorem ba_2_7 : Builtin.bitAnd 2 7 = 2 := by decide
@[simp] theorem bo_2_7 : Builtin.bitOr 2 7 = 7 := by decide
@[simp] theorem ba_3_0 : Builtin.bitAnd 3 0 = 0 := by decide
@[simp] theorem bo_3_0 : Builtin.bitOr 3 0 = 3 := by decide
@[simp] theorem ba_3_1 : Builtin.bitAnd 3 1 = 1 := by decide
@[simp] theorem bo_3_1 : Builtin.bitOr 3 1 = 3 := by decide
@[simp] theorem ba_3_2 : Builtin.bitAnd 3 2 = 2 := by decide
@[simp] theorem bo_3_2 : Builtin.bitOr 3 2 = 3 := by decide
@[simp] theorem ba_3_3 : Builtin.bitAnd 3 3 = 3 := by decide
@[simp] theorem bo_3_3 : Builtin.bitOr 3 3 = 3 := by decide
@[simp] theorem ba_3_4 : Builtin.bitAnd 3 4 = 0 := by decide
@[simp] theorem bo_3_4 : Builtin.bitOr 3 4 = 7 := by decide
@[simp] theorem ba_3_5 : Builtin.bitAnd 3 5 = 1 := by decide
@[simp] theorem bo_3_5 : Builtin.bitOr 3 5 = 7 := by decide
@[simp] theorem ba_3_6 : Builtin.bitAnd 3 6 = 2 := by decide
@[simp] theorem bo_3_6 : Builtin.bitOr 3 6 = 7 := by decide
@[simp] theorem ba_3_7 : Builtin.bitAnd 3 7 = 3 := by decide
@[simp] theorem bo_3_7 : Builtin.bitOr 3 7 = 7 := by decide
@[simp] theorem ba_4_0 : Builtin.bitAnd 4 0 = 0 := by decide
@[simp] theorem bo_4_0 : Builtin.bitOr 4 0 = 4 := by decide
@[simp] theorem ba_4_1 : Builtin.bitAnd 4 1 = 0 := by decide
@[simp] theorem bo_4_1 : Builtin.bitOr 4 1 = 5 := by decide
@[simp] theorem ba_4_2 : Builtin.bitAnd 4 2 = 0 := by decide
@[simp] theorem bo_4_2 : Builtin.bitOr 4 2 = 6 := by decide
@[simp] theorem ba_4_3 : Builtin.bitAnd 4 3 = 0 := by decide
@[simp] theorem bo_4_3 : Builtin.bitOr 4 3 = 7 := by decide
@[simp] theorem ba_4_4 : Builtin.bitAnd 4 4 = 4 := by decide
@[simp] theorem bo_4_4 : Builtin.bitOr 4 4 = 4 := by decide
@[simp] theorem ba_4_5 : Builtin.bitAnd 4 5 = 4 := by decide
@[simp] theorem bo_4_5 : Builtin.bitOr 4 5 = 5 := by decide
@[simp] theorem ba_4_6 : Builtin.bitAnd 4 6 = 4 := by decide
@[simp] theorem bo_4_6 : Builtin.bitOr 4 6 = 6 := by decide
@[simp] theorem ba_4_7 : Builtin.bitAnd 4 7 = 4 := by decide
@[simp] theorem bo_4_7 : Builtin.bitOr 4 7 = 7 := by decide
@[simp] theorem ba_5_0 : Builtin.bitAnd 5 0 = 0 := by decide
@[simp] theorem bo_5_0 : Builtin.bitOr 5 0 = 5 := by decide
@[simp] theorem ba_5_1 : Builtin.bitAnd 5 1 = 1 := by decide
@[simp] theorem bo_5_1 : Builtin.bitOr 5 1 = 5 := by decide
@[simp] theorem ba_5_2 : Builtin.bitAnd 5 2 = 0 := by decide
@[simp] theorem bo_5_2 : Builtin.bitOr 5 2 = 7 := by decide
@[simp] theorem ba_5_3 : Builtin.bitAnd 5 3 = 1 := by decide
@[simp] theorem bo_5_3 : Builtin.bitOr 5 3 = 7 := by decide
@[simp] theorem ba_5_4 : Builtin.bitAnd 5 4 = 4 := by decide
@[simp] theorem bo_5_4 : Builtin.bitOr 5 4 = 5 := by decide
@[simp] theorem ba_5_5 : Builtin.bitAnd 5 5 = 5 := by decide
@[simp] theorem bo_5_5 : Builtin.bitOr 5 5 = 5 := by decide
@[simp] theorem ba_5_6 : Builtin.bitAnd 5 6 = 4 := by decide
@[simp] theorem bo_5_6 : Builtin.bitOr 5 6 = 7 := by decide
@[simp] theorem ba_5_7 : Builtin.bitAnd 5 7 = 5 := by decide
@[simp] theorem bo_5_7 : Builtin.bitOr 5 7 = 7 := by decide
@[simp] theorem ba_6_0 : Builtin.bitAnd 6 0 = 0 := by decide
@[simp] theorem bo_6_0 : Builtin.bitOr 6 0 = 6 := by decide
@[simp] theorem ba_6_1 : Builtin.bitAnd 6 1 = 0 := by decide
@[simp] theorem bo_6_1 : Builtin.bitOr 6 1 = 7 := by decide
@[simp] theorem ba_6_2 : Builtin.bitAnd 6 2 = 2 := by decide
@[simp] theorem bo_6_2 : Builtin.bitOr 6 2 = 6 := by decide
@[simp] theorem ba_6_3 : Builtin.bitAnd 6 3 = 2 := by decide
@[simp] theorem bo_6_3 : Builtin.bitOr 6 3 = 7 := by decide
@[simp] theorem ba_6_4 : Builtin.bitAnd 6 4 = 4 := by decide
@[simp] theorem bo_6_4 : Builtin.bitOr 6 4 = 6 := by decide
@[simp] theorem ba_6_5 : Builtin.bitAnd 6 5 = 4 := by decide
@[simp] theorem bo_6_5 : Builtin.bitOr 6 5 = 7 := by decide
@[simp] theorem ba_6_6 : Builtin.bitAnd 6 6 = 6 := by decide
@[simp] theorem bo_6_6 : Builtin.bitOr 6 6 = 6 := by decide
@[simp] theorem ba_6_7 : Builtin.bitAnd 6 7 = 6 := by decide
@[simp] theorem bo_6_7 : Builtin.bitOr 6 7 = 7 := by decide
@[simp] theorem ba_7_0 : Builtin.bitAnd 7 0 = 0 := by decide
@[simp] theorem bo_7_0 : Builtin.bitOr 7 0 = 7 := by decide
@[simp] theorem ba_7_1 : Builtin.bitAnd 7 1 = 1 := by decide
@[simp] theorem bo_7_1 : Builtin.bitOr 7 1 = 7 := by decide
@[simp] theorem ba_7_2 : Builtin.bitAnd 7 2 = 2 := by decide
@[simp] theorem bo_7_2 : Builtin.bitOr 7 2 = 7 := by decide
@[simp] theorem ba_7_3 : Builtin.bitAnd 7 3 = 3 := by decide
@[simp] theorem bo_7_3 : Builtin.bitOr 7 3 = 7 := by decide
@[simp] theorem ba_7_4 : Builtin.bitAnd 7 4 = 4 := by decide
@[simp] theorem bo_7_4 : Builtin.bitOr 7 4 = 7 := by decide
@[simp] theorem ba_7_5 : Builtin.bitAnd 7 5 = 5 := by decide
@[simp] theorem bo_7_5 : Builtin.bitOr 7 5 = 7 := by decide
@[simp] theorem ba_7_6 : Builtin.bitAnd 7 6 = 6 := by decide
@[simp] theorem bo_7_6 : Builtin.bitOr 7 6 = 7 := by decide
@[simp] theorem ba_7_7 : Builtin.bitAnd 7 7 = 7 := by decide
@[simp] theorem bo_7_7 : Builtin.bitOr 7 7 = 7 := by decide

theorem rd_step_shapes : ∀ ds Qd Qe, sp_step_shapes ds Qd Qe → b_step_shapes (endsD [] Qd Qe) (startE 1 [] ds) := by
  rintro ds Qd Qe ⟨d, rfl, ⟨a, op, b, rfl, h⟩ | ⟨a, rfl, h⟩ | ⟨w, r, rfl, n1, n2, h⟩⟩
  · simpa [b_step_shapes, startE, stepC] using h
  · simpa [b_step_shapes, startE] using h
  · simpa [b_step_shapes, startE, n1, n2] using h
theorem rd_mirrored : ∀ ds Qd Qe, sp_mirrored ds Qd Qe → b_mirrored (endsD [] Qd Qe) (startE 1 [] ds) := by
  rintro ds Qd Qe ⟨n, rfl, ⟨f, u, t⟩, rfl, h⟩
  cases f <;> cases u <;> cases t <;> simp [b_mirrored, startE, T3.n, b01] <;> exact ⟨mul_r (by omega) (by omega), .inl ⟨by omega, by omega⟩, h⟩
theorem rd_least_of : ∀ ds Qd Qe, sp_least_of ds Qd Qe → b_least_of (endsD [] Qd Qe) (startE 3 [] ds) := by
  rintro ds Qd Qe ⟨m, n, rfl, ⟨f, u, t⟩, ⟨f', u', t'⟩, rfl, rfl, h⟩
  cases f <;> cases u <;> cases t <;> cases f' <;> cases u' <;> cases t' <;> simp [b_least_of, b_least_of_1, startE, T3.n, b01] <;> exact h
theorem rd_tested_truths : ∀ ds Qd Qe, sp_tested_truths ds Qd Qe → b_tested_truths (endsD [] Qd Qe) (startE 4 [] ds) := by
  rintro ds Qd Qe ⟨n, w, rfl, ⟨f, u, t⟩, rfl, hw, h⟩
  rcases wrd_cases hw with rfl | rfl | rfl
  · cases f <;> cases u <;> cases t <;> simp [b_tested_truths, b_tested_truths_1, b_tested_truths_2, startE, T3.n, b01] <;> refine ⟨0, rfl, (fun m hm => absurd hm (Nat.not_lt_zero _)), .int 1, rfl, ?_⟩ <;> simp <;> exact h
  · cases f <;> cases u <;> cases t <;> simp [b_tested_truths, b_tested_truths_1, b_tested_truths_2, startE, T3.n, b01] <;> refine ⟨1, rfl, (fun m hm => by obtain rfl : m = 0 := by omega
                                                                                                                                                            decide), .int 2, rfl, ?_⟩ <;> simp <;> exact h
  · cases f <;> cases u <;> cases t <;> simp [b_tested_truths, b_tested_truths_1, b_tested_truths_2, startE, T3.n, b01] <;> refine ⟨2, rfl, (fun m hm => by have : m = 0 ∨ m = 1 := by omega
                                                                                                                                                            rcases this with rfl | rfl <;> decide), .int 4, rfl, ?_⟩ <;> simp <;> exact h
theorem jnW_inj {b c : Bool} : jnW b = jnW c ↔ b = c := by cases b <;> cases c <;> simp [jnW]
theorem t3ns_len {xs : List T3} : (t3ns xs).length = xs.length := by simp [t3ns]
theorem lc_mirror {e0 e1 e2 : Option Ent} {Q : List D → En → Prop} : ∀ (xs acc : List T3) (e3 : Option Ent), acc.length + xs.length ≤ 1000 →
    (∀ e3, Q (t3ns (acc ++ xs.map T3.mir)) [e0, e1, e2, e3]) →
    lcD [3] (dgName 3) dYes (dCall sp_mirrored (dCons (dVar 3) dNil)) (t3ns xs) (t3ns acc) [e0, e1, e2, e3] Q
  | [], acc, e3, hn, h => by
    have h := h e3
    simpa [t3ns, lcD] using h
  | x :: xs, acc, e3, hn, h => by
    rw [List.length_cons] at hn
    have ih := lc_mirror (e0 := e0) (e1 := e1) (e2 := e2) (Q := Q) xs (acc ++ [x.mir]) (some (.fz (.int x.n))) (by simp; omega) (fun e3 => by
      have h := h e3
      rw [List.append_assoc]
      exact h)
    have la : (t3ns acc).length < 16777216 := by simp [t3ns]; omega
    simp [t3ns, lcD, wipeE]
    refine i_mirrored ⟨x, rfl, ?_⟩
    have e : t3ns (acc ++ [x.mir]) = t3ns acc ++ [D.int x.mir.n] := by simp [t3ns]
    rw [e] at ih
    exact ⟨by simpa [t3ns] using la, ih⟩
theorem lp_jtruths {B : DEnds} {e0 e1 : Option Ent} {sr : SpD} : ∀ (xs : List T3) (x : T3) (e3 : Option Ent), (∀ e3, B.nx [e0, e1, some (.fz (.int (T3.bth x xs).n)), e3]) →
    loopD (dgName 3) (b_joined_truths_1 sr) B (t3ns xs) [e0, e1, some (.fz (.int x.n)), e3]
  | [], x, e3, h => h e3
  | y :: xs, x, e3, h => by
    have ih := lp_jtruths (B := B) (e0 := e0) (e1 := e1) (sr := sr) xs (x.lst y) (some (.fz (.int y.n))) h
    simp [t3ns, loopD, b_joined_truths_1]
    refine i_least_of ⟨x, y, rfl, rfl, ?_⟩
    exact ih
theorem rd_joined_truths_n : ∀ n ds Qd Qe, sp_joined_truths_n (n + 1) ds Qd Qe → b_joined_truths (sp_joined_truths_n n) (endsD [] Qd Qe) (startE 4 [] ds) := by
  rintro n ds Qd Qe ⟨b, xs, rfl, hb, hn, h⟩
  cases b with
  | true =>
    simp [b_joined_truths, startE, jnW]
    refine lp_jtruths xs ⟨false, false, true⟩ none fun e3 => ?_
    simp
    exact h
  | false =>
    simp [b_joined_truths, startE, jnW]
    refine lc_mirror xs [] none (by simpa using hn) fun e3 => ?_
    obtain ⟨k, rfl⟩ : ∃ k, n = k + 1 := ⟨n - 1, by have := hb rfl; omega⟩
    refine ⟨true, xs.map T3.mir, rfl, (fun q => by cases q), by simpa using hn, ?_⟩
    refine i_mirrored ⟨_, rfl, ?_⟩
    exact h
theorem lp_open {B : DEnds} {e0 e1 : Option Ent} : ∀ (xs : List T3) (ps : List Int) (e2 : Option Ent), ps.length = xs.length → B.fr = false → (∀ e2, B.nx [e0, e1, e2]) → (∀ p e2, B.rt (.int p) [e0, e1, e2]) →
    loopD (dgName 2) b_first_open_1 B (List.zipWith (fun x p => D.tup [.int (T3.n x), .int p]) xs ps) [e0, e1, e2]
  | [], [], e2, hl, hf, h, h' => h e2
  | [], _ :: _, e2, hl, hf, h, h' => by simp at hl
  | _ :: _, [], e2, hl, hf, h, h' => by simp at hl
  | x :: xs, p :: ps, e2, hl, hf, h, h' => by
    have ih := lp_open xs ps (some (.fz (.tup [.int (T3.n x), .int p]))) (by simpa using hl) hf h h'
    simp [loopD, b_first_open_1]
    split
    · exact ⟨hf, h' _ _⟩
    · exact ih
theorem rd_first_open : ∀ ds Qd Qe, sp_first_open ds Qd Qe → b_first_open (endsD [] Qd Qe) (startE 3 [] ds) := by
  rintro ds Qd Qe ⟨n, l, rfl, xs, ⟨ps, hl, rfl⟩, h⟩
  simp [b_first_open, startE]
  have tail : loopD (dgName 2) b_first_open_1 { nx := dRet (dUn negD (dC (.int 1))) (endsD [] Qd Qe), rt := (endsD [] Qd Qe).rt, bk := (endsD [] Qd Qe).bk, ct := (endsD [] Qd Qe).ct, ex := (endsD [] Qd Qe).ex } (List.zipWith (fun x p => D.tup [.int (T3.n x), .int p]) xs ps) [some (.fz (.int n)), some (.fz (.lst (List.zipWith (fun x p => D.tup [.int (T3.n x), .int p]) xs ps))), none] := by
    refine lp_open xs ps none hl rfl (fun e2 => ?_) fun p e2 => ?_
    · simp
      exact h _
    · simpa using h _
  simp [inD, flatD, inFD, eqFD]
  split
  · exact h _
  · exact tail
theorem rd_settled : ∀ ds Qd Qe, sp_settled ds Qd Qe → b_settled (endsD [] Qd Qe) (startE 5 [] ds) := by
  rintro ds Qd Qe ⟨dl, dr, s, k, v, rfl, as, x, y, rfl, rfl, hs, h⟩
  simp [b_settled, startE]
  by_cases e : x = y
  · subst e
    simp [stl] at h ⊢
    split <;> simp_all
  · have e' : ¬ y = x := fun q => e q.symm
    simp [e, fit_pair hs.keys]
    simp [stl, e] at h
    rcases hs.at_ x y with ⟨t, h1, h2⟩ | ⟨h1, h2⟩ <;> rcases hs.at_ y x with ⟨t', h1', h2'⟩ | ⟨h1', h2'⟩ <;> simp [h1, h1'] <;> simp [h2, h2'] at h
    · split
      · rename_i q
        simpa [q] using h
      · rename_i q
        simp [q] at h
        split
        · rename_i q
          simpa [q] using h
        · rename_i q
          simpa [q] using h
    · split
      · rename_i q
        simpa [q] using h
      · rename_i q
        simpa [q] using h
    · split
      · rename_i q
        simpa [q] using h
      · rename_i q
        simpa [q] using h
    · exact h
end DL

namespace DL
open PySem L2

theorem lk_non : ∀ {ks vs : List D}, (∀ d ∈ ks, ∃ x, d = .str x) → lkD ks vs .non = none
  | [], _, _ => by cases ‹List D› <;> rfl
  | _ :: _, [], _ => rfl
  | k :: ks, v :: vs, h => by
    obtain ⟨x, rfl⟩ := h k (by simp)
    have ih := lk_non (ks := ks) (vs := vs) fun d m => h d (by simp [m])
    simp [lkD, ih]
theorem st_ct1 {B : DEnds} {as : List An} {ck cv : List D} {e0 e2 e4 e5 e6 e7 : Option Ent} (s : Sh) (hc : ColsR as ck cv)
    (h1 : unkB as s = true → B.fr = false ∧ ∀ e3, B.rt (.int 2) [e0, some (.fz (.dct ck cv)), e2, e3, e4, e5, e6, e7])
    (h2 : unkB as s = false → ∀ e3, B.nx [e0, some (.fz (.dct ck cv)), e2, e3, e4, e5, e6, e7]) :
    b_compare_truths_1 B [e0, some (.fz (.dct ck cv)), e2, some (.fz s.d), e4, e5, e6, e7] := by
  cases s with
  | non =>
    have h1 := h1 rfl
    simp [b_compare_truths_1, Sh.d]
    exact ⟨h1.1, h1.2 _⟩
  | num n =>
    have h2 := h2 rfl
    simp [b_compare_truths_1, Sh.d, isNon, fit_non hc.keys, lk_non hc.keys, isBl]
    exact h2 _
  | col x n =>
    simp [b_compare_truths_1, Sh.d, isNon, fit_str hc.keys, hc.at_]
    cases e : asked as x with
    | none =>
      have h2 := h2 (by simp [unkB, e])
      simp [isBl]
      exact h2 _
    | some b =>
      cases b with
      | true =>
        have h1 := h1 (by simp [unkB, e])
        simp [isBl]
        exact ⟨h1.1, h1.2 _⟩
      | false =>
        have h2 := h2 (by simp [unkB, e])
        simp [isBl]
        exact h2 _
theorem st_ct2 {B : DEnds} {as : List An} {ck cv : List D} {e0 e2 e4 e5 e6 e7 : Option Ent} (s : Sh) (hc : ColsR as ck cv) (hs : s ≠ .non)
    (h1 : opnB as s = true → B.fr = false ∧ ∀ e3, B.rt (.int 7) [e0, some (.fz (.dct ck cv)), e2, e3, e4, e5, e6, e7])
    (h2 : opnB as s = false → ∀ e3, B.nx [e0, some (.fz (.dct ck cv)), e2, e3, e4, e5, e6, e7]) :
    b_compare_truths_2 B [e0, some (.fz (.dct ck cv)), e2, some (.fz s.d), e4, e5, e6, e7] := by
  cases s with
  | non => exact absurd rfl hs
  | num n =>
    have h2 := h2 rfl
    simp [b_compare_truths_2, Sh.d, isNon]
    exact h2 _
  | col x n =>
    simp [b_compare_truths_2, Sh.d, isNon, fit_str hc.keys, hc.at_]
    cases e : asked as x with
    | none =>
      have h1 := h1 (by simp [opnB, e])
      simp
      exact ⟨h1.1, h1.2 _⟩
    | some b =>
      have h2 := h2 (by simp [opnB, e])
      simp
      exact h2 _
def stv : Option Bool → Int
  | some true => 4
  | some false => 1
  | none => 5
def sts (l : List (Option Bool)) : List D := l.map fun o => .int (stv o)
theorem lc_stv {as : List An} {k v : List D} (hs : ShiftsR as k v) {e0 e1 e3 e4 e5 e7 : Option Ent} {Q : List D → En → Prop} : ∀ (bs : List (Option Str × Option Str × Int)) (acc : List (Option Bool)) (e6 : Option Ent), acc.length + bs.length < 1000 →
    (∀ e6, Q (sts (acc ++ bs.map fun q => stl as q.1 q.2.1 q.2.2)) [e0, e1, some (.fz (.dct k v)), e3, e4, e5, e6, e7]) →
    lcD [6] (dgName 6) dYes (dCall sp_settled (dCons (dVar 6) (dCons (dVar 2) dNil))) (bds bs) (sts acc) [e0, e1, some (.fz (.dct k v)), e3, e4, e5, e6, e7] Q
  | [], acc, e6, hn, h => by
    have h := h e6
    simpa [bds, lcD] using h
  | (l, r, s) :: bs, acc, e6, hn, h => by
    rw [List.length_cons] at hn
    have ih := lc_stv hs (e0 := e0) (e1 := e1) (e3 := e3) (e4 := e4) (e5 := e5) (e7 := e7) (Q := Q) bs (acc ++ [stl as l r s]) (some (.fz (bd l r s))) (by simp; omega) (fun e6 => by
      have h := h e6
      rw [List.append_assoc]
      exact h)
    have la : (sts acc).length < 16777216 := by simp [sts]; omega
    simp [bds, lcD, wipeE, bd]
    refine i_settled ⟨as, l, r, rfl, rfl, hs, ?_⟩
    refine ⟨la, ?_⟩
    have e : sts (acc ++ [stl as l r s]) = sts acc ++ [.int (stv (stl as l r s))] := by simp [sts]
    rw [e] at ih
    exact ih
theorem lc_four {e0 e1 e2 e3 e4 e5 e6 : Option Ent} {Q : List D → En → Prop} : ∀ (l : List (Option Bool)) (acc : List Bool) (e7 : Option Ent), acc.length + l.length < 1000 →
    (∀ e7, Q ((acc ++ l.map fun o => decide (o = some true)).map D.bl) [e0, e1, e2, e3, e4, e5, e6, e7]) →
    lcD [7] (dgName 7) dYes (dOp eqD (dVar 7) (dC (.int 4))) (sts l) (acc.map D.bl) [e0, e1, e2, e3, e4, e5, e6, e7] Q
  | [], acc, e7, hn, h => by
    have h := h e7
    simpa [sts, lcD] using h
  | o :: l, acc, e7, hn, h => by
    rw [List.length_cons] at hn
    have ih := lc_four (e0 := e0) (e1 := e1) (e2 := e2) (e3 := e3) (e4 := e4) (e5 := e5) (e6 := e6) (Q := Q) l (acc ++ [decide (o = some true)]) (some (.fz (.int (stv o)))) (by simp; omega) (fun e7 => by
      have h := h e7
      rw [List.append_assoc]
      exact h)
    have la : acc.length < 16777216 := by omega
    have e : (acc ++ [decide (o = some true)]).map D.bl = acc.map D.bl ++ [.bl (decide (o = some true))] := by simp
    rw [e] at ih
    have e2 : decide (stv o = 4) = decide (o = some true) := by rcases o with _ | _ | _ <;> decide
    rw [← e2] at ih
    simp [sts, lcD, wipeE, la]
    exact ih
theorem bls_bl : ∀ l : List Bool, blsD (l.map D.bl) = some l
  | [] => rfl
  | b :: l => by simp [blsD, bls_bl l]
theorem in_sts (l : List (Option Bool)) : inFD (.int 1) (sts l) = decide (some false ∈ l) := by
  induction l with
  | nil => rfl
  | cons x l ih =>
    unfold inFD sts at ih ⊢
    rw [List.map_cons, List.any_cons, ih]
    rcases x with _ | _ | _ <;> simp [eqFD, stv]
theorem flat_sts (l : List (Option Bool)) : (sts l).all flatD = true := by
  induction l with
  | nil => rfl
  | cons x l ih =>
    unfold sts at ih ⊢
    rw [List.map_cons, List.all_cons, ih]
    rfl
theorem mem_four (fs : List (Option Bool)) : false ∈ (fs.map fun o => decide (o = some true)) ↔ (some false ∈ fs ∨ none ∈ fs) := by
  induction fs with
  | nil => simp
  | cons x l ih =>
    rw [List.map_cons, List.mem_cons, ih]
    rcases x with _ | _ | _ <;> simp
theorem rd_compare_truths : ∀ ds Qd Qe, sp_compare_truths ds Qd Qe → b_compare_truths (endsD [] Qd Qe) (startE 8 [] ds) := by
  rintro ds Qd Qe ⟨d, ck, cv, sk, sv, rfl, a, op, b, as, rfl, hc, hs, h⟩
  simp [b_compare_truths, startE]
  refine i_step_shapes (.inl ⟨a, op, b, rfl, ?_⟩)
  simp [itemsD, loopD]
  have two : (unkB as a || unkB as b) = true → Qd (.int 2) [] := fun u => by simpa [cmpMay, u, T3.n, b01] using h
  refine st_ct1 a hc (fun u => ⟨rfl, fun e3 => by simpa using two (by simp [u])⟩) fun ua e3 => ?_
  simp
  refine st_ct1 b hc (fun u => ⟨rfl, fun e3 => by simpa using two (by simp [u])⟩) fun ub e3 => ?_
  have na : a ≠ .non := fun z => by rw [z] at ua; cases ua
  have nb : b ≠ .non := fun z => by rw [z] at ub; cases ub
  simp
  refine i_step_shapes (.inl ⟨a, op, b, rfl, ?_⟩)
  simp [itemsD, loopD]
  have seven : (opnB as a || opnB as b) = true → Qd (.int 7) [] := fun u => by simpa [cmpMay, ua, ub, u, T3.n, b01] using h
  refine st_ct2 a hc na (fun u => ⟨rfl, fun e3 => by simpa using seven (by simp [u])⟩) fun ea e3 => ?_
  simp
  refine st_ct2 b hc nb (fun u => ⟨rfl, fun e3 => by simpa using seven (by simp [u])⟩) fun eb e3 => ?_
  simp
  refine i_bounds_of ⟨a, op, b, rfl, na, nb, ?_⟩
  simp [wipeE]
  refine lc_stv hs (rests a op b) [] none (by have := rests_len a op b; simp; omega) fun e6 => ?_
  rw [List.nil_append]
  simp only [cmpMay, ua, ub, ea, eb] at h
  have hl : (rests a op b).length ≤ 2 := rests_len a op b
  rw [← List.length_map (f := fun q => stl as q.1 q.2.1 q.2.2)] at hl
  generalize (rests a op b).map (fun q => stl as q.1 q.2.1 q.2.2) = fs at h hl ⊢
  simp [backE, b_compare_truths_3, wipeE]
  refine lc_four fs [] none (by simp; omega) fun e7 => ?_
  rw [List.nil_append]
  simp [backE]
  refine ⟨_, (by rw [← List.map_map]; exact bls_bl _), ?_⟩
  simp [mem_four]
  simp only [stepC]
  by_cases c3 : op = "!=" <;> by_cases c1 : some false ∈ fs <;> by_cases c2 : none ∈ fs <;> simp [c1, c2, c3, inD, flat_sts, flatD, in_sts] at h ⊢
  all_goals first | exact h | exact i_mirrored ⟨_, rfl, h⟩
theorem rd_leaf_truths : ∀ ds Qd Qe, sp_leaf_truths ds Qd Qe → b_leaf_truths (endsD [] Qd Qe) (startE 4 [] ds) := by
  rintro ds Qd Qe ⟨d, ck, cv, sk, sv, rfl, t, as, ys, e, ok, hz, hc, hs, h⟩
  rcases leaf_cases ok hz e.symm with ⟨a, op, b, rfl, rfl⟩ | ⟨a, rfl, rfl⟩ | ⟨w, rfl, rfl⟩
  · simp [b_leaf_truths, startE]
    exact i_compare_truths ⟨a, op, b, as, rfl, hc, hs, by simpa [Ct.may] using h⟩
  · simp only [Ct.may] at h
    cases a with
    | non => simpa [b_leaf_truths, startE, Sh.d, misMay, T3.n, b01] using h
    | num n => simpa [b_leaf_truths, startE, Sh.d, misMay, T3.n, b01, isNon, fit_non hc.keys] using h
    | col x n =>
      simp [b_leaf_truths, startE, Sh.d, isNon, fit_str hc.keys, hc.at_]
      cases e : asked as x with
      | none => simpa [misMay, e, T3.n, b01, isBl] using h
      | some b =>
        cases b <;> simpa [misMay, e, T3.n, b01, isBl] using h
  · simp only [Ct.may] at h
    rcases cst_cases ok with rfl | rfl | rfl <;> simp [b_leaf_truths, startE, cstMay, T3.n, b01]
    all_goals exact ⟨by decide, _, by rfl, h⟩
end DL

namespace DL
open PySem L2

theorem at_pre {pre rest : List D} {d : D} : atI (pre ++ d :: rest) (pre.length : Int) = some d := by
  rw [atI_nonneg (i := (pre.length : Int)) (j := pre.length) (by simp)]
  simp
def zs (xs : List T3) (ps : List Int) : List D := List.zipWith (fun x p => D.tup [.int (T3.n x), .int p]) xs ps
theorem zs_len {xs : List T3} {ps : List Int} (h : ps.length = xs.length) : (zs xs ps).length = xs.length := by simp [zs, h]
theorem zs_append {xs ys : List T3} {ps qs : List Int} (h : ps.length = xs.length) : zs (xs ++ ys) (ps ++ qs) = zs xs ps ++ zs ys qs := by
  unfold zs
  exact List.zipWith_append h.symm
theorem zs_one {x : T3} {p : Int} : zs [x] [p] = [.tup [.int x.n, .int p]] := rfl
theorem split_len {α : Type} {xs ys : List α} {ps : List Int} (h : ps.length = (xs ++ ys).length) : ∃ p q, ps = p ++ q ∧ p.length = xs.length ∧ q.length = ys.length := by
  rw [List.length_append] at h
  exact ⟨ps.take xs.length, ps.drop xs.length, (List.take_append_drop _ _).symm, by simp; omega, by simp; omega⟩
/-- the loop of survey -/
def runS (B : DEnds) (L : List D) (e1 : Option Ent) (ck cv sk sv : List D) (rest : List D) (xs : List T3) : Prop :=
  ∀ pre, L = pre ++ rest → ∀ ps : List Int, ps.length = xs.length → ∀ e5 e6 e7 e8 e9 e10 e11,
    loopD (dgName 5) b_survey_4 B (rangeD pre.length rest.length) [some (.fz (.tup L)), e1, some (.fz (.dct ck cv)), some (.fz (.dct sk sv)), some (.ow false (.lst (zs xs ps))), e5, e6, e7, e8, e9, e10, e11]
theorem st_word {w : Str} (h : w = "compare" ∨ w = "missing" ∨ w ∈ cstL) : w ≠ "not" ∧ w ≠ "test" ∧ w ≠ "both" ∧ w ≠ "either" := by
  rcases h with rfl | rfl | h
  · decide
  · decide
  · rcases cst_cases h with rfl | rfl | rfl <;> decide
theorem leaf_step {ys : List Str} {t : Ct} {d : D} (ok : t.Ok ys) (h : t.size = 1) (e : t.steps = [d]) : ∃ w r, d = .tup (.str w :: r) ∧ w ≠ "not" ∧ w ≠ "test" ∧ w ≠ "both" ∧ w ≠ "either" := by
  rcases leaf_cases ok h e with ⟨a, op, b, rfl, rfl⟩ | ⟨a, rfl, rfl⟩ | ⟨w, rfl, rfl⟩
  · exact ⟨_, _, rfl, st_word (.inl rfl)⟩
  · exact ⟨_, _, rfl, st_word (.inr (.inl rfl))⟩
  · exact ⟨_, _, rfl, st_word (.inr (.inr ok))⟩
theorem lc_zs {e0 e1 e2 e3 e4 e5 e6 e7 e8 e9 e10 : Option Ent} {Q : List D → En → Prop} : ∀ (xs : List T3) (ps : List Int) (acc : List T3) (e11 : Option Ent), ps.length = xs.length → acc.length + xs.length ≤ 10000 →
    (∀ e11, Q (t3ns (acc ++ xs)) [e0, e1, e2, e3, e4, e5, e6, e7, e8, e9, e10, e11]) →
    lcD [11] (dgName 11) dYes (dOp ixD (dVar 11) (dC (.int 0))) (zs xs ps) (t3ns acc) [e0, e1, e2, e3, e4, e5, e6, e7, e8, e9, e10, e11] Q
  | [], [], acc, e11, hl, hn, h => by
    have h := h e11
    simpa [zs, lcD] using h
  | [], _ :: _, _, _, hl, _, _ => by simp at hl
  | _ :: _, [], _, _, hl, _, _ => by simp at hl
  | x :: xs, p :: ps, acc, e11, hl, hn, h => by
    rw [List.length_cons] at hn
    have ih := lc_zs (e0 := e0) (e1 := e1) (e2 := e2) (e3 := e3) (e4 := e4) (e5 := e5) (e6 := e6) (e7 := e7) (e8 := e8) (e9 := e9) (e10 := e10) (Q := Q) xs ps (acc ++ [x]) (some (.fz (.tup [.int x.n, .int p]))) (by simpa using hl) (by simp; omega) (fun e11 => by
      have h := h e11
      rw [List.append_assoc]
      exact h)
    have la : (t3ns acc).length < 16777216 := by simp [t3ns]; omega
    have e : t3ns (acc ++ [x]) = t3ns acc ++ [.int x.n] := by simp [t3ns]
    rw [e] at ih
    simp [zs, lcD, wipeE, la]
    exact ih
theorem run_survey {B : DEnds} {L : List D} {e1 : Option Ent} {as : List An} {ck cv sk sv : List D} {ys : List Str} (hL : L.length < 1000000) (hc : ColsR as ck cv) (hs : ShiftsR as sk sv) : StepsRun ys (Ct.may as) 1000 (runS B L e1 ck cv sk sv) where
  leaf := fun t d xs rest ok hz e hn h pre hpre ps hps e5 e6 e7 e8 e9 e10 e11 => by
    have h := fun p => h (pre ++ [d]) (by rw [hpre]; simp) (ps ++ [p]) (by simp [hps])
    have hl : xs.length < 16777216 := by omega
    obtain ⟨w, r, rfl, n1, n2, n3, n4⟩ := leaf_step ok hz e
    rw [List.length_cons, rangeD_succ]
    simp [loopD, b_survey_4, b_survey_1, inD, flatD, inFD, eqFD]
    refine ⟨.tup (.str w :: r), by rw [hpre]; exact at_pre, ?_⟩
    simp [n1.symm, n2.symm, n3.symm, n4.symm]
    refine i_leaf_truths ⟨t, as, ys, e.symm, ok, hz, hc, hs, ?_⟩
    have ch : cutD (zs xs ps) none (some (((zs xs ps).length : Int) - 0)) = zs xs ps := by
      have := cut_head (S := zs xs ps) (P := []) (i := (zs xs ps).length) rfl
      simpa using this
    have zl := zs_len hps
    simp at h
    simp [b_survey_2, inD, flatD, inFD, eqFD] at ch ⊢
    rw [ch]
    split
    · simp [zl, hl]
      have h := h (-1)
      rw [zs_append hps, zs_one] at h
      exact h _ _ _ _ _ _ _
    · simp [zl, hl]
      have h := h pre.length
      rw [zs_append hps, zs_one] at h
      exact h _ _ _ _ _ _ _
  neg := fun c xs rest ok hn h pre hpre ps hps e5 e6 e7 e8 e9 e10 e11 => by
    obtain ⟨ps, q, rfl, hp, hq⟩ := split_len hps
    obtain ⟨p, rfl⟩ : ∃ p, q = [p] := by
      match q, hq with
      | [p], _ => exact ⟨p, rfl⟩
    have h := fun p => h (pre ++ [.tup [.str "not"]]) (by rw [hpre]; simp) (ps ++ [p]) (by simp [hp])
    have hl : xs.length < 16777216 := by omega
    have zl := zs_len hp
    rw [List.length_cons, rangeD_succ]
    simp [loopD, b_survey_4, b_survey_1, inD, flatD, inFD, eqFD]
    refine ⟨.tup [.str "not"], by rw [hpre]; exact at_pre, ?_⟩
    rw [zs_append hp, zs_one]
    have ct : cutD (zs xs ps ++ [D.tup [.int (c.may as).n, .int p]]) (some (xs.length : Int)) none = [D.tup [.int (c.may as).n, .int p]] := cut_tail (by rw [zl])
    have ch : cutD (zs xs ps ++ [D.tup [.int (c.may as).n, .int p]]) none (some (xs.length : Int)) = zs xs ps := cut_head (by rw [zl])
    simp [zl, ct, ch, b_survey_3]
    refine i_mirrored ⟨_, rfl, ?_⟩
    refine i_first_open ⟨[c.may as], ⟨[p], rfl, rfl⟩, fun p' => ?_⟩
    simp [zl, hl]
    have h := h p'
    rw [zs_append hp, zs_one] at h
    simp at h
    exact h _ _ _ _ _ _ _
  tst := fun c w xs rest ok hw hn h pre hpre ps hps e5 e6 e7 e8 e9 e10 e11 => by
    obtain ⟨ps, q, rfl, hp, hq⟩ := split_len hps
    obtain ⟨p, rfl⟩ : ∃ p, q = [p] := by
      match q, hq with
      | [p], _ => exact ⟨p, rfl⟩
    have h := fun p => h (pre ++ [.tup [.str "test", .str w]]) (by rw [hpre]; simp) (ps ++ [p]) (by simp [hp])
    have hl : xs.length < 16777216 := by omega
    have zl := zs_len hp
    rw [List.length_cons, rangeD_succ]
    simp [loopD, b_survey_4, b_survey_1, inD, flatD, inFD, eqFD]
    refine ⟨.tup [.str "test", .str w], by rw [hpre]; exact at_pre, ?_⟩
    rw [zs_append hp, zs_one]
    have ct : cutD (zs xs ps ++ [D.tup [.int (c.may as).n, .int p]]) (some (xs.length : Int)) none = [D.tup [.int (c.may as).n, .int p]] := cut_tail (by rw [zl])
    have ch : cutD (zs xs ps ++ [D.tup [.int (c.may as).n, .int p]]) none (some (xs.length : Int)) = zs xs ps := cut_head (by rw [zl])
    simp [zl, ct, ch, b_survey_3]
    refine i_tested_truths ⟨_, rfl, hw, ?_⟩
    refine i_first_open ⟨[c.may as], ⟨[p], rfl, rfl⟩, fun p' => ?_⟩
    simp [zl, hl]
    have h := h p'
    rw [zs_append hp, zs_one] at h
    simp at h
    exact h _ _ _ _ _ _ _
  jn := fun b cs xs rest h2 h4 ok hn h pre hpre ps hps e5 e6 e7 e8 e9 e10 e11 => by
    obtain ⟨ps, q, rfl, hp, hq⟩ := split_len hps
    have h := fun p => h (pre ++ [.tup [.str (jnW b), .int cs.length]]) (by rw [hpre]; simp) (ps ++ [p]) (by simp [hp])
    have hl : xs.length < 16777216 := by omega
    have zl := zs_len hp
    rw [List.length_map] at hq
    have zq : (zs (cs.map (Ct.may as)) q).length = cs.length := by rw [zs_len (by simpa using hq)]; simp
    rw [List.length_cons, rangeD_succ]
    have w1 : ("not" : Str) ≠ jnW b := by cases b <;> decide
    have w2 : ("test" : Str) ≠ jnW b := by cases b <;> decide
    have w3 : ("both" : Str) = jnW b ∨ ("either" : Str) = jnW b := by cases b <;> decide
    simp [loopD, b_survey_4, b_survey_1, inD, flatD, inFD, eqFD]
    refine ⟨.tup [.str (jnW b), .int cs.length], by rw [hpre]; exact at_pre, ?_⟩
    simp [w1, w2, w3]
    rw [zs_append hp]
    have ct : cutD (zs xs ps ++ zs (cs.map (Ct.may as)) q) (some (xs.length : Int)) none = zs (cs.map (Ct.may as)) q := cut_tail (by rw [zl])
    have ch : cutD (zs xs ps ++ zs (cs.map (Ct.may as)) q) none (some (xs.length : Int)) = zs xs ps := cut_head (by rw [zl])
    have h0 : ¬ cs = [] := fun z => by rw [z] at h2; simp at h2
    simp [zl, zq, ct, ch, b_survey_3, h0, w1.symm, w2.symm, wipeE]
    refine lc_zs (cs.map (Ct.may as)) q [] none (by simpa using hq) (by simp; omega) fun e11 => ?_
    rw [List.nil_append]
    simp [backE]
    refine ⟨b, cs.map (Ct.may as), rfl, fun _ => Nat.le_refl _, by simp; omega, ?_⟩
    simp
    refine i_first_open ⟨cs.map (Ct.may as), ⟨q, by simpa using hq, rfl⟩, fun p' => ?_⟩
    simp [zl, hl]
    have h := h p'
    rw [zs_append hp, zs_one] at h
    simp [Ct.may, mayL_map] at h
    exact h _ _ _ _ _ _ _
theorem rd_survey : ∀ ds Qd Qe, sp_survey ds Qd Qe → b_survey (endsD [] Qd Qe) (startE 12 [] ds) := by
  rintro ds Qd Qe ⟨l, m, rfl, t, as, ys, rfl, ok, hz, rfl, hu, hn, h⟩
  simp [b_survey, startE]
  refine i_read_answers ⟨as, rfl, hu, hn, fun ck cv sk sv hc hs => ?_⟩
  have sl := steps_len t
  simp
  refine ⟨by omega, ?_⟩
  have e : t.steps = t.steps ++ [] := by simp
  have r := (run_survey (B := { nx := dRet (dIxV 4 (dC (D.int 0))) (endsD [] Qd Qe), rt := (endsD [] Qd Qe).rt, bk := (endsD [] Qd Qe).bk, ct := (endsD [] Qd Qe).ct, ex := (endsD [] Qd Qe).ex }) (L := t.steps) (e1 := some (.fz (.lst (ans as)))) (ys := ys) (by omega) hc hs).go t ok [] [] (by simpa using hz) (fun pre hpre ps hps e5 e6 e7 e8 e9 e10 e11 => by
    obtain ⟨p, rfl⟩ : ∃ p, ps = [p] := by
      match ps, hps with
      | [p], _ => exact ⟨p, rfl⟩
    have h := h p
    simpa [loopD, rangeD_zero, zs] using h)
  have r := r [] (by simp) [] rfl none none none none none none none
  simpa [zs] using r
def may_words (x : T3) : List Str := x.words
theorem lc_pos {x : T3} {e0 e1 : Option Ent} {Q : List D → En → Prop} (h : ∀ e3, Q (txs x.words) [e0, e1, some (.fz (.int x.n)), e3]) :
    lcD [3] (dgName 3) (dTru (dOp andD (dVar 2) (dOp ixD (dTup (dCons (dC (.int 1)) (dCons (dC (.int 2)) (dCons (dC (.int 4)) dNil)))) (dVar 3)))) (dOp ixD (dC c_WORDS) (dVar 3)) (rangeD 0 3) [] [e0, e1, some (.fz (.int x.n)), none] Q := by
  obtain ⟨f, u, t⟩ := x
  simp only [T3.n] at h ⊢
  simp [lcD, wipeE, rangeD, List.range, List.range.loop, c_WORDS, i_WORDS]
  cases f <;> cases u <;> cases t <;> simp [b01] <;> exact h _
theorem rd_possible_truths : ∀ ds Qd Qe, sp_possible_truths ds Qd Qe → b_possible_truths (endsD [] Qd Qe) (startE 4 [] ds) := by
  rintro ds Qd Qe ⟨l, m, rfl, t, as, ys, rfl, ok, hz, rfl, hu, hn, h⟩
  simp [b_possible_truths, startE, getF]
  refine i_survey ⟨t, as, ys, rfl, ok, hz, rfl, hu, hn, fun p => ?_⟩
  simp [wipeE]
  refine lc_pos fun e3 => ?_
  exact h
theorem sd_plain {n : Nat} : ∀ l : Option Str, plainN (n + 1) (sd l) = true
  | none => rfl
  | some _ => rfl
theorem an_plain : ∀ a : An, plainN 5 a.d = true
  | .unk _ _ => rfl
  | .mst l r s b => by cases l <;> cases r <;> rfl
theorem ans_plain {as : List An} (h : as.length ≤ 1000) : plainN 6 (.lst (ans as)) = true := by
  show (decide ((ans as).length ≤ 16777216) && (ans as).all (plainN 5)) = true
  simp only [Bool.and_eq_true, decide_eq_true_eq, List.all_eq_true]
  refine ⟨by simp [ans]; omega, fun d m => ?_⟩
  obtain ⟨a, _, rfl⟩ := List.mem_map.mp m
  exact an_plain a
end DL

namespace DL
open PySem L2

/-! ### rows: the law's walk over the steps -/
def vd : Option Int → D
  | none => .non
  | some i => .int i
def vals (vs : List (Option Int)) : List D := vs.map vd
/-- a row's value at a column -/
def look : List Str → List (Option Int) → Str → Option Int
  | x :: xs, v :: vs, y => if x = y then v else look xs vs y
  | _, _, _ => none
def Sh.val (v : Str → Option Int) : Sh → Option Int
  | .non => none
  | .num n => some n
  | .col x n => (v x).map (· + n)
def cmpB (a : Int) (op : Str) (b : Int) : Bool :=
  if op = "<" then decide (a < b) else if op = "<=" then decide (a ≤ b) else if op = "=" then decide (a = b) else if op = "!=" then decide (a ≠ b) else if op = ">=" then decide (b ≤ a) else decide (b < a)
def cmpR (a : Option Int) (op : Str) (b : Option Int) : Int := match a, b with
  | some x, some y => if cmpB x op y = true then 2 else 0
  | _, _ => 1
def jn2 (b : Bool) (r s : Int) : Int := if b = true then (if s < r then s else r) else (if r < s then s else r)
def jnR (b : Bool) : Int → List Int → Int
  | r, [] => r
  | r, s :: rs => jnR b (jn2 b r s) rs
def jnRs (b : Bool) : List Int → Int
  | [] => 0
  | r :: rs => jnR b r (r :: rs)
def cstR (w : Str) : Int := if w = "always" then 2 else if w = "never" then 0 else 1
def wrdR (w : Str) : Int := if w = "false" then 0 else if w = "unknown" then 1 else 2
mutual
/-- a condition's truth value for a row: 0, 1, 2 -/
def Ct.rk (v : Str → Option Int) : Ct → Int
  | .cmp a op b => cmpR (a.val v) op (b.val v)
  | .mis a => if a.val v = none then 2 else 0
  | .cst w => cstR w
  | .neg c => 2 - c.rk v
  | .tst c w => if c.rk v = wrdR w then 2 else 0
  | .jn b cs => jnRs b (rkL v cs)
def rkL (v : Str → Option Int) : List Ct → List Int
  | [] => []
  | c :: cs => c.rk v :: rkL v cs
end
def itsD (l : List Int) : List D := l.map D.int
def sp_law_cells : SpD := fun ds Qd _ => ∃ (st : D) (many : Int) (c : D), ds = [st, .int many, c] ∧ StOk st ∧ cenOk c ∧ 0 ≤ many ∧ many ≤ 1000 ∧ ∀ (vs : List (Option Int)) st', (vs.length : Int) = many → (∀ i, some i ∈ vs → Num i 2) → StOk st' → Qd (.lst (vals vs)) [st']
theorem len_law_cells : ∀ ds Qd Qe, sp_law_cells ds Qd Qe → ds.length = 3 := by rintro _ _ _ ⟨_, _, _, rfl, _⟩; rfl
@[simp ↓] theorem u_law_cells {st : D} {many : Int} {c : D} {Qd : D → List D → Prop} {Qe : Exn → List D → Prop} : sp_law_cells [st, .int many, c] Qd Qe = (StOk st ∧ cenOk c ∧ 0 ≤ many ∧ many ≤ 1000 ∧ ∀ (vs : List (Option Int)) st', (vs.length : Int) = many → (∀ i, some i ∈ vs → Num i 2) → StOk st' → Qd (.lst (vals vs)) [st']) := propext ⟨fun h => by
  obtain ⟨_, _, _, h, k⟩ := h
  cases h
  exact k, fun k => ⟨_, _, _, rfl, k⟩⟩
def sp_law_value : SpD := fun ds Qd _ => ∃ (d : D) (xs vs : List D), ds = [d, .lst xs, .lst vs] ∧ ∃ (s : Sh) (ys : List Str) (ws : List (Option Int)), d = Sh.d s ∧ xs = txs ys ∧ vs = vals ws ∧ s.Ok ys ∧ ys.length = ws.length ∧ Qd (vd (s.val (look ys ws))) []
theorem len_law_value : ∀ ds Qd Qe, sp_law_value ds Qd Qe → ds.length = 3 := by rintro _ _ _ ⟨_, _, _, rfl, _⟩; rfl
theorem i_law_value {d : D} {xs vs : List D} {Qd : D → List D → Prop} {Qe : Exn → List D → Prop} (h : ∃ (s : Sh) (ys : List Str) (ws : List (Option Int)), d = Sh.d s ∧ xs = txs ys ∧ vs = vals ws ∧ s.Ok ys ∧ ys.length = ws.length ∧ Qd (vd (s.val (look ys ws))) []) : sp_law_value [d, .lst xs, .lst vs] Qd Qe := ⟨_, _, _, rfl, h⟩
def sp_law_compared : SpD := fun ds Qd _ => ∃ (d : D) (op : Str) (e : D), ds = [d, .str op, e] ∧ ∃ a b, d = vd a ∧ e = vd b ∧ op ∈ opsL ∧ Qd (.int (cmpR a op b)) []
theorem len_law_compared : ∀ ds Qd Qe, sp_law_compared ds Qd Qe → ds.length = 3 := by rintro _ _ _ ⟨_, _, _, rfl, _⟩; rfl
theorem i_law_compared {d : D} {op : Str} {e : D} {Qd : D → List D → Prop} {Qe : Exn → List D → Prop} (h : ∃ a b, d = vd a ∧ e = vd b ∧ op ∈ opsL ∧ Qd (.int (cmpR a op b)) []) : sp_law_compared [d, .str op, e] Qd Qe := ⟨_, _, _, rfl, h⟩
def sp_law_joined : SpD := fun ds Qd _ => ∃ (w : Str) (l : List D), ds = [.str w, .lst l] ∧ ∃ b rs, w = jnW b ∧ l = itsD rs ∧ rs ≠ [] ∧ Qd (.int (jnRs b rs)) []
theorem len_law_joined : ∀ ds Qd Qe, sp_law_joined ds Qd Qe → ds.length = 2 := by rintro _ _ _ ⟨_, _, rfl, _⟩; rfl
theorem i_law_joined {w : Str} {l : List D} {Qd : D → List D → Prop} {Qe : Exn → List D → Prop} (h : ∃ b rs, w = jnW b ∧ l = itsD rs ∧ rs ≠ [] ∧ Qd (.int (jnRs b rs)) []) : sp_law_joined [.str w, .lst l] Qd Qe := ⟨_, _, rfl, h⟩
def sp_law_rank : SpD := fun ds Qd _ => ∃ (l xs vs : List D), ds = [.lst l, .lst xs, .lst vs] ∧ ∃ (t : Ct) (ys : List Str) (ws : List (Option Int)), l = t.steps ∧ xs = txs ys ∧ vs = vals ws ∧ t.Ok ys ∧ t.size ≤ 1000 ∧ ys.length = ws.length ∧ Qd (.int (t.rk (look ys ws))) []
theorem len_law_rank : ∀ ds Qd Qe, sp_law_rank ds Qd Qe → ds.length = 3 := by rintro _ _ _ ⟨_, _, _, rfl, _⟩; rfl
theorem i_law_rank {l xs vs : List D} {Qd : D → List D → Prop} {Qe : Exn → List D → Prop} (h : ∃ (t : Ct) (ys : List Str) (ws : List (Option Int)), l = t.steps ∧ xs = txs ys ∧ vs = vals ws ∧ t.Ok ys ∧ t.size ≤ 1000 ∧ ys.length = ws.length ∧ Qd (.int (t.rk (look ys ws))) []) : sp_law_rank [.lst l, .lst xs, .lst vs] Qd Qe := ⟨_, _, _, rfl, h⟩
end DL

namespace DL
open PySem L2

def b_law_cells_1 : TDS :=
 (dIfS (dTest (dOp eqD (dCallIO 0 sp_law_draw (dCons (dC (.int 4)) dNil)) (dC (.int 3)))) (dDrop (dLM 3 appM (dCons (dC .non) dNil))) (dDrop (dLM 3 appM (dCons (dCallIO 0 sp_law_near (dCons (dVar 2) dNil)) dNil))))

/-- _law_cells(state, many, centres); names 0:state 1:many 2:centres 3:values 4:k -/
def b_law_cells : TDS :=
 (dSeq (dSetO 3 (dLst dNil)) (dSeq (dFor (diRng1 (dCons (dVar 1) dNil)) (dgName 4) b_law_cells_1) (dRet (dVar 3))))

/-- _law_value(shape, names, values); names 0:shape 1:names 2:values 3:value -/
def b_law_value : TDS :=
 (dSeq (dIfS (dTest (dOp (isD false) (dVar 0) (dC .non))) (dRet (dC .non)) dNext) (dSeq (dIfS (dTest (dOp (isD false) (dOp ixD (dVar 0) (dC (.int 0))) (dC .non))) (dRet (dOp ixD (dVar 0) (dC (.int 1)))) dNext) (dSeq (dSet 3 (dOp ixD (dVar 2) (dLix (dVar 1) (dOp ixD (dVar 0) (dC (.int 0)))))) (dSeq (dIfS (dTest (dOp (isD false) (dVar 3) (dC .non))) (dRet (dC .non)) dNext) (dRet (dOp addD (dVar 3) (dOp ixD (dVar 0) (dC (.int 1)))))))))

/-- _law_compared(left, op, right); names 0:left 1:op 2:right 3:holds -/
def b_law_compared : TDS :=
 (dSeq (dIfS (dOr (dTest (dOp (isD false) (dVar 0) (dC .non))) (dTest (dOp (isD false) (dVar 2) (dC .non)))) (dRet (dC (.int 1))) dNext) (dSeq (dSet 3 (dDisp [("<", (dOp ltD (dVar 0) (dVar 2))), ("<=", (dOp leD (dVar 0) (dVar 2))), ("=", (dOp eqD (dVar 0) (dVar 2))), ("!=", (dOp neD (dVar 0) (dVar 2))), (">=", (dOp geD (dVar 0) (dVar 2))), (">", (dOp gtD (dVar 0) (dVar 2)))])) (dRet (dOp mulD (dC (.int 2)) (dBlt intD (dCons (dOp ixD (dVar 3) (dVar 1)) dNil))))))

def b_law_joined_1 : TDS :=
 (dIfS (dOr (dAnd (dTest (dOp eqD (dVar 0) (dC (.str "both")))) (dTest (dOp ltD (dVar 3) (dVar 2)))) (dAnd (dTest (dOp eqD (dVar 0) (dC (.str "either")))) (dTest (dOp gtD (dVar 3) (dVar 2))))) (dSet 2 (dVar 3)) dNext)

/-- _law_joined(word, ranks); names 0:word 1:ranks 2:found 3:rank -/
def b_law_joined : TDS :=
 (dSeq (dSet 2 (dOp ixD (dVar 1) (dC (.int 0)))) (dSeq (dFor (diSeq (dVar 1)) (dgName 3) b_law_joined_1) (dRet (dVar 2))))

def b_law_rank_1 : TDS :=
 (dIfS (dTest (dOp eqD (dOp ixD (dVar 5) (dC (.int 0))) (dC (.str "compare")))) (dSeq (dSet 6 (dCall sp_law_value (dCons (dOp ixD (dVar 5) (dC (.int 1))) (dCons (dVar 1) (dCons (dVar 2) dNil))))) (dDrop (dLM 4 appM (dCons (dCall sp_law_compared (dCons (dVar 6) (dCons (dOp ixD (dVar 5) (dC (.int 2))) (dCons (dCall sp_law_value (dCons (dOp ixD (dVar 5) (dC (.int 3))) (dCons (dVar 1) (dCons (dVar 2) dNil)))) dNil)))) dNil)))) (dIfS (dTest (dOp eqD (dOp ixD (dVar 5) (dC (.int 0))) (dC (.str "missing")))) (dDrop (dLM 4 appM (dCons (dOp mulD (dC (.int 2)) (dBlt intD (dCons (dOp (isD false) (dCall sp_law_value (dCons (dOp ixD (dVar 5) (dC (.int 1))) (dCons (dVar 1) (dCons (dVar 2) dNil)))) (dC .non)) dNil))) dNil))) (dIfS (dTest (dOp eqD (dOp ixD (dVar 5) (dC (.int 0))) (dC (.str "not")))) (dDrop (dLM 4 appM (dCons (dOp subD (dC (.int 2)) (dLM 4 popM dNil)) dNil))) (dIfS (dTest (dOp eqD (dOp ixD (dVar 5) (dC (.int 0))) (dC (.str "test")))) (dDrop (dLM 4 appM (dCons (dOp mulD (dC (.int 2)) (dBlt intD (dCons (dOp eqD (dOp ixD (dVar 3) (dLM 4 popM dNil)) (dOp ixD (dVar 5) (dC (.int 1)))) dNil))) dNil))) (dIfS (dTest (dOp eqD (dBlt lenD (dCons (dVar 5) dNil)) (dC (.int 1)))) (dDrop (dLM 4 appM (dCons (dOp ixD (dDisp [("always", (dC (.int 2))), ("never", (dC (.int 0))), ("maybe", (dC (.int 1)))]) (dOp ixD (dVar 5) (dC (.int 0)))) dNil))) (dSeq (dSet 7 (dSlV 4 (dSomeP (dOp subD (dLenV 4) (dOp ixD (dVar 5) (dC (.int 1))))) dNoP)) (dSeq (dSetO 4 (dSlV 4 dNoP (dSomeP (dOp subD (dLenV 4) (dOp ixD (dVar 5) (dC (.int 1))))))) (dDrop (dLM 4 appM (dCons (dCall sp_law_joined (dCons (dOp ixD (dVar 5) (dC (.int 0))) (dCons (dVar 7) dNil))) dNil))))))))))

/-- _law_rank(steps, names, values); names 0:steps 1:names 2:values 3:words 4:stack 5:step 6:left 7:ranks -/
def b_law_rank : TDS :=
 (dSeq (dSet 3 (dLst (dCons (dC (.str "false")) (dCons (dC (.str "unknown")) (dCons (dC (.str "true")) dNil))))) (dSeq (dSetO 4 (dLst dNil)) (dSeq (dFor (diSeq (dVar 0)) (dgName 5) b_law_rank_1) (dRet (dIxV 4 (dC (.int 0)))))))
end DL

namespace DL
open PySem L2

theorem vals_snoc {vs : List (Option Int)} {v : Option Int} : vals (vs ++ [v]) = vals vs ++ [vd v] := by simp [vals]
theorem vals_len {vs : List (Option Int)} : (vals vs).length = vs.length := by simp [vals]
theorem itsD_snoc {vs : List Int} {v : Int} : itsD (vs ++ [v]) = itsD vs ++ [.int v] := by simp [itsD]
theorem itsD_len {vs : List Int} : (itsD vs).length = vs.length := by simp [itsD]
@[simp] theorem isNon_vd {v : Option Int} : isNon (vd v) = v.isNone := by cases v <;> rfl
theorem lp_cells {B : DEnds} {e1 : Option Ent} {c : D} (hc : cenOk c) : ∀ (n : Nat) (lo : Int) (vs : List (Option Int)) (st : D) (e4 : Option Ent), StOk st → vs.length + n ≤ 1000 → (∀ i, some i ∈ vs → Num i 2) →
    (∀ vs' st' e4, StOk st' → vs'.length = vs.length + n → (∀ i, some i ∈ vs' → Num i 2) → B.nx [some (.ow true st'), e1, some (.fz c), some (.ow false (.lst (vals vs'))), e4]) →
    loopD (dgName 4) b_law_cells_1 B (rangeD lo n) [some (.ow true st), e1, some (.fz c), some (.ow false (.lst (vals vs))), e4]
  | 0, lo, vs, st, e4, s0, hn, hv, h => by
    rw [rangeD_zero]
    exact h vs st e4 s0 rfl hv
  | n + 1, lo, vs, st, e4, s0, hn, hv, h => by
    have ih := fun v (hv' : ∀ i, v = some i → Num i 2) st s0 => lp_cells (B := B) (e1 := e1) hc n (lo + 1) (vs ++ [v]) st (some (.fz (.int lo))) s0 (by simp; omega) (fun i m => by
      rcases List.mem_append.mp m with m | m
      · exact hv i m
      · exact hv' i (List.mem_singleton.mp m).symm) (fun vs' st' e4 s1 hl => h vs' st' e4 s1 (by simp at hl; omega))
    have la : vs.length < 16777216 := by omega
    rw [rangeD_succ]
    simp [loopD, b_law_cells_1, s0]
    refine ⟨many_ok (by omega) (by omega), fun r st' r0 r1 s1 => ?_⟩
    split
    · have ih := ih none (fun i e => by cases e) st' s1
      rw [vals_snoc] at ih
      exact ⟨by rw [vals_len]; exact la, ih⟩
    · refine ⟨s1, hc, fun k st' hk s1 => ?_⟩
      have ih := ih (some k) (fun i e => by cases e; exact hk) st' s1
      rw [vals_snoc] at ih
      exact ⟨by rw [vals_len]; exact la, ih⟩
theorem rd_law_cells : ∀ ds Qd Qe, sp_law_cells ds Qd Qe → b_law_cells (endsD [0] Qd Qe) (startE 5 [0] ds) := by
  rintro ds Qd Qe ⟨st, many, c, rfl, s0, hc, m0, m1, h⟩
  simp [b_law_cells, startE]
  refine ⟨by omega, by omega, ?_⟩
  refine lp_cells hc many.toNat 0 [] st none s0 (by simp; omega) (fun i m => by simp at m) fun vs st e4 s1 hl hv => ?_
  have h := h vs st (by simp at hl; omega) hv s1
  simpa using h
theorem look_at : ∀ (xs : List Str) (vs : List (Option Int)) (x : Str) (j : Nat), xs.length = vs.length → xs[j]? = some x → (∀ m, m < j → xs[m]? ≠ some x) → vs[j]? = some (look xs vs x)
  | [], _, x, j, _, h, _ => by simp at h
  | y :: xs, [], x, j, hl, _, _ => by simp at hl
  | y :: xs, v :: vs, x, 0, hl, h, hm => by
    simp at h
    simp [look, h]
  | y :: xs, v :: vs, x, j + 1, hl, h, hm => by
    have n : ¬ y = x := fun e => hm 0 (by omega) (by simp [e])
    have ih := look_at xs vs x j (by simpa using hl) (by simpa using h) (fun m q e => hm (m + 1) (by omega) (by simpa using e))
    simpa [look, n] using ih
theorem ix_first : ∀ (xs : List Str) (x : Str), x ∈ xs → ∃ j : Nat, xs[j]? = some x ∧ ∀ m : Nat, m < j → xs[m]? ≠ some x
  | y :: xs, x, m => by
    by_cases e : y = x
    · exact ⟨0, by simp [e], fun m h => absurd h (Nat.not_lt_zero _)⟩
    · obtain ⟨j, h1, h2⟩ := ix_first xs x (by
        rcases List.mem_cons.mp m with q | q
        · exact absurd q.symm e
        · exact q)
      refine ⟨j + 1, by simpa using h1, fun m h => ?_⟩
      cases m with
      | zero => simpa using e
      | succ m => simpa using h2 m (by omega)
theorem txs_flat : ∀ xs : List Str, (txs xs).all flatD = true
  | [] => rfl
  | x :: xs => by
    have := txs_flat xs
    simp only [txs, List.map_cons, List.all_cons] at this ⊢
    simp [this, flatD]
/-- names.index(x) of a name that is there, and what stands at its place -/
theorem lix_txs {xs : List Str} {vs : List (Option Int)} {x : Str} {P : Nat → Prop} (hm : x ∈ xs) (hl : xs.length = vs.length) (h : ∀ j : Nat, atI (vals vs) (j : Int) = some (vd (look xs vs x)) → P j) :
    flatD (.str x) = true ∧ (∀ d ∈ txs xs, flatD d = true) ∧ ∃ (j : Nat) (e : D), (txs xs)[j]? = some e ∧ eqFD e (.str x) = true ∧ (∀ m e', m < j → (txs xs)[m]? = some e' → eqFD e' (.str x) = false) ∧ P j := by
  obtain ⟨j, h1, h2⟩ := ix_first xs x hm
  refine ⟨rfl, List.all_eq_true.mp (txs_flat xs), j, .str x, by simp [txs, h1], by simp [eqFD], fun m e' q he => ?_, ?_⟩
  · simp only [txs, List.getElem?_map] at he
    cases e : xs[m]? with
    | none => rw [e] at he; cases he
    | some y =>
      rw [e] at he
      cases he
      have : ¬ y = x := fun z => h2 m q (by rw [e, z])
      simpa [eqFD] using this
  · refine h j ?_
    rw [atI_nonneg (j := j) (by simp)]
    have := look_at xs vs x j hl h1 h2
    simp only [vals, List.getElem?_map, this]
    rfl
theorem rd_law_value : ∀ ds Qd Qe, sp_law_value ds Qd Qe → b_law_value (endsD [] Qd Qe) (startE 4 [] ds) := by
  rintro ds Qd Qe ⟨d, xs, vs, rfl, s, ys, ws, rfl, rfl, rfl, ok, hl, h⟩
  cases s with
  | non => simpa [b_law_value, startE, Sh.d, Sh.val, vd] using h
  | num n => simpa [b_law_value, startE, Sh.d, Sh.val, vd, isNon] using h
  | col x n =>
    simp [b_law_value, startE, Sh.d, isNon]
    refine lix_txs (vs := ws) ok.1 hl (fun j hj => ?_)
    refine ⟨_, hj, ?_⟩
    simp only [Sh.val] at h
    cases e : look ys ws x with
    | none =>
      rw [e] at h
      simpa [vd] using h
    | some k =>
      rw [e] at h
      simpa [vd] using h
theorem ops_cases {op : Str} (h : op ∈ opsL) : op = "<" ∨ op = "<=" ∨ op = "=" ∨ op = "!=" ∨ op = ">=" ∨ op = ">" := by simpa [opsL] using h
theorem rd_law_compared : ∀ ds Qd Qe, sp_law_compared ds Qd Qe → b_law_compared (endsD [] Qd Qe) (startE 4 [] ds) := by
  rintro ds Qd Qe ⟨d, op, e, rfl, a, b, rfl, rfl, ho, h⟩
  cases a with
  | none => simpa [b_law_compared, startE, vd, cmpR] using h
  | some x =>
    cases b with
    | none => simpa [b_law_compared, startE, vd, cmpR] using h
    | some y =>
      simp [b_law_compared, startE, vd]
      have t1 : ∀ (p : Prop) [Decidable p], (2 : Int) * (if p then 1 else 0) = if p then 2 else 0 := fun p _ => by split <;> rfl
      have t2 : ∀ (p : Prop) [Decidable p], (2 : Int) * (if p then 0 else 1) = if p then 0 else 2 := fun p _ => by split <;> rfl
      simp only [cmpR, vd] at h
      rcases ops_cases ho with rfl | rfl | rfl | rfl | rfl | rfl
      all_goals
        simp [isNon]
        refine ⟨by decide, _, by rfl, ?_⟩
        simp
        refine ⟨mul_l (by omega) (by omega), ?_⟩
      · simpa [cmpB, t1, t2] using h
      · simpa [cmpB, t1, t2] using h
      · simpa [cmpB, t1, t2] using h
      · simpa [cmpB, t1, t2] using h
      · simpa [cmpB, t1, t2] using h
      · simpa [cmpB, t1, t2] using h
theorem lp_jn {B : DEnds} {e1 : Option Ent} {b : Bool} : ∀ (rs : List Int) (r : Int) (e3 : Option Ent), (∀ e3, B.nx [some (.fz (.str (jnW b))), e1, some (.fz (.int (jnR b r rs))), e3]) →
    loopD (dgName 3) b_law_joined_1 B (itsD rs) [some (.fz (.str (jnW b))), e1, some (.fz (.int r)), e3]
  | [], r, e3, h => h e3
  | s :: rs, r, e3, h => by
    have ih := lp_jn (B := B) (e1 := e1) (b := b) rs (jn2 b r s) (some (.fz (.int s))) h
    cases b with
    | true =>
      simp only [jn2, if_true] at ih
      simp [itsD, loopD, b_law_joined_1, jnW]
      split
      · rename_i q
        rw [if_pos q] at ih
        exact ih
      · rename_i q
        rw [if_neg q] at ih
        exact ih
    | false =>
      simp only [jn2] at ih
      simp [itsD, loopD, b_law_joined_1, jnW]
      split
      · rename_i q
        simp [q] at ih
        exact ih
      · rename_i q
        simp [q] at ih
        exact ih
theorem rd_law_joined : ∀ ds Qd Qe, sp_law_joined ds Qd Qe → b_law_joined (endsD [] Qd Qe) (startE 4 [] ds) := by
  rintro ds Qd Qe ⟨w, l, rfl, b, rs, rfl, rfl, hn, h⟩
  cases rs with
  | nil => exact absurd rfl hn
  | cons r rs =>
    simp [b_law_joined, startE]
    refine ⟨.int r, (atI_nonneg (i := 0) (j := 0) rfl).trans rfl, ?_⟩
    refine lp_jn (r :: rs) r none fun e3 => ?_
    simp
    exact h
theorem rkL_map {v : Str → Option Int} : ∀ cs : List Ct, rkL v cs = cs.map (Ct.rk v)
  | [] => rfl
  | c :: cs => by simp [rkL, rkL_map cs]
def R3 (r : Int) : Prop := r = 0 ∨ r = 1 ∨ r = 2
theorem jnR_range {b : Bool} : ∀ (rs : List Int) (r : Int), R3 r → (∀ s ∈ rs, R3 s) → R3 (jnR b r rs)
  | [], r, h, _ => h
  | s :: rs, r, h, hs => by
    refine jnR_range rs _ ?_ fun s m => hs s (by simp [m])
    have h2 := hs s (by simp)
    cases b <;> simp only [jn2] <;> (repeat' split) <;> assumption
mutual
theorem rk_range {v : Str → Option Int} : ∀ t : Ct, R3 (t.rk v)
  | .cmp a op b => by
    simp only [Ct.rk, cmpR, R3]
    split <;> (try split) <;> simp
  | .mis a => by
    simp only [Ct.rk, R3]
    split <;> simp
  | .cst w => by
    simp only [Ct.rk, cstR, R3]
    repeat' split
    all_goals simp
  | .neg c => by
    have := rk_range (v := v) c
    simp only [Ct.rk, R3] at this ⊢
    omega
  | .tst c w => by
    simp only [Ct.rk, R3]
    split <;> simp
  | .jn b cs => by
    have h := rkL_range (v := v) cs
    simp only [Ct.rk]
    cases e : rkL v cs with
    | nil => left; rfl
    | cons r rs =>
      rw [e] at h
      exact jnR_range (r :: rs) r (h r (by simp)) h
theorem rkL_range {v : Str → Option Int} : ∀ cs : List Ct, ∀ s ∈ rkL v cs, R3 s
  | [], s, m => by simp [rkL] at m
  | c :: cs, s, m => by
    simp only [rkL, List.mem_cons] at m
    rcases m with rfl | m
    · exact rk_range c
    · exact rkL_range cs s m
end
def runV (B : DEnds) (e0 : Option Ent) (ys : List Str) (ws : List (Option Int)) (rest : List D) (xs : List Int) : Prop := ∀ e5 e6 e7, loopD (dgName 5) b_law_rank_1 B rest [e0, some (.fz (.lst (txs ys))), some (.fz (.lst (vals ws))), some (.fz (.lst [.str "false", .str "unknown", .str "true"])), some (.ow false (.lst (itsD xs))), e5, e6, e7]
theorem run_rank {B : DEnds} {e0 : Option Ent} {ys : List Str} {ws : List (Option Int)} (hl : ys.length = ws.length) : StepsRun ys (Ct.rk (look ys ws)) 1000 (runV B e0 ys ws) where
  leaf := fun t d xs rest ok hz e hn h e5 e6 e7 => by
    have h := h (some (.fz d))
    rw [itsD_snoc] at h
    have hl2 : xs.length < 16777216 := by omega
    rcases leaf_cases ok hz e with ⟨a, op, b, rfl, rfl⟩ | ⟨a, rfl, rfl⟩ | ⟨w, rfl, rfl⟩
    · simp [loopD, b_law_rank_1]
      refine i_law_value ⟨a, ys, ws, rfl, rfl, rfl, ok.1, hl, ?_⟩
      refine i_law_value ⟨b, ys, ws, rfl, rfl, rfl, ok.2.2, hl, ?_⟩
      refine i_law_compared ⟨_, _, rfl, rfl, ok.2.1, ?_⟩
      exact ⟨by rw [itsD_len]; exact hl2, h _ _⟩
    · simp [loopD, b_law_rank_1]
      refine i_law_value ⟨a, ys, ws, rfl, rfl, rfl, ok, hl, ?_⟩
      simp [itsD_len, hl2]
      refine ⟨mul_l (by omega) (by omega), ?_⟩
      have e : (2 : Int) * (if a.val (look ys ws) = none then 1 else 0) = if a.val (look ys ws) = none then 2 else 0 := by split <;> rfl
      rw [e]
      exact h _ _
    · rcases cst_cases ok with rfl | rfl | rfl
      all_goals
        simp [loopD, b_law_rank_1, itsD_len, hl2]
        refine ⟨by decide, _, by rfl, ?_⟩
        exact h _ _
  neg := fun c xs rest ok hn h e5 e6 e7 => by
    have hl2 : xs.length < 16777216 := by omega
    have h := h (some (.fz (.tup [.str "not"]))) e6 e7
    rw [itsD_snoc] at h ⊢
    simp [loopD, b_law_rank_1, itsD_len, hl2]
    exact h
  tst := fun c w xs rest ok hw hn h e5 e6 e7 => by
    have hl2 : xs.length < 16777216 := by omega
    have h := h (some (.fz (.tup [.str "test", .str w]))) e6 e7
    rw [itsD_snoc] at h ⊢
    simp only [Ct.rk] at h
    have r := rk_range (v := look ys ws) c
    generalize c.rk (look ys ws) = k at r h ⊢
    rcases r with rfl | rfl | rfl <;> rcases wrd_cases hw with rfl | rfl | rfl <;> simp [loopD, b_law_rank_1, itsD_len, hl2]
    all_goals exact ⟨mul_l (by omega) (by omega), h⟩
  jn := fun b cs xs rest h2 h4 ok hn h e5 e6 e7 => by
    have hl2 : xs.length < 16777216 := by omega
    have h := h (some (.fz (.tup [.str (jnW b), .int cs.length]))) e6 (some (.fz (.lst (itsD (cs.map (Ct.rk (look ys ws)))))))
    have hm := rkL_map (v := look ys ws) cs
    simp only [Ct.rk, itsD_snoc, hm] at h
    have e : itsD (xs ++ cs.map (Ct.rk (look ys ws))) = itsD xs ++ itsD (cs.map (Ct.rk (look ys ws))) := by simp [itsD]
    have ct : cutD (itsD xs ++ itsD (cs.map (Ct.rk (look ys ws)))) (some (xs.length : Int)) none = itsD (cs.map (Ct.rk (look ys ws))) := cut_tail (by rw [itsD_len])
    have ch : cutD (itsD xs ++ itsD (cs.map (Ct.rk (look ys ws)))) none (some (xs.length : Int)) = itsD xs := cut_head (by rw [itsD_len])
    have w1 : jnW b ≠ "not" := by cases b <;> decide
    have w2 : jnW b ≠ "test" := by cases b <;> decide
    have w3 : jnW b ≠ "compare" := by cases b <;> decide
    have w4 : jnW b ≠ "missing" := by cases b <;> decide
    have h0 : cs.map (Ct.rk (look ys ws)) ≠ [] := by
      intro z
      rw [List.map_eq_nil_iff] at z
      rw [z] at h2
      simp at h2
    rw [e]
    simp [loopD, b_law_rank_1, itsD_len, w1, w2, w3, w4, ct, ch]
    refine i_law_joined ⟨b, _, rfl, rfl, h0, ?_⟩
    exact ⟨hl2, h⟩
theorem rd_law_rank : ∀ ds Qd Qe, sp_law_rank ds Qd Qe → b_law_rank (endsD [] Qd Qe) (startE 8 [] ds) := by
  rintro ds Qd Qe ⟨l, xs, vs, rfl, t, ys, ws, rfl, rfl, rfl, ok, hz, hl, h⟩
  simp [b_law_rank, startE]
  have e : t.steps = t.steps ++ [] := by simp
  rw [e]
  refine (run_rank (ys := ys) hl).go t ok [] [] (by simpa using hz) (fun e5 e6 e7 => ?_) none none none
  simpa [loopD, itsD] using h
end DL

namespace DL
open PySem L2

/-! ### plain law: possible truths hold for a row whose answers they are -/
def sv (v : Str → Option Int) : Option Str → Int
  | none => 0
  | some x => (v x).getD 0
def Kn (v : Str → Option Int) : Option Str → Prop
  | none => True
  | some x => v x ≠ none
def An.Tr (v : Str → Option Int) : An → Prop
  | .unk x b => b = decide (v x = none)
  | .mst l r s b => Kn v l ∧ Kn v r ∧ b = decide (sv v l - sv v r ≤ s)
def AllTr (v : Str → Option Int) (as : List An) : Prop := ∀ a ∈ as, a.Tr v
def T3.at (x : T3) (r : Int) : Bool := if r = 0 then x.f else if r = 1 then x.u else x.t
def T3.of (r : Int) : T3 := ⟨decide (r = 0), decide (r = 1), decide (r = 2)⟩
theorem asked_mem {x : Str} {b : Bool} : ∀ {as : List An}, asked as x = some b → .unk x b ∈ as
  | [], h => by cases h
  | .mst _ _ _ _ :: as, h => by
    simp only [asked] at h
    exact List.mem_cons_of_mem _ (asked_mem h)
  | .unk y c :: as, h => by
    simp only [asked] at h
    split at h
    · rename_i e
      cases h
      subst e
      exact List.mem_cons_self
    · exact List.mem_cons_of_mem _ (asked_mem h)
theorem asked_cols {x : Str} : ∀ {as : List An}, x ∈ cols as → asked as x ≠ none
  | .mst _ _ _ _ :: as, h => by
    simp only [asked, cols] at h ⊢
    exact asked_cols h
  | .unk y c :: as, h => by
    simp only [asked, cols, List.mem_cons] at h ⊢
    split
    · simp
    · rename_i e
      rcases h with rfl | h
      · exact absurd rfl e
      · exact asked_cols h
theorem hasB_iff {l r : Option Str} {s : Int} : ∀ {as : List An}, hasB as l r s = true ↔ ∃ l' r' s' b, An.mst l' r' s' b ∈ as ∧ bnL l' r' b = l ∧ bnL r' l' b = r ∧ bnS s' b ≤ s
  | [] => by simp [hasB]
  | .unk _ _ :: as => by
    have ih := hasB_iff (l := l) (r := r) (s := s) (as := as)
    simp only [hasB, ih]
    constructor
    · rintro ⟨l', r', s', b, m, h⟩
      exact ⟨l', r', s', b, List.mem_cons_of_mem _ m, h⟩
    · rintro ⟨l', r', s', b, m, h⟩
      rcases List.mem_cons.mp m with e | m
      · cases e
      · exact ⟨l', r', s', b, m, h⟩
  | .mst l0 r0 s0 b0 :: as => by
    have ih := hasB_iff (l := l) (r := r) (s := s) (as := as)
    simp only [hasB, Bool.or_eq_true, ih, Bool.and_eq_true, decide_eq_true_eq]
    constructor
    · rintro (⟨⟨h1, h2⟩, h3⟩ | ⟨l', r', s', b, m, h⟩)
      · exact ⟨l0, r0, s0, b0, List.mem_cons_self, h1, h2, h3⟩
      · exact ⟨l', r', s', b, List.mem_cons_of_mem _ m, h⟩
    · rintro ⟨l', r', s', b, m, h1, h2, h3⟩
      rcases List.mem_cons.mp m with e | m
      · cases e
        exact .inl ⟨⟨h1, h2⟩, h3⟩
      · exact .inr ⟨l', r', s', b, m, h1, h2, h3⟩
section
variable {v : Str → Option Int} {as : List An}
theorem hasB_sound (T : AllTr v as) {l r : Option Str} {s : Int} (h : hasB as l r s = true) : sv v l - sv v r ≤ s := by
  obtain ⟨l', r', s', b, m, rfl, rfl, h3⟩ := hasB_iff.mp h
  obtain ⟨_, _, e⟩ := T _ m
  cases b with
  | true =>
    have : sv v l' - sv v r' ≤ s' := by simpa using e.symm
    simp only [bnL, bnS, if_true] at h3 ⊢
    omega
  | false =>
    have : ¬ sv v l' - sv v r' ≤ s' := by simpa using e.symm
    simp only [bnL, bnS] at h3 ⊢
    simp at h3 ⊢
    omega
theorem stl_sound (T : AllTr v as) {l r : Option Str} {s : Int} {c : Bool} (h : stl as l r s = some c) : c = decide (sv v l - sv v r ≤ s) := by
  unfold stl at h
  split at h
  · rename_i e
    cases h
    subst e
    simp
  · split at h
    · rename_i e
      cases h
      simp [hasB_sound T e]
    · split at h
      · rename_i e
        cases h
        have := hasB_sound T e
        have : ¬ sv v l - sv v r ≤ s := by omega
        simp [this]
      · cases h
/-- a known shape's value by its side -/
theorem sh_known {a : Sh} (T : AllTr v as) (hu : unkB as a = false) (ho : opnB as a = false) : ∃ x, a.val v = some x ∧ x = sv v a.side + a.sh := by
  cases a with
  | non => cases hu
  | num n => exact ⟨n, rfl, by simp [Sh.side, Sh.sh, sv]⟩
  | col x n =>
    simp only [unkB, opnB, decide_eq_false_iff_not] at hu ho
    cases e : asked as x with
    | none => exact absurd e ho
    | some b =>
      cases b with
      | true => exact absurd e hu
      | false =>
        have t : false = decide (v x = none) := T _ (asked_mem e)
        have t : v x ≠ none := by simpa using t.symm
        cases ev : v x with
        | none => exact absurd ev t
        | some k => exact ⟨k + n, by simp [Sh.val, ev], by simp [Sh.side, Sh.sh, sv, ev]⟩
theorem sh_unknown {a : Sh} (T : AllTr v as) (hu : unkB as a = true) : a.val v = none := by
  cases a with
  | non => rfl
  | num n => cases hu
  | col x n =>
    simp only [unkB, decide_eq_true_eq] at hu
    have t : true = decide (v x = none) := T _ (asked_mem hu)
    have t : v x = none := by simpa using t.symm
    simp [Sh.val, t]
/-- the bounds of a comparison, all of them kept, are the comparison -/
theorem rests_law {a b : Sh} {op : Str} {x y : Int} (ho : op ∈ opsL) (hx : x = sv v a.side + a.sh) (hy : y = sv v b.side + b.sh) :
    ((rests a op b).all fun q => decide (sv v q.1 - sv v q.2.1 ≤ q.2.2)) = (cmpB x op y != decide (op = "!=")) := by
  rcases ops_cases ho with rfl | rfl | rfl | rfl | rfl | rfl <;> simp [rests, cmpB]
  all_goals first | omega | (rw [Bool.eq_iff_iff]; simp; omega)
theorem cmp_may_sound (T : AllTr v as) {a b : Sh} {op : Str} (ho : op ∈ opsL) : (cmpMay as a op b).at (cmpR (a.val v) op (b.val v)) = true := by
  unfold cmpMay
  split
  · rename_i h
    rcases Bool.or_eq_true_iff.mp h with h | h
    · simp [sh_unknown T h, cmpR, T3.at]
    · rw [sh_unknown T h]
      cases a.val v <;> simp [cmpR, T3.at]
  · rename_i h
    split
    · simp only [T3.at]
      repeat' split
      all_goals rfl
    · rename_i h'
      simp only [Bool.or_eq_true, not_or, Bool.not_eq_true] at h h'
      obtain ⟨x, ex, hx⟩ := sh_known T h.1 h'.1
      obtain ⟨y, ey, hy⟩ := sh_known T h.2 h'.2
      have rl := rests_law (op := op) ho hx hy
      rw [ex, ey]
      simp only [cmpR]
      have e1 : some false ∈ (rests a op b).map (fun q => stl as q.1 q.2.1 q.2.2) → (rests a op b).all (fun q => decide (sv v q.1 - sv v q.2.1 ≤ q.2.2)) = false := by
        intro m
        obtain ⟨q, hq, e⟩ := List.mem_map.mp m
        have := stl_sound T e
        rw [Bool.eq_false_iff]
        intro z
        have := List.all_eq_true.mp z q hq
        simp_all
      have e2 : ¬ some false ∈ (rests a op b).map (fun q => stl as q.1 q.2.1 q.2.2) → ¬ none ∈ (rests a op b).map (fun q => stl as q.1 q.2.1 q.2.2) → (rests a op b).all (fun q => decide (sv v q.1 - sv v q.2.1 ≤ q.2.2)) = true := by
        intro n1 n2
        rw [List.all_eq_true]
        intro q hq
        cases e : stl as q.1 q.2.1 q.2.2 with
        | none => exact absurd (List.mem_map.mpr ⟨q, hq, e⟩) n2
        | some c =>
          cases c with
          | false => exact absurd (List.mem_map.mpr ⟨q, hq, e⟩) n1
          | true => exact (stl_sound T e).symm
      rw [rl] at e1 e2
      generalize (rests a op b).map (fun q => stl as q.1 q.2.1 q.2.2) = fs at e1 e2 ⊢
      by_cases c1 : some false ∈ fs
      · have e1 := e1 c1
        by_cases c3 : op = "!=" <;> simp [c1, c3, T3.at, T3.mir] at e1 ⊢ <;> simp [e1]
      · by_cases c2 : none ∈ fs
        · by_cases c3 : op = "!=" <;> cases cmpB x op y <;> simp [c1, c2, c3, T3.at, T3.mir]
        · have e2 := e2 c1 c2
          by_cases c3 : op = "!=" <;> simp [c1, c2, c3, T3.at, T3.mir] at e2 ⊢ <;> simp [e2]
theorem mir_at {x : T3} {r : Int} (h : R3 r) (e : x.at r = true) : x.mir.at (2 - r) = true := by
  rcases h with rfl | rfl | rfl <;> simpa [T3.at, T3.mir] using e
theorem lst_at {x y : T3} {r s : Int} (h : R3 r) (h' : R3 s) (e : x.at r = true) (e' : y.at s = true) : (x.lst y).at (jn2 true r s) = true := by
  obtain ⟨f, u, t⟩ := x
  obtain ⟨f', u', t'⟩ := y
  rcases h with rfl | rfl | rfl <;> rcases h' with rfl | rfl | rfl <;> simp_all [T3.at, T3.lst, jn2]
theorem jn2_range {b : Bool} {r s : Int} (h : R3 r) (h' : R3 s) : R3 (jn2 b r s) := by
  cases b <;> simp only [jn2] <;> (repeat' split) <;> assumption
theorem both_at_ : ∀ (ps : List (T3 × Int)) (x : T3) (r : Int), (∀ p ∈ ps, R3 p.2 ∧ p.1.at p.2 = true) → R3 r → x.at r = true → (x.bth (ps.map (·.1))).at (jnR true r (ps.map (·.2))) = true
  | [], x, r, _, _, e => e
  | p :: ps, x, r, h, hr, e => by
    have hp := h p (by simp)
    exact both_at_ ps _ _ (fun q m => h q (by simp [m])) (jn2_range hr hp.1) (lst_at hr hp.1 e hp.2)
theorem jnR_top : ∀ {b : Bool} {rs : List Int}, rs ≠ [] → (∀ s ∈ rs, R3 s) → jnRs b rs = jnR b (if b = true then 2 else 0) rs
  | b, [], h, _ => absurd rfl h
  | b, r :: rs, _, h => by
    have hr := h r (by simp)
    have e1 : jn2 b r r = r := by cases b <;> simp [jn2]
    have e2 : jn2 b (if b = true then 2 else 0) r = r := by cases b <;> rcases hr with rfl | rfl | rfl <;> simp [jn2]
    simp only [jnRs, jnR, e1, e2]
theorem jnR_mir : ∀ (rs : List Int) (r : Int), jnR false r rs = 2 - jnR true (2 - r) (rs.map fun s => 2 - s)
  | [], r => by simp only [jnR, List.map_nil]; omega
  | s :: rs, r => by
    have ih := jnR_mir rs (jn2 false r s)
    have e : (2 : Int) - jn2 false r s = jn2 true (2 - r) (2 - s) := by
      simp only [jn2]
      simp
      split <;> rfl
    simp only [jnR, List.map_cons]
    rw [ih, e]
theorem jnd_at {b : Bool} (ps : List (T3 × Int)) (hn : ps ≠ []) (h : ∀ p ∈ ps, R3 p.2 ∧ p.1.at p.2 = true) : (T3.jnd b (ps.map (·.1))).at (jnRs b (ps.map (·.2))) = true := by
  rw [jnR_top (by simpa using hn) (fun s m => by
    obtain ⟨p, hp, rfl⟩ := List.mem_map.mp m
    exact (h p hp).1)]
  cases b with
  | true => exact both_at_ ps _ _ h (.inr (.inr rfl)) rfl
  | false =>
    have e := both_at_ (ps.map fun p => (p.1.mir, 2 - p.2)) ⟨false, false, true⟩ 2 (fun q m => by
      obtain ⟨p, hp, rfl⟩ := List.mem_map.mp m
      have := h p hp
      refine ⟨?_, mir_at this.1 this.2⟩
      rcases this.1 with e | e | e <;> simp only [R3, e] <;> simp) (.inr (.inr rfl)) rfl
    simp only [List.map_map] at e
    have e := mir_at (jnR_range _ _ (.inr (.inr rfl)) (fun s m => by
      obtain ⟨p, hp, rfl⟩ := List.mem_map.mp m
      rcases (h p hp).1 with e | e | e <;> simp only [R3, Function.comp, e] <;> simp)) e
    simp only [T3.jnd]
    rw [jnR_mir]
    simp only [List.map_map]
    simpa [Function.comp_def] using e
theorem two_at {k : Bool} : (⟨true, false, true⟩ : T3).at (if k = true then 2 else 0) = true := by cases k <;> rfl
theorem mis_may_sound (T : AllTr v as) (a : Sh) : (misMay as a).at (if a.val v = none then 2 else 0) = true := by
  cases a with
  | non => simp [misMay, Sh.val, T3.at]
  | num n => simp [misMay, Sh.val, T3.at]
  | col x n =>
    have e : ((Sh.col x n).val v = none) = (v x = none) := by simp [Sh.val]
    simp only [e, misMay]
    by_cases c : v x = none
    · rw [if_pos c]
      split
      · rename_i e
        have t : false = decide (v x = none) := T _ (asked_mem e)
        simp [c] at t
      · split <;> rfl
    · rw [if_neg c]
      split
      · rfl
      · split
        · rename_i e
          have t : true = decide (v x = none) := T _ (asked_mem e)
          simp [c] at t
        · rfl
mutual
theorem may_sound (T : AllTr v as) {ys : List Str} : ∀ t : Ct, t.Ok ys → (t.may as).at (t.rk v) = true
  | .cmp a op b, ok => cmp_may_sound T ok.2.1
  | .mis a, ok => mis_may_sound T a
  | .cst w, ok => by
    rcases cst_cases ok with rfl | rfl | rfl <;> simp [Ct.may, Ct.rk, cstMay, cstR, T3.at]
  | .neg c, ok => mir_at (rk_range c) (may_sound T c ok)
  | .tst c w, ok => by
    have e := may_sound T c ok.1
    have r := rk_range (v := v) c
    simp only [Ct.may, Ct.rk]
    generalize c.may as = x at e ⊢
    generalize c.rk v = k at e r ⊢
    obtain ⟨f, u, t⟩ := x
    rcases r with rfl | rfl | rfl <;> rcases wrd_cases ok.2 with rfl | rfl | rfl <;> simp [T3.at, T3.tst, wrdR] at e ⊢ <;> simp [e]
  | .jn b cs, ok => by
    have h := mayL_sound T cs ok.2.2
    have e1 : mayL as cs = (cs.map fun c => (c.may as, c.rk v)).map (·.1) := by rw [mayL_map, List.map_map]; rfl
    have e2 : rkL v cs = (cs.map fun c => (c.may as, c.rk v)).map (·.2) := by rw [rkL_map, List.map_map]; rfl
    simp only [Ct.may, Ct.rk]
    rw [e1, e2]
    refine jnd_at _ (fun z => ?_) fun p m => ?_
    · rw [List.map_eq_nil_iff] at z
      have := ok.1
      rw [z] at this
      simp at this
    · obtain ⟨c, hc, rfl⟩ := List.mem_map.mp m
      exact ⟨rk_range c, h c hc⟩
theorem mayL_sound (T : AllTr v as) {ys : List Str} : ∀ cs : List Ct, okL ys cs → ∀ c ∈ cs, (c.may as).at (c.rk v) = true
  | [], _, c, m => by simp at m
  | d :: cs, ok, c, m => by
    rcases List.mem_cons.mp m with e | m
    · rw [e]
      exact may_sound T d ok.1
    · exact mayL_sound T cs ok.2 c m
end
end
end DL

namespace DL
open PySem L2

/-! ### plain law: with all answers the one truth value -/
mutual
def Ct.Full (as : List An) : Ct → Prop
  | .cmp a op b => opnB as a = false ∧ opnB as b = false ∧ (unkB as a = false → unkB as b = false → ∀ q ∈ rests a op b, stl as q.1 q.2.1 q.2.2 ≠ none)
  | .mis a => opnB as a = false
  | .cst _ => True
  | .neg c => c.Full as
  | .tst c _ => c.Full as
  | .jn _ cs => fullL as cs
def fullL (as : List An) : List Ct → Prop
  | [] => True
  | c :: cs => c.Full as ∧ fullL as cs
end
theorem mir_of {r : Int} (h : R3 r) : (T3.of r).mir = T3.of (2 - r) := by
  rcases h with rfl | rfl | rfl <;> rfl
theorem lst_of {r s : Int} (h : R3 r) (h' : R3 s) : (T3.of r).lst (T3.of s) = T3.of (jn2 true r s) := by
  rcases h with rfl | rfl | rfl <;> rcases h' with rfl | rfl | rfl <;> rfl
theorem tst_of {r : Int} {w : Str} (h : R3 r) (hw : w ∈ wrdL) : (T3.of r).tst w = T3.of (if r = wrdR w then 2 else 0) := by
  rcases h with rfl | rfl | rfl <;> rcases wrd_cases hw with rfl | rfl | rfl <;> rfl
theorem both_of : ∀ (rs : List Int) (r : Int), (∀ s ∈ rs, R3 s) → R3 r → (T3.of r).bth (rs.map T3.of) = T3.of (jnR true r rs)
  | [], r, _, _ => rfl
  | s :: rs, r, h, hr => by
    have hs := h s (by simp)
    have ih := both_of rs (jn2 true r s) (fun q m => h q (by simp [m])) (jn2_range hr hs)
    rw [List.map_cons, T3.bth, lst_of hr hs, ih]
    rfl
theorem jnd_of {b : Bool} (rs : List Int) (hn : rs ≠ []) (h : ∀ s ∈ rs, R3 s) : T3.jnd b (rs.map T3.of) = T3.of (jnRs b rs) := by
  rw [jnR_top hn h]
  cases b with
  | true => exact both_of rs 2 h (.inr (.inr rfl))
  | false =>
    have hm : ∀ s ∈ rs.map (fun s => 2 - s), R3 s := fun s m => by
      obtain ⟨p, hp, rfl⟩ := List.mem_map.mp m
      rcases h p hp with e | e | e <;> simp only [R3, e] <;> simp
    have e : (rs.map T3.of).map T3.mir = (rs.map fun s => 2 - s).map T3.of := by
      rw [List.map_map, List.map_map]
      exact List.map_congr_left fun s m => mir_of (h s m)
    have e2 := both_of (rs.map fun s => 2 - s) 2 hm (.inr (.inr rfl))
    have e3 := mir_of (jnR_range (b := true) _ _ (.inr (.inr rfl)) hm)
    rw [← e2] at e3
    rw [jnR_mir]
    simp only [T3.jnd]
    rw [e]
    exact e3
section
variable {v : Str → Option Int} {as : List An}
theorem cmp_full (T : AllTr v as) {a b : Sh} {op : Str} (ho : op ∈ opsL) (f : (Ct.cmp a op b).Full as) : cmpMay as a op b = T3.of (cmpR (a.val v) op (b.val v)) := by
  obtain ⟨oa, ob, st⟩ := f
  unfold cmpMay
  split
  · rename_i h
    rcases Bool.or_eq_true_iff.mp h with h | h
    · rw [sh_unknown T h]
      rfl
    · rw [sh_unknown T h]
      cases a.val v <;> rfl
  · rename_i h
    rw [oa, ob]
    simp only [Bool.or_eq_true, not_or, Bool.not_eq_true] at h
    obtain ⟨x, ex, hx⟩ := sh_known T h.1 oa
    obtain ⟨y, ey, hy⟩ := sh_known T h.2 ob
    have rl := rests_law (op := op) ho hx hy
    have st := st h.1 h.2
    have e2 : ¬ none ∈ (rests a op b).map (fun q => stl as q.1 q.2.1 q.2.2) := fun m => by
      obtain ⟨q, hq, e⟩ := List.mem_map.mp m
      exact st q hq e
    have e1 : some false ∈ (rests a op b).map (fun q => stl as q.1 q.2.1 q.2.2) ↔ (rests a op b).all (fun q => decide (sv v q.1 - sv v q.2.1 ≤ q.2.2)) = false := by
      constructor
      · intro m
        obtain ⟨q, hq, e⟩ := List.mem_map.mp m
        have := stl_sound T e
        rw [Bool.eq_false_iff]
        intro z
        have := List.all_eq_true.mp z q hq
        simp_all
      · intro z
        obtain ⟨q, hq, e⟩ := List.all_eq_false.mp z
        refine List.mem_map.mpr ⟨q, hq, ?_⟩
        cases e3 : stl as q.1 q.2.1 q.2.2 with
        | none => exact absurd e3 (st q hq)
        | some c =>
          have := stl_sound T e3
          rw [this]
          simpa using e
    rw [ex, ey]
    rw [rl] at e1
    simp only [cmpR]
    generalize (rests a op b).map (fun q => stl as q.1 q.2.1 q.2.2) = fs at e1 e2 ⊢
    by_cases c3 : op = "!="
    · subst c3
      cases c : cmpB x "!=" y <;> simp [c] at e1 <;> simp [e1, e2] <;> rfl
    · cases c : cmpB x op y <;> simp [c, c3] at e1 <;> simp [c3, e1, e2] <;> rfl
theorem mis_full (T : AllTr v as) (a : Sh) (f : opnB as a = false) : misMay as a = T3.of (if a.val v = none then 2 else 0) := by
  cases a with
  | non => simp [misMay, Sh.val, T3.of]
  | num n => simp [misMay, Sh.val, T3.of]
  | col x n =>
    have e : ((Sh.col x n).val v = none) = (v x = none) := by simp [Sh.val]
    simp only [e, misMay]
    simp only [opnB, decide_eq_false_iff_not] at f
    cases h : asked as x with
    | none => exact absurd h f
    | some b =>
      have t : b = decide (v x = none) := T _ (asked_mem h)
      cases b with
      | true =>
        have t : v x = none := by simpa using t.symm
        simp [t, T3.of]
      | false =>
        have t : v x ≠ none := by simpa using t.symm
        simp [t, T3.of]
mutual
theorem may_full (T : AllTr v as) {ys : List Str} : ∀ t : Ct, t.Ok ys → t.Full as → t.may as = T3.of (t.rk v)
  | .cmp a op b, ok, f => cmp_full T ok.2.1 f
  | .mis a, ok, f => mis_full T a f
  | .cst w, ok, f => by
    rcases cst_cases ok with rfl | rfl | rfl <;> simp [Ct.may, Ct.rk, cstMay, cstR, T3.of]
  | .neg c, ok, f => by
    simp only [Ct.may, Ct.rk, may_full T c ok f]
    exact mir_of (rk_range c)
  | .tst c w, ok, f => by
    simp only [Ct.may, Ct.rk, may_full T c ok.1 f]
    exact tst_of (rk_range c) ok.2
  | .jn b cs, ok, f => by
    have h := mayL_full T cs ok.2.2 f
    simp only [Ct.may, Ct.rk, h]
    refine jnd_of _ (fun z => ?_) (rkL_range cs)
    rw [rkL_map, List.map_eq_nil_iff] at z
    have := ok.1
    rw [z] at this
    simp at this
theorem mayL_full (T : AllTr v as) {ys : List Str} : ∀ cs : List Ct, okL ys cs → fullL as cs → mayL as cs = (rkL v cs).map T3.of
  | [], _, _ => rfl
  | c :: cs, ok, f => by
    simp only [mayL, rkL, List.map_cons, may_full T c ok.1 f.1, mayL_full T cs ok.2 f.2]
end
end
end DL

namespace DL
open PySem L2

abbrev Bd := Option Str × Option Str × Int
/-- the bounds on which a comparison rests, between two different known sides -/
def rbC (ss : List (Option Str)) (a : Sh) (op : Str) (b : Sh) : List Bd := match a, b with
  | .non, _ => []
  | _, .non => []
  | a, b => (rests a op b).filter fun q => decide (q.1 ≠ q.2.1) && (decide (q.1 ∈ ss) && decide (q.2.1 ∈ ss))
mutual
def Ct.rb (ss : List (Option Str)) : Ct → List Bd
  | .cmp a op b => rbC ss a op b
  | .mis _ => []
  | .cst _ => []
  | .neg c => c.rb ss
  | .tst c _ => c.rb ss
  | .jn _ cs => rbL ss cs
def rbL (ss : List (Option Str)) : List Ct → List Bd
  | [] => []
  | c :: cs => c.rb ss ++ rbL ss cs
end
/-- an answer that settles a bound -/
def Cov (q : Bd) : An → Prop
  | .mst l r s b => (bnL l r b = q.1 ∧ bnL r l b = q.2.1 ∧ bnS s b = q.2.2) ∨ (bnL l r b = q.2.1 ∧ bnL r l b = q.1 ∧ bnS s b = -q.2.2 - 1)
  | _ => False
def colA (v : Str → Option Int) (ys : List Str) : List An := ys.map fun x => .unk x (decide (v x = none))
def wdR (r : Int) : Str := if r = 0 then "false" else if r = 1 then "unknown" else "true"
def sp_law_resting : SpD := fun ds Qd _ => ∃ (l m : List D), ds = [.lst l, .lst m] ∧ ∃ (t : Ct) (ys : List Str) (ss : List (Option Str)), l = t.steps ∧ t.Ok ys ∧ t.size ≤ 1000 ∧ m = sds ss ∧ Qd (.lst (bds (t.rb ss))) []
theorem len_law_resting : ∀ ds Qd Qe, sp_law_resting ds Qd Qe → ds.length = 2 := by rintro _ _ _ ⟨_, _, rfl, _⟩; rfl
theorem i_law_resting {l m : List D} {Qd : D → List D → Prop} {Qe : Exn → List D → Prop} (h : ∃ (t : Ct) (ys : List Str) (ss : List (Option Str)), l = t.steps ∧ t.Ok ys ∧ t.size ≤ 1000 ∧ m = sds ss ∧ Qd (.lst (bds (t.rb ss))) []) : sp_law_resting [.lst l, .lst m] Qd Qe := ⟨_, _, rfl, h⟩
def sp_law_near_bound : SpD := fun ds Qd _ => ∃ (st : D) (l m : List D) (c : D), ds = [st, .lst l, .lst m, c] ∧ StOk st ∧ cenOk c ∧ ∃ (bs : List Bd) (ss : List (Option Str)), l = bds bs ∧ bs.length ≤ 10000 ∧ (∀ q ∈ bs, q.1 ∈ ss ∧ q.2.1 ∈ ss) ∧ m = sds ss ∧ 2 ≤ ss.length ∧ ss.length ≤ 100 ∧ ∀ x y s st', x ∈ ss → y ∈ ss → StOk st' → Qd (bd x y s) [st']
theorem len_law_near_bound : ∀ ds Qd Qe, sp_law_near_bound ds Qd Qe → ds.length = 4 := by rintro _ _ _ ⟨_, _, _, _, rfl, _⟩; rfl
theorem i_law_near_bound {st : D} {l m : List D} {c : D} {Qd : D → List D → Prop} {Qe : Exn → List D → Prop} (h : StOk st ∧ cenOk c ∧ ∃ (bs : List Bd) (ss : List (Option Str)), l = bds bs ∧ bs.length ≤ 10000 ∧ (∀ q ∈ bs, q.1 ∈ ss ∧ q.2.1 ∈ ss) ∧ m = sds ss ∧ 2 ≤ ss.length ∧ ss.length ≤ 100 ∧ ∀ x y s st', x ∈ ss → y ∈ ss → StOk st' → Qd (bd x y s) [st']) : sp_law_near_bound [st, .lst l, .lst m, c] Qd Qe := ⟨_, _, _, _, rfl, h⟩
def sp_law_known : SpD := fun ds Qd _ => ∃ (d : D) (xs vs : List D), ds = [d, .lst xs, .lst vs] ∧ ∃ (x : Option Str) (ys : List Str) (ws : List (Option Int)), d = sd x ∧ xs = txs ys ∧ vs = vals ws ∧ ys.length = ws.length ∧ Kn (look ys ws) x ∧ Qd (.int (sv (look ys ws) x)) []
theorem len_law_known : ∀ ds Qd Qe, sp_law_known ds Qd Qe → ds.length = 3 := by rintro _ _ _ ⟨_, _, _, rfl, _⟩; rfl
theorem i_law_known {d : D} {xs vs : List D} {Qd : D → List D → Prop} {Qe : Exn → List D → Prop} (h : ∃ (x : Option Str) (ys : List Str) (ws : List (Option Int)), d = sd x ∧ xs = txs ys ∧ vs = vals ws ∧ ys.length = ws.length ∧ Kn (look ys ws) x ∧ Qd (.int (sv (look ys ws) x)) []) : sp_law_known [d, .lst xs, .lst vs] Qd Qe := ⟨_, _, _, rfl, h⟩
def sp_law_answer : SpD := fun ds Qd _ => ∃ (st d : D) (xs vs : List D), ds = [st, d, .lst xs, .lst vs] ∧ StOk st ∧ ∃ (q : Bd) (ys : List Str) (ws : List (Option Int)), d = bd q.1 q.2.1 q.2.2 ∧ xs = txs ys ∧ vs = vals ws ∧ ys.length = ws.length ∧ Kn (look ys ws) q.1 ∧ Kn (look ys ws) q.2.1 ∧ ∀ a st', An.Tr (look ys ws) a → Cov q a → StOk st' → Qd a.d [st']
theorem len_law_answer : ∀ ds Qd Qe, sp_law_answer ds Qd Qe → ds.length = 4 := by rintro _ _ _ ⟨_, _, _, _, rfl, _⟩; rfl
theorem i_law_answer {st d : D} {xs vs : List D} {Qd : D → List D → Prop} {Qe : Exn → List D → Prop} (h : StOk st ∧ ∃ (q : Bd) (ys : List Str) (ws : List (Option Int)), d = bd q.1 q.2.1 q.2.2 ∧ xs = txs ys ∧ vs = vals ws ∧ ys.length = ws.length ∧ Kn (look ys ws) q.1 ∧ Kn (look ys ws) q.2.1 ∧ ∀ a st', An.Tr (look ys ws) a → Cov q a → StOk st' → Qd a.d [st']) : sp_law_answer [st, d, .lst xs, .lst vs] Qd Qe := ⟨_, _, _, _, rfl, h⟩
def sp_law_column_answers : SpD := fun ds Qd _ => ∃ (xs vs : List D), ds = [.lst xs, .lst vs] ∧ ∃ (ys : List Str) (ws : List (Option Int)), xs = txs ys ∧ vs = vals ws ∧ ys.length = ws.length ∧ ys.length ≤ 100 ∧ Qd (.lst (ans (colA (look ys ws) ys))) []
theorem len_law_column_answers : ∀ ds Qd Qe, sp_law_column_answers ds Qd Qe → ds.length = 2 := by rintro _ _ _ ⟨_, _, rfl, _⟩; rfl
theorem i_law_column_answers {xs vs : List D} {Qd : D → List D → Prop} {Qe : Exn → List D → Prop} (h : ∃ (ys : List Str) (ws : List (Option Int)), xs = txs ys ∧ vs = vals ws ∧ ys.length = ws.length ∧ ys.length ≤ 100 ∧ Qd (.lst (ans (colA (look ys ws) ys))) []) : sp_law_column_answers [.lst xs, .lst vs] Qd Qe := ⟨_, _, rfl, h⟩
def sp_law_some : SpD := fun ds Qd _ => ∃ (st : D) (l : List D), ds = [st, .lst l] ∧ StOk st ∧ ∃ as, l = ans as ∧ as.length ≤ 1000 ∧ ∀ bs st', List.Sublist bs as → StOk st' → Qd (.lst (ans bs)) [st']
theorem len_law_some : ∀ ds Qd Qe, sp_law_some ds Qd Qe → ds.length = 2 := by rintro _ _ _ ⟨_, _, rfl, _⟩; rfl
theorem i_law_some {st : D} {l : List D} {Qd : D → List D → Prop} {Qe : Exn → List D → Prop} (h : StOk st ∧ ∃ as, l = ans as ∧ as.length ≤ 1000 ∧ ∀ bs st', List.Sublist bs as → StOk st' → Qd (.lst (ans bs)) [st']) : sp_law_some [st, .lst l] Qd Qe := ⟨_, _, rfl, h⟩
def sp_law_has : SpD := fun ds Qd _ => ∃ (l : List D) (w : Str), ds = [.tup l, .str w] ∧ ∃ x : T3, l = txs x.words ∧ w ∈ x.words ∧ Qd (.bl true) []
theorem len_law_has : ∀ ds Qd Qe, sp_law_has ds Qd Qe → ds.length = 2 := by rintro _ _ _ ⟨_, _, rfl, _⟩; rfl
theorem i_law_has {l : List D} {w : Str} {Qd : D → List D → Prop} {Qe : Exn → List D → Prop} (h : ∃ x : T3, l = txs x.words ∧ w ∈ x.words ∧ Qd (.bl true) []) : sp_law_has [.tup l, .str w] Qd Qe := ⟨_, _, rfl, h⟩
def sp_law : SpD := fun ds Qd _ => ∃ js : List D, ds = [.lck js] ∧ AllI js ∧ Qd (.bl true) []
theorem len_law : ∀ ds Qd Qe, sp_law ds Qd Qe → ds.length = 1 := by rintro _ _ _ ⟨_, rfl, _⟩; rfl
@[simp ↓] theorem u_law {js : List D} {Qd : D → List D → Prop} {Qe : Exn → List D → Prop} : sp_law [.lck js] Qd Qe = (AllI js ∧ Qd (.bl true) []) := propext ⟨fun h => by
  obtain ⟨_, h, k⟩ := h
  cases h
  exact k, fun k => ⟨_, rfl, k⟩⟩
end DL

namespace DL
open PySem L2

def b_law_resting_1 : TDS :=
 (dIfS (dAnd (dTest (dOp neD (dOp ixD (dVar 4) (dC (.int 0))) (dOp ixD (dVar 4) (dC (.int 1))))) (dAnd (dTest (dOp (inD false) (dOp ixD (dVar 4) (dC (.int 0))) (dVar 1))) (dTest (dOp (inD false) (dOp ixD (dVar 4) (dC (.int 1))) (dVar 1))))) (dDrop (dLM 2 appM (dCons (dVar 4) dNil))) dNext)

def b_law_resting_2 : TDS :=
 (dIfS (dAnd (dTest (dOp eqD (dOp ixD (dVar 3) (dC (.int 0))) (dC (.str "compare")))) (dAnd (dTest (dOp (isD true) (dOp ixD (dVar 3) (dC (.int 1))) (dC .non))) (dTest (dOp (isD true) (dOp ixD (dVar 3) (dC (.int 3))) (dC .non))))) (dFor (diSeq (dCall sp_law_rests (dCons (dVar 3) dNil))) (dgName 4) b_law_resting_1) dNext)

/-- _law_resting(steps, sides); names 0:steps 1:sides 2:found 3:step 4:bound -/
def b_law_resting : TDS :=
 (dSeq (dSetO 2 (dLst dNil)) (dSeq (dFor (diSeq (dVar 0)) (dgName 3) b_law_resting_2) (dRet (dVar 2))))

/-- _law_column_answers(names, values); names 0:names 1:values 2:name -/
def b_law_column_answers : TDS :=
 (dRet (dLc [2] (diSeq (dVar 0)) (dgName 2) dYes (dTup (dCons (dC (.str "unknown")) (dCons (dVar 2) (dCons (dOp (isD false) (dOp ixD (dVar 1) (dLix (dVar 0) (dVar 2))) (dC .non)) dNil))))))

/-- _law_known(name, names, values); names 0:name 1:names 2:values -/
def b_law_known : TDS :=
 (dSeq (dIfS (dTest (dOp (isD false) (dVar 0) (dC .non))) (dRet (dC (.int 0))) dNext) (dRet (dOp ixD (dVar 2) (dLix (dVar 1) (dVar 0)))))

/-- _law_answer(state, bound, names, values); names 0:state 1:bound 2:names 3:values 4:holds -/
def b_law_answer : TDS :=
 (dSeq (dSet 4 (dOp leD (dOp subD (dCall sp_law_known (dCons (dOp ixD (dVar 1) (dC (.int 0))) (dCons (dVar 2) (dCons (dVar 3) dNil)))) (dCall sp_law_known (dCons (dOp ixD (dVar 1) (dC (.int 1))) (dCons (dVar 2) (dCons (dVar 3) dNil))))) (dOp ixD (dVar 1) (dC (.int 2))))) (dSeq (dIfS (dTest (dOp eqD (dCallIO 0 sp_law_draw (dCons (dC (.int 2)) dNil)) (dC (.int 1)))) (dRet (dTup (dCons (dC (.str "most")) (dCons (dOp ixD (dVar 1) (dC (.int 1))) (dCons (dOp ixD (dVar 1) (dC (.int 0))) (dCons (dOp subD (dOp subD (dC (.int 0)) (dOp ixD (dVar 1) (dC (.int 2)))) (dC (.int 1))) (dCons (dNotV (dVar 4)) dNil))))))) dNext) (dRet (dTup (dCons (dC (.str "most")) (dCons (dOp ixD (dVar 1) (dC (.int 0))) (dCons (dOp ixD (dVar 1) (dC (.int 1))) (dCons (dOp ixD (dVar 1) (dC (.int 2))) (dCons (dVar 4) dNil)))))))))

/-- _law_near_bound(state, resting, sides, centres); names 0:state 1:resting 2:sides 3:centres 4:bound 5:shift 6:left 7:right -/
def b_law_near_bound : TDS :=
 (dSeq (dIfS (dAnd (dTest (dOp gtD (dBlt lenD (dCons (dVar 1) dNil)) (dC (.int 0)))) (dTest (dOp ltD (dCallIO 0 sp_law_draw (dCons (dC (.int 4)) dNil)) (dC (.int 3))))) (dSeq (dSet 4 (dOp ixD (dVar 1) (dCallIO 0 sp_law_draw (dCons (dBlt lenD (dCons (dVar 1) dNil)) dNil)))) (dSeq (dSet 5 (dOp addD (dOp ixD (dVar 4) (dC (.int 2))) (dOp ixD (dLst (dCons (dC (.int 0)) (dCons (dC (.int 0)) (dCons (dUn negD (dC (.int 1))) (dCons (dC (.int 1)) (dCons (dUn negD (dC (.int 2))) (dCons (dC (.int 2)) dNil))))))) (dCallIO 0 sp_law_draw (dCons (dC (.int 6)) dNil))))) (dSeq (dIfS (dTest (dOp eqD (dCallIO 0 sp_law_draw (dCons (dC (.int 2)) dNil)) (dC (.int 1)))) (dRet (dTup (dCons (dOp ixD (dVar 4) (dC (.int 1))) (dCons (dOp ixD (dVar 4) (dC (.int 0))) (dCons (dOp subD (dOp subD (dC (.int 0)) (dVar 5)) (dC (.int 1))) dNil))))) dNext) (dRet (dTup (dCons (dOp ixD (dVar 4) (dC (.int 0))) (dCons (dOp ixD (dVar 4) (dC (.int 1))) (dCons (dVar 5) dNil)))))))) dNext) (dSeq (dSet 6 (dCallIO 0 sp_law_draw (dCons (dBlt lenD (dCons (dVar 2) dNil)) dNil))) (dSeq (dSet 7 (dOp modD (dBlt intD (dCons (dOp addD (dOp addD (dVar 6) (dC (.int 1))) (dCallIO 0 sp_law_draw (dCons (dOp subD (dBlt lenD (dCons (dVar 2) dNil)) (dC (.int 1))) dNil))) dNil)) (dBlt lenD (dCons (dVar 2) dNil)))) (dRet (dTup (dCons (dOp ixD (dVar 2) (dVar 6)) (dCons (dOp ixD (dVar 2) (dVar 7)) (dCons (dCallIO 0 sp_law_near (dCons (dVar 3) dNil)) dNil))))))))

def b_law_some_1 : TDS :=
 (dIfS (dTest (dOp neD (dCallIO 0 sp_law_draw (dCons (dC (.int 6)) dNil)) (dC (.int 5)))) (dIfS (dTest (dOp eqD (dOp ixD (dVar 4) (dC (.int 0))) (dC (.str "unknown")))) (dSeq (dDrop (dLM 2 appM (dCons (dOp ixD (dVar 4) (dC (.int 1))) dNil))) (dDrop (dLM 3 appM (dCons (dVar 4) dNil)))) (dIfS (dAnd (dOr (dTest (dOp (isD false) (dOp ixD (dVar 4) (dC (.int 1))) (dC .non))) (dTest (dInV false 2 (dOp ixD (dVar 4) (dC (.int 1)))))) (dOr (dTest (dOp (isD false) (dOp ixD (dVar 4) (dC (.int 2))) (dC .non))) (dTest (dInV false 2 (dOp ixD (dVar 4) (dC (.int 2))))))) (dDrop (dLM 3 appM (dCons (dVar 4) dNil))) dNext)) dNext)

/-- _law_some(state, answers); names 0:state 1:answers 2:asked 3:found 4:answer -/
def b_law_some : TDS :=
 (dSeq (dSetO 2 (dLst dNil)) (dSeq (dSetO 3 (dLst dNil)) (dSeq (dFor (diSeq (dVar 1)) (dgName 4) b_law_some_1) (dRet (dVar 3)))))

/-- _law_has(told, word); names 0:told 1:word 2:other -/
def b_law_has : TDS :=
 (dSeq (dIfS (dOr (dNot (dTru (dIsi (isiTup []) (dVar 0)))) (dTest (dOp (inD true) (dVar 1) (dVar 0)))) (dRet (dC (.bl false))) dNext) (dRet (dCall sp_law_same (dCons (dVar 0) (dCons (dBlt tupleD (dCons (dLc [2] (diSeq (dLst (dCons (dC (.str "false")) (dCons (dC (.str "unknown")) (dCons (dC (.str "true")) dNil))))) (dgName 2) (dTest (dOp (inD false) (dVar 2) (dVar 0))) (dVar 2)) dNil)) dNil)))))

def b_law_1 : TDS :=
 (dDrop (dLM 13 appM (dCons (dCallIO 1 sp_law_answer (dCons (dCallIO 1 sp_law_near_bound (dCons (dVar 10) (dCons (dVar 9) (dCons (dVar 4) dNil)))) (dCons (dVar 3) (dCons (dVar 5) dNil)))) dNil)))

def b_law_2 : TDS :=
 (dIfS (dTest (dOp gtD (dBlt lenD (dCons (dVar 9) dNil)) (dC (.int 1)))) (dFor (diRng1 (dCons (dCallIO 1 sp_law_draw (dCons (dC (.int 7)) dNil)) dNil)) (dgName 14) b_law_1) dNext)

def b_law_3 : TDS :=
 (dIfS (dNot (dTru (dCall sp_law_has (dCons (dCall sp_possible_truths (dCons (dVar 7) (dCons (dSl (dVar 15) dNoP (dSomeP (dVar 14))) dNil))) (dCons (dVar 8) dNil))))) (dRet (dC (.bl false))) dNext)

def b_law_4 : TDS :=
 (dSeq (dSet 17 (dLc [14] (diRng1 (dCons (dBlt lenD (dCons (dVar 16) dNil)) dNil)) (dgName 14) dYes (dOp ixD (dVar 16) (dOp subD (dOp subD (dBlt lenD (dCons (dVar 16) dNil)) (dC (.int 1))) (dVar 14))))) (dRet (dCall sp_law_same (dCons (dCall sp_possible_truths (dCons (dVar 7) (dCons (dOp addD (dVar 11) (dVar 17)) dNil))) (dCons (dTup (dCons (dVar 8) dNil)) dNil)))))

def b_law_5 : TDS :=
 (dSeq (dSet 16 (dLc [20] (diSeq (dOp addD (dSl (dVar 12) (dSomeP (dVar 2)) dNoP) (dVar 15))) (dgName 20) (dTest (dOp eqD (dOp ixD (dVar 20) (dC (.int 0))) (dC (.str "most")))) (dVar 20))) b_law_4)

def b_law_6 : TDS :=
 (dSeq (dSet 15 (dCallIO 1 sp_law_some (dCons (dVar 13) dNil))) (dSeq (dFor (diRng1 (dCons (dOp addD (dBlt lenD (dCons (dVar 15) dNil)) (dC (.int 1))) dNil)) (dgName 14) b_law_3) b_law_5))

def b_law_7 : TDS :=
 (dSeq (dSetO 13 (dList (dVar 11))) (dSeq b_law_2 b_law_6))

def b_law_8 : TDS :=
 (dSeq (dSet 12 (dOp addD (dVar 11) (dLc [19] (diSeq (dVar 10)) (dgName 19) dYes (dCallIO 1 sp_law_answer (dCons (dVar 19) (dCons (dVar 3) (dCons (dVar 5) dNil))))))) (dSeq (dIfS (dNot (dTru (dCall sp_law_same (dCons (dCall sp_possible_truths (dCons (dVar 7) (dCons (dList (dVar 12)) dNil))) (dCons (dTup (dCons (dVar 8) dNil)) dNil))))) (dRet (dC (.bl false))) dNext) b_law_7))

def b_law_9 : TDS :=
 (dSeq (dSet 10 (dCall sp_law_resting (dCons (dVar 6) (dCons (dVar 9) dNil)))) (dSeq (dSet 11 (dCall sp_law_column_answers (dCons (dVar 3) (dCons (dVar 5) dNil)))) b_law_8))

/-- law(script); names 0:script 1:state 2:many 3:names 4:centres 5:values 6:steps 7:condition 8:word 9:sides 10:resting 11:columns 12:whole 13:mixed 14:k 15:some 16:mosts 17:turned 18:name 19:bound 20:answer -/
def b_law : TDS :=
 (dSeq (dSetO 1 (dCall sp_law_start (dCons (dVar 0) dNil))) (dSeq (dSet 2 (dOp addD (dC (.int 1)) (dCallIO 1 sp_law_draw (dCons (dC (.int 3)) dNil)))) (dSeq (dSet 3 (dCallIO 1 sp_law_names (dCons (dVar 2) dNil))) (dSeq (dSet 4 (dCallIO 1 sp_law_centres dNil)) (dSeq (dSet 5 (dCallIO 1 sp_law_cells (dCons (dVar 2) (dCons (dVar 4) dNil)))) (dSeq (dSet 6 (dCallIO 1 sp_law_steps (dCons (dVar 3) (dCons (dVar 4) (dCons (dC (.int 4)) dNil))))) (dSeq (dSet 7 (dCall sp_law_made (dCons (dVar 6) dNil))) (dSeq (dSet 8 (dOp ixD (dLst (dCons (dC (.str "false")) (dCons (dC (.str "unknown")) (dCons (dC (.str "true")) dNil)))) (dCall sp_law_rank (dCons (dVar 6) (dCons (dVar 3) (dCons (dVar 5) dNil)))))) (dSeq (dSet 9 (dOp addD (dLst (dCons (dC .non) dNil)) (dLc [18] (diSeq (dVar 3)) (dgName 18) (dTest (dOp (isD true) (dOp ixD (dVar 5) (dLix (dVar 3) (dVar 18))) (dC .non))) (dVar 18)))) b_law_9)))))))))

end DL

namespace DL
open PySem L2

theorem look_mem {v : List (Option Int)} : ∀ {xs : List Str} {vs : List (Option Int)} {x : Str}, look xs vs x ≠ none → x ∈ xs
  | [], _, x, h => by simp [look] at h
  | y :: xs, [], x, h => by simp [look] at h
  | y :: xs, w :: vs, x, h => by
    by_cases e : y = x
    · simp [e]
    · simp only [look, e, if_false] at h
      exact List.mem_cons_of_mem _ (look_mem (v := v) h)
theorem rd_law_known : ∀ ds Qd Qe, sp_law_known ds Qd Qe → b_law_known (endsD [] Qd Qe) (startE 3 [] ds) := by
  rintro ds Qd Qe ⟨d, xs, vs, rfl, x, ys, ws, rfl, rfl, rfl, hl, hk, h⟩
  cases x with
  | none => simpa [b_law_known, startE, sd, sv] using h
  | some x =>
    have hm := look_mem (v := []) hk
    simp [b_law_known, startE, sd, isNon]
    refine lix_txs (vs := ws) hm hl (fun j hj => ?_)
    refine ⟨_, hj, ?_⟩
    cases e : look ys ws x with
    | none => exact absurd e hk
    | some k =>
      simp only [sv, e] at h
      exact h
theorem rd_law_answer : ∀ ds Qd Qe, sp_law_answer ds Qd Qe → b_law_answer (endsD [0] Qd Qe) (startE 5 [0] ds) := by
  rintro ds Qd Qe ⟨st, d, xs, vs, rfl, s0, q, ys, ws, rfl, rfl, rfl, hl, k1, k2, h⟩
  obtain ⟨l, r, s⟩ := q
  simp [b_law_answer, startE, bd]
  refine i_law_known ⟨l, ys, ws, rfl, rfl, rfl, hl, k1, ?_⟩
  refine i_law_known ⟨r, ys, ws, rfl, rfl, rfl, hl, k2, ?_⟩
  simp [s0]
  refine ⟨many_ok (by omega) (by omega), fun t st r0 r1 s1 => ?_⟩
  split
  · refine h (.mst r l (-s - 1) (!decide (sv (look ys ws) l - sv (look ys ws) r ≤ s))) st ⟨k2, k1, ?_⟩ ?_ s1
    · rw [← decide_not, decide_eq_decide]
      omega
    · simp only [Cov]
      by_cases c : sv (look ys ws) l - sv (look ys ws) r ≤ s
      · left
        simp [bnL, bnS, c]
        omega
      · right
        simp [bnL, bnS, c]
  · refine h (.mst l r s (decide (sv (look ys ws) l - sv (look ys ws) r ≤ s))) st ⟨k1, k2, rfl⟩ ?_ s1
    simp only [Cov]
    by_cases c : sv (look ys ws) l - sv (look ys ws) r ≤ s
    · left
      simp [bnL, bnS, c]
    · right
      simp [bnL, bnS, c]
theorem lc_cols {ys : List Str} {ws : List (Option Int)} {Q : List D → En → Prop} (hl : ys.length = ws.length) : ∀ (xs done : List Str) (e2 : Option Ent), (∀ x ∈ xs, x ∈ ys) → done.length + xs.length ≤ 1000 →
    (∀ e2, Q (ans (colA (look ys ws) (done ++ xs))) [some (.fz (.lst (txs ys))), some (.fz (.lst (vals ws))), e2]) →
    lcD [2] (dgName 2) dYes (dTup (dCons (dC (.str "unknown")) (dCons (dVar 2) (dCons (dOp (isD false) (dOp ixD (dVar 1) (dLix (dVar 0) (dVar 2))) (dC .non)) dNil)))) (txs xs) (ans (colA (look ys ws) done)) [some (.fz (.lst (txs ys))), some (.fz (.lst (vals ws))), e2] Q
  | [], done, e2, hm, hn, h => by
    have h := h e2
    simpa [txs, lcD] using h
  | x :: xs, done, e2, hm, hn, h => by
    rw [List.length_cons] at hn
    have ih := lc_cols (Q := Q) hl xs (done ++ [x]) (some (.fz (.str x))) (fun y m => hm y (by simp [m])) (by simp; omega) (fun e2 => by
      have h := h e2
      rw [List.append_assoc]
      exact h)
    have e : ans (colA (look ys ws) (done ++ [x])) = ans (colA (look ys ws) done) ++ [.tup [.str "unknown", .str x, .bl (decide (look ys ws x = none))]] := by simp [ans, colA, An.d]
    rw [e] at ih
    have la : (ans (colA (look ys ws) done)).length < 16777216 := by simp [ans, colA]; omega
    have ec : txs (x :: xs) = .str x :: txs xs := rfl
    rw [ec]
    simp [lcD, wipeE, la]
    refine lix_txs (vs := ws) (hm x (by simp)) hl (fun j hj => ?_)
    refine ⟨_, hj, ?_⟩
    have e3 : (vd (look ys ws x)) = .non ∨ ∃ k, vd (look ys ws x) = .int k := by cases look ys ws x <;> simp [vd]
    simp
    have e4 : decide (look ys ws x = none) = (look ys ws x).isNone := by cases look ys ws x <;> rfl
    rw [e4] at ih
    exact ih
theorem rd_law_column_answers : ∀ ds Qd Qe, sp_law_column_answers ds Qd Qe → b_law_column_answers (endsD [] Qd Qe) (startE 3 [] ds) := by
  rintro ds Qd Qe ⟨xs, vs, rfl, ys, ws, rfl, rfl, hl, hn, h⟩
  simp [b_law_column_answers, startE, wipeE]
  refine lc_cols hl ys [] none (fun x m => m) (by simp; omega) fun e2 => ?_
  exact h
theorem rd_law_has : ∀ ds Qd Qe, sp_law_has ds Qd Qe → b_law_has (endsD [] Qd Qe) (startE 3 [] ds) := by
  rintro ds Qd Qe ⟨l, w, rfl, x, rfl, hw, h⟩
  have e0 : inFD (.str w) (txs x.words) = true := by rw [inFD_str]; simpa using hw
  have e1 : (txs x.words).all flatD = true := txs_flat _
  simp only [b_law_has, startE]
  obtain ⟨f, u, t⟩ := x
  simp [inD, e0, e1, flatD]
  refine (show (if w ∈ ({ f := f, u := u, t := t } : T3).words then _ else _ : Prop) from ?_)
  rw [if_pos hw]
  cases f <;> cases u <;> cases t <;> simp [T3.words, txs, lcD, wipeE, inD, flatD, inFD, eqFD] <;> exact ⟨_, rfl, rfl, h⟩
theorem sd_flat {l : Option Str} : flatD (sd l) = true := by cases l <;> rfl
theorem sds_flat {ss : List (Option Str)} : (sds ss).all flatD = true := by
  rw [List.all_eq_true]
  intro d m
  obtain ⟨x, _, rfl⟩ := List.mem_map.mp m
  exact sd_flat
theorem lp_some {B : DEnds} {e1 : Option Ent} : ∀ (rest bs done : List An) (as2 : List D) (st : D) (e4 : Option Ent), StOk st → (∀ d ∈ as2, flatD d = true) → as2.length + rest.length ≤ 1000 → bs.length + rest.length ≤ 1000 →
    (∀ bs' as2 st' e4, (∃ r, bs' = bs ++ r ∧ List.Sublist r rest) → StOk st' → B.nx [some (.ow true st'), e1, some (.ow false (.lst as2)), some (.ow false (.lst (ans bs'))), e4]) →
    loopD (dgName 4) b_law_some_1 B (ans rest) [some (.ow true st), e1, some (.ow false (.lst as2)), some (.ow false (.lst (ans bs))), e4]
  | [], bs, done, as2, st, e4, s0, hf, h1, h2, h => h bs as2 st e4 ⟨[], by simp, List.Sublist.refl _⟩ s0
  | a :: rest, bs, done, as2, st, e4, s0, hf, h1, h2, h => by
    rw [List.length_cons] at h1 h2
    have skip := fun st s1 => lp_some (B := B) (e1 := e1) rest bs done as2 st (some (.fz a.d)) s1 hf (by omega) (by omega) (fun bs' as2 st' e4 ⟨r, e, q⟩ => h bs' as2 st' e4 ⟨r, e, q.cons a⟩)
    have put := fun st s1 (as2' : List D) hf2 (hl : as2'.length ≤ as2.length + 1) => lp_some (B := B) (e1 := e1) rest (bs ++ [a]) done as2' st (some (.fz a.d)) s1 hf2 (by omega) (by simp; omega) (fun bs' as2 st' e4 ⟨r, e, q⟩ => h bs' as2 st' e4 ⟨a :: r, by rw [e]; simp, q.cons₂ a⟩)
    have e : ans (bs ++ [a]) = ans bs ++ [a.d] := by simp [ans]
    rw [e] at put
    have la : (ans bs).length < 16777216 := by simp [ans]; omega
    have l2 : as2.length < 16777216 := by omega
    have hfa : as2.all flatD = true := List.all_eq_true.mpr hf
    cases a with
    | unk x b =>
      have put := fun st s1 => put st s1 (as2 ++ [.str x]) (fun d m => by
        rcases List.mem_append.mp m with m | m
        · exact hf d m
        · rw [List.mem_singleton.mp m]; rfl) (by simp)
      simp [ans, loopD, b_law_some_1, An.d, s0]
      refine ⟨many_ok (by omega) (by omega), fun t st r0 r1 s1 => ?_⟩
      split
      · exact skip st s1
      · exact ⟨l2, by simpa [ans] using la, put st s1⟩
    | mst l r s b =>
      have put := fun st s1 => put st s1 as2 hf (by omega)
      simp [ans, loopD, b_law_some_1, An.d, s0]
      refine ⟨many_ok (by omega) (by omega), fun t st r0 r1 s1 => ?_⟩
      split
      · exact skip st s1
      · have lb : bs.length < 16777216 := by omega
        simp only [inD, sd_flat, hfa, true_and]
        repeat' split
        all_goals first | exact skip st s1 | exact ⟨lb, put st s1⟩
theorem rd_law_some : ∀ ds Qd Qe, sp_law_some ds Qd Qe → b_law_some (endsD [0] Qd Qe) (startE 5 [0] ds) := by
  rintro ds Qd Qe ⟨st, l, rfl, s0, as, rfl, hn, h⟩
  simp [b_law_some, startE]
  refine lp_some as [] [] [] st none s0 (fun d m => by simp at m) (by simpa using hn) (by simpa using hn) fun bs as2 st e4 ⟨r, e, q⟩ s1 => ?_
  rw [List.nil_append] at e
  subst e
  have h := h bs st q s1
  simpa using h
end DL

namespace DL
open PySem L2

theorem bds_len {l : List Bd} : (bds l).length = l.length := by simp [bds]
def okB (ss : List (Option Str)) (q : Bd) : Bool := decide (q.1 ≠ q.2.1) && (decide (q.1 ∈ ss) && decide (q.2.1 ∈ ss))
theorem inFD_sds {x : Option Str} : ∀ {ss : List (Option Str)}, inFD (sd x) (sds ss) = decide (x ∈ ss)
  | [] => by simp [inFD, sds]
  | y :: ss => by
    have ih := inFD_sds (x := x) (ss := ss)
    unfold inFD sds at ih ⊢
    rw [List.map_cons, List.any_cons, ih]
    have e : eqFD (sd y) (sd x) = decide (x = y) := by
      cases x <;> cases y <;> simp [sd, eqFD]
      rw [Bool.eq_iff_iff]
      simp only [beq_iff_eq, decide_eq_true_eq]
      exact eq_comm
    rw [e]
    simp [List.mem_cons]
theorem lp_rest_in {B : DEnds} {e0 e3 : Option Ent} {ss : List (Option Str)} : ∀ (bs acc : List Bd) (e4 : Option Ent), acc.length + bs.length < 1000000 → (∀ e4, B.nx [e0, some (.fz (.lst (sds ss))), some (.ow false (.lst (bds (acc ++ bs.filter (okB ss))))), e3, e4]) →
    loopD (dgName 4) b_law_resting_1 B (bds bs) [e0, some (.fz (.lst (sds ss))), some (.ow false (.lst (bds acc))), e3, e4]
  | [], acc, e4, hn, h => by
    have h := h e4
    simpa [bds, loopD] using h
  | (l, r, s) :: bs, acc, e4, hn, h => by
    rw [List.length_cons] at hn
    have la : acc.length < 16777216 := by omega
    cases ok : okB ss (l, r, s) with
    | true =>
      have put := lp_rest_in (B := B) (e0 := e0) (e3 := e3) (ss := ss) bs (acc ++ [(l, r, s)]) (some (.fz (bd l r s))) (by simp; omega) fun e4 => by
        have h := h e4
        rw [List.filter_cons_of_pos ok] at h
        rw [List.append_assoc]
        exact h
      have e : bds (acc ++ [(l, r, s)]) = bds acc ++ [bd l r s] := by simp [bds]
      rw [e] at put
      simp only [okB, Bool.and_eq_true, decide_eq_true_eq] at ok
      obtain ⟨n1, n2, n3⟩ := ok
      have n1' : ¬ l = r := n1
      simp [bds, loopD, b_law_resting_1, bd, inD, sd_flat, sds_flat, inFD_sds, n1', n2, n3, la]
      exact put
    | false =>
      have keep := lp_rest_in (B := B) (e0 := e0) (e3 := e3) (ss := ss) bs acc (some (.fz (bd l r s))) (by omega) fun e4 => by
        have h := h e4
        rw [List.filter_cons_of_neg (by rw [ok]; exact Bool.false_ne_true)] at h
        exact h
      simp [bds, loopD, b_law_resting_1, bd, inD, sd_flat, sds_flat, inFD_sds]
      by_cases n1 : l = r
      · simp [n1]
        subst n1
        exact keep
      · by_cases n2 : l ∈ ss
        · by_cases n3 : r ∈ ss
          · simp [okB, n1, n2, n3] at ok
          · simp [n1, n2, n3]
            exact keep
        · simp [n1, n2]
          exact keep
theorem shd_non {s : Sh} : isNon s.d = true ↔ s = .non := by cases s <;> simp [Sh.d, isNon]
/-- the bounds of one step -/
def stB1 (ss : List (Option Str)) : D → List Bd → Prop := fun d bs => (∃ a op b, d = stepC a op b ∧ bs = rbC ss a op b) ∨ ∃ w r, d = .tup (.str w :: r) ∧ w ≠ "compare" ∧ bs = []
/-- the bounds of steps -/
inductive StB (ss : List (Option Str)) : List D → List Bd → Prop
  | nil : StB ss [] []
  | cons {d : D} {ds : List D} {b bs : List Bd} : stB1 ss d b → StB ss ds bs → StB ss (d :: ds) (b ++ bs)
theorem StB.append {ss : List (Option Str)} {ds es : List D} {b c : List Bd} (h : StB ss ds b) (h' : StB ss es c) : StB ss (ds ++ es) (b ++ c) := by
  induction h with
  | nil => simpa using h'
  | cons q _ ih =>
    rw [List.cons_append, List.append_assoc]
    exact .cons q ih
theorem StB.one {ss : List (Option Str)} {d : D} {b : List Bd} (h : stB1 ss d b) : StB ss [d] b := by
  have := StB.cons h StB.nil
  simpa using this
theorem StB.snoc {ss : List (Option Str)} {ds : List D} {b : List Bd} {w : Str} {r : List D} (h : StB ss ds b) (n : w ≠ "compare") : StB ss (ds ++ [.tup (.str w :: r)]) b := by
  have := h.append (StB.one (.inr ⟨w, r, rfl, n, rfl⟩))
  simpa using this
mutual
theorem steps_b {ss : List (Option Str)} {ys : List Str} : ∀ t : Ct, t.Ok ys → StB ss t.steps (t.rb ss)
  | .cmp a op b, ok => StB.one (.inl ⟨a, op, b, rfl, rfl⟩)
  | .mis a, ok => StB.one (.inr ⟨_, _, rfl, by decide, rfl⟩)
  | .cst w, ok => StB.one (.inr ⟨_, _, rfl, (by rcases cst_cases ok with rfl | rfl | rfl <;> decide), rfl⟩)
  | .neg c, ok => (steps_b c ok).snoc (by decide)
  | .tst c w, ok => (steps_b c ok.1).snoc (by decide)
  | .jn b cs, ok => (stepsL_b cs ok.2.2).snoc (by cases b <;> decide)
theorem stepsL_b {ss : List (Option Str)} {ys : List Str} : ∀ cs : List Ct, okL ys cs → StB ss (stepsL cs) (rbL ss cs)
  | [], ok => .nil
  | c :: cs, ok => (steps_b c ok.1).append (stepsL_b cs ok.2)
end
theorem rbC_len {ss : List (Option Str)} {a b : Sh} {op : Str} : (rbC ss a op b).length ≤ 2 := by
  unfold rbC
  split
  · simp
  · simp
  · exact Nat.le_trans (List.length_filter_le _ _) (rests_len _ _ _)
theorem stB_len {ss : List (Option Str)} {ds : List D} {bs : List Bd} (h : StB ss ds bs) : bs.length ≤ 2 * ds.length := by
  induction h with
  | nil => simp
  | cons q _ ih =>
    rw [List.length_append, List.length_cons]
    rcases q with ⟨a, op, b, _, rfl⟩ | ⟨_, _, _, _, rfl⟩
    · have := rbC_len (ss := ss) (a := a) (op := op) (b := b)
      omega
    · simp only [List.length_nil]
      omega
theorem lp_rest {B : DEnds} {e0 : Option Ent} {ss : List (Option Str)} {l : List D} {bs : List Bd} (hb : StB ss l bs) : ∀ (acc : List Bd) (e3 e4 : Option Ent), acc.length + 2 * l.length < 100000 → (∀ e3 e4, B.nx [e0, some (.fz (.lst (sds ss))), some (.ow false (.lst (bds (acc ++ bs)))), e3, e4]) →
    loopD (dgName 3) b_law_resting_2 B l [e0, some (.fz (.lst (sds ss))), some (.ow false (.lst (bds acc))), e3, e4] := by
  induction hb with
  | nil =>
    intro acc e3 e4 hn h
    have h := h e3 e4
    simpa [loopD] using h
  | @cons d ds b bs q hq ih =>
    intro acc e3 e4 hn h
    rw [List.length_cons] at hn
    rcases q with ⟨a, op, c, rfl, rfl⟩ | ⟨w, r, rfl, nw, rfl⟩
    · have hl := rbC_len (ss := ss) (a := a) (op := op) (b := c)
      have ih := fun e4 => ih (acc ++ rbC ss a op c) (some (.fz (stepC a op c))) e4 (by rw [List.length_append]; omega) (fun e3 e4 => by
        have h := h e3 e4
        rw [List.append_assoc]
        exact h)
      simp [loopD, b_law_resting_2, stepC]
      cases ea : isNon a.d with
      | true =>
        have ea := shd_non.mp ea
        subst ea
        simp
        have e : rbC ss .non op c = [] := rfl
        rw [e, List.append_nil] at ih
        exact ih e4
      | false =>
        cases eb : isNon c.d with
        | true =>
          have eb := shd_non.mp eb
          subst eb
          simp
          have e : rbC ss a op .non = [] := by cases a <;> rfl
          rw [e, List.append_nil] at ih
          exact ih e4
        | false =>
          simp
          have na : a ≠ .non := fun z => by rw [shd_non.mpr z] at ea; cases ea
          have nb : c ≠ .non := fun z => by rw [shd_non.mpr z] at eb; cases eb
          refine i_law_rests ⟨a, op, c, rfl, na, nb, ?_⟩
          have hl := rests_len a op c
          refine lp_rest_in (rests a op c) acc e4 (by omega) fun e4 => ?_
          have e : (rests a op c).filter (okB ss) = rbC ss a op c := by
            cases a with
            | non => exact absurd rfl na
            | _ => cases c with
              | non => exact absurd rfl nb
              | _ => rfl
          rw [e]
          exact ih e4
    · have ih := ih acc (some (.fz (.tup (.str w :: r)))) e4 (by omega) (fun e3 e4 => by
        have h := h e3 e4
        simpa using h)
      simp [loopD, b_law_resting_2, nw]
      exact ih
theorem rd_law_resting : ∀ ds Qd Qe, sp_law_resting ds Qd Qe → b_law_resting (endsD [] Qd Qe) (startE 5 [] ds) := by
  rintro ds Qd Qe ⟨l, m, rfl, t, ys, ss, rfl, ok, hz, rfl, h⟩
  have sl := steps_len t
  simp [b_law_resting, startE]
  refine lp_rest (steps_b t ok) [] none none (by simp; omega) fun e3 e4 => ?_
  rw [List.nil_append]
  simpa using h
theorem sds_at {ss : List (Option Str)} {i : Int} (h0 : 0 ≤ i) (h1 : i < ss.length) : ∃ x, x ∈ ss ∧ atI (sds ss) i = some (sd x) := by
  obtain ⟨d, hd⟩ := atI_some (l := sds ss) (i := i) (by omega) (by simp [sds]; omega)
  obtain ⟨x, hx, rfl⟩ := List.mem_map.mp (atI_mem hd)
  exact ⟨x, hx, hd⟩
theorem rd_law_near_bound : ∀ ds Qd Qe, sp_law_near_bound ds Qd Qe → b_law_near_bound (endsD [0] Qd Qe) (startE 8 [0] ds) := by
  rintro ds Qd Qe ⟨st, l, m, c, rfl, s0, hc, bs, ss, rfl, hb, hin, rfl, h2, h100, h⟩
  simp [b_law_near_bound, startE, s0]
  have hsl : (sds ss).length = ss.length := by simp [sds]
  have hbl : (bds bs).length = bs.length := by simp [bds]
  have hne : ¬ sds ss = [] := fun z => by rw [z] at hsl; simp at hsl; omega
  have free : ∀ st', StOk st' → sp_law_draw [st', .int (sds ss).length] (fun r os => True) (fun _ _ => True) := fun st' s1 => ⟨_, _, rfl, s1, many_ok (by omega) (by omega), fun _ _ _ _ _ => trivial⟩
  have tail : ∀ (r r1 : Int) st', 0 ≤ r → r < (sds ss).length → 0 ≤ r1 → r1 < (sds ss).length - 1 → StOk st' → ¬ sds ss = [] ∧ ∃ d, atI (sds ss) r = some d ∧ ∃ d1, atI (sds ss) ((r + 1 + r1).fmod (sds ss).length) = some d1 ∧ StOk st' ∧ cenOk c ∧ ∀ (n : Int) (st' : D), Num n 2 → StOk st' → Qd (.tup [d, d1, .int n]) [st'] := by
    intro r r1 st' r0 rl r10 r1l s1
    have f := fmod_range (a := r + 1 + r1) (m := (sds ss).length) (by omega)
    obtain ⟨x, mx, hx⟩ := sds_at (ss := ss) r0 (by omega)
    obtain ⟨y, my, hy⟩ := sds_at (ss := ss) f.1 (by omega)
    exact ⟨hne, _, hx, _, hy, s1, hc, fun n st' _ s1 => h x y n st' mx my s1⟩
  have body : ∀ st', StOk st' → Many (sds ss).length ∧ ∀ (r : Int) (st' : D), 0 ≤ r → r < (sds ss).length → StOk st' → StOk st' ∧ Many ((sds ss).length - 1) ∧ ∀ (r1 : Int) (st' : D), 0 ≤ r1 → r1 < (sds ss).length - 1 → StOk st' → ¬ sds ss = [] ∧ ∃ d, atI (sds ss) r = some d ∧ ∃ d1, atI (sds ss) ((r + 1 + r1).fmod (sds ss).length) = some d1 ∧ StOk st' ∧ cenOk c ∧ ∀ (n : Int) (st' : D), Num n 2 → StOk st' → Qd (.tup [d, d1, .int n]) [st'] :=
    fun st' s1 => ⟨many_ok (by omega) (by omega), fun r st' r0 rl s1 => ⟨s1, many_ok (by omega) (by omega), fun r1 st' r10 r1l s1 => tail r r1 st' r0 rl r10 r1l s1⟩⟩
  split
  · refine ⟨many_ok (by omega) (by omega), fun r st' r0 r1 s1 => ?_⟩
    split
    · refine ⟨s1, many_ok (by omega) (by omega), fun r st' r0 r1 s1 => ?_⟩
      obtain ⟨d, hd⟩ := atI_some (l := bds bs) (i := r) (by omega) (by omega)
      obtain ⟨⟨x, y, s⟩, mq, rfl⟩ := List.mem_map.mp (atI_mem hd)
      have mq := hin _ mq
      refine ⟨_, hd, ?_⟩
      simp [bd]
      refine ⟨s1, many_ok (by omega) (by omega), fun r st' r0 r1 s1 => ?_⟩
      obtain ⟨k, hk⟩ : ∃ k : Int, atI [D.int 0, D.int 0, D.int (-1), D.int 1, D.int (-2), D.int 2] r = some (.int k) := by
        have : r = 0 ∨ r = 1 ∨ r = 2 ∨ r = 3 ∨ r = 4 ∨ r = 5 := by omega
        rcases this with rfl | rfl | rfl | rfl | rfl | rfl <;> exact ⟨_, rfl⟩
      refine ⟨_, hk, ?_⟩
      simp
      refine ⟨s1, many_ok (by omega) (by omega), fun r st' r0 r1 s1 => ?_⟩
      split
      · exact h _ _ _ _ mq.2 mq.1 s1
      · exact h _ _ _ _ mq.1 mq.2 s1
    · exact ⟨s1, body _ s1⟩
  · exact body _ s0
end DL

namespace DL
open PySem L2

theorem stl_cov {as : List An} {a : An} {q : Bd} (m : a ∈ as) (c : Cov q a) : stl as q.1 q.2.1 q.2.2 ≠ none := by
  obtain ⟨l, r, s⟩ := q
  cases a with
  | unk _ _ => exact c.elim
  | mst l' r' s' b =>
    unfold stl
    split
    · simp
    · simp only [Cov] at c
      rcases c with ⟨c1, c2, c3⟩ | ⟨c1, c2, c3⟩
      · have : hasB as l r s = true := hasB_iff.mpr ⟨l', r', s', b, m, c1, c2, by omega⟩
        simp [this]
      · have : hasB as r l (-s - 1) = true := hasB_iff.mpr ⟨l', r', s', b, m, c1, c2, by omega⟩
        simp only [this, if_true]
        split <;> simp
theorem rests_sides {a b : Sh} {op : Str} {q : Bd} (m : q ∈ rests a op b) : (q.1 = a.side ∧ q.2.1 = b.side) ∨ (q.1 = b.side ∧ q.2.1 = a.side) := by
  unfold rests at m
  repeat' split at m
  all_goals simp at m
  all_goals rcases m with rfl | rfl <;> simp
section
variable {v : Str → Option Int} {as : List An} {ys : List Str} {ss : List (Option Str)}
/-- all that is asked is answered -/
structure AllA (v : Str → Option Int) (ys : List Str) (ss : List (Option Str)) (as : List An) : Prop where
  tr : AllTr v as
  co : ∀ x ∈ ys, asked as x ≠ none
  s0 : none ∈ ss
  s1 : ∀ x ∈ ys, v x ≠ none → some x ∈ ss
theorem AllA.opn (A : AllA v ys ss as) {a : Sh} (ok : a.Ok ys) : opnB as a = false := by
  cases a with
  | non => rfl
  | num n => rfl
  | col x n =>
    simp only [opnB, decide_eq_false_iff_not]
    exact A.co x ok.1
theorem AllA.side (A : AllA v ys ss as) {a : Sh} (ok : a.Ok ys) (u : unkB as a = false) : a.side ∈ ss := by
  cases a with
  | non => exact A.s0
  | num n => exact A.s0
  | col x n =>
    refine A.s1 x ok.1 fun e => ?_
    simp only [unkB, decide_eq_false_iff_not] at u
    cases h : asked as x with
    | none => exact A.co x ok.1 h
    | some b =>
      have t : b = decide (v x = none) := A.tr _ (asked_mem h)
      rw [e] at t
      have t : b = true := by simpa using t
      exact u (by rw [h, t])
mutual
theorem AllA.full (A : AllA v ys ss as) : ∀ t : Ct, t.Ok ys → (∀ q ∈ t.rb ss, ∃ a ∈ as, Cov q a) → t.Full as
  | .cmp a op b, ok, h => ⟨A.opn ok.1, A.opn ok.2.2, fun ua ub q m => by
    by_cases e : q.1 = q.2.1
    · unfold stl
      rw [if_pos e]
      simp
    · have sa := A.side ok.1 ua
      have sb := A.side ok.2.2 ub
      have hq : q ∈ rbC ss a op b := by
        have f : q ∈ (rests a op b).filter (okB ss) := by
          rw [List.mem_filter]
          refine ⟨m, ?_⟩
          simp only [okB, Bool.and_eq_true, decide_eq_true_eq]
          rcases rests_sides m with ⟨e1, e2⟩ | ⟨e1, e2⟩
          · exact ⟨e, by rw [e1]; exact sa, by rw [e2]; exact sb⟩
          · exact ⟨e, by rw [e1]; exact sb, by rw [e2]; exact sa⟩
        cases a with
        | non => cases ua
        | _ => cases b with
          | non => cases ub
          | _ => exact f
      obtain ⟨c, mc, cc⟩ := h q hq
      exact stl_cov mc cc⟩
  | .mis a, ok, h => A.opn ok
  | .cst w, ok, h => trivial
  | .neg c, ok, h => AllA.full A c ok h
  | .tst c w, ok, h => AllA.full A c ok.1 h
  | .jn b cs, ok, h => AllA.fullL A cs ok.2.2 h
theorem AllA.fullL (A : AllA v ys ss as) : ∀ cs : List Ct, okL ys cs → (∀ q ∈ rbL ss cs, ∃ a ∈ as, Cov q a) → fullL as cs
  | [], ok, h => trivial
  | c :: cs, ok, h => ⟨AllA.full A c ok.1 fun q m => h q (List.mem_append_left _ m), AllA.fullL A cs ok.2 fun q m => h q (List.mem_append_right _ m)⟩
end
theorem AllA.may (A : AllA v ys ss as) (t : Ct) (ok : t.Ok ys) (h : ∀ q ∈ t.rb ss, ∃ a ∈ as, Cov q a) : t.may as = T3.of (t.rk v) := may_full A.tr t ok (A.full t ok h)
end
theorem words_of {r : Int} (h : R3 r) : (T3.of r).words = [wdR r] := by
  rcases h with rfl | rfl | rfl <;> rfl
theorem words_at {x : T3} {r : Int} (h : R3 r) (e : x.at r = true) : wdR r ∈ x.words := by
  obtain ⟨f, u, t⟩ := x
  rcases h with rfl | rfl | rfl <;> simp [T3.at] at e <;> subst e <;> simp [T3.words, wdR]
theorem rb_sides {ss : List (Option Str)} : ∀ (l : List D) (bs : List Bd), StB ss l bs → ∀ q ∈ bs, q.1 ∈ ss ∧ q.2.1 ∈ ss := by
  intro l bs h
  induction h with
  | nil => intro q m; simp at m
  | cons q0 _ ih =>
    intro q m
    rcases List.mem_append.mp m with m | m
    · rcases q0 with ⟨a, op, b, _, rfl⟩ | ⟨_, _, _, _, rfl⟩
      · unfold rbC at m
        split at m
        · simp at m
        · simp at m
        · have := (List.mem_filter.mp m).2
          simp only [Bool.and_eq_true, decide_eq_true_eq] at this
          exact this.2
      · simp at m
    · exact ih q m
end DL

namespace DL
open PySem L2

abbrev Es := Option Ent
theorem cov_cols {q : Bd} {a : An} (h : Cov q a) : cols [a] = [] := by cases a <;> first | rfl | exact h.elim
def kn (v : Str → Option Int) (xs : List Str) : List (Option Str) := (xs.filter fun x => decide (v x ≠ none)).map some
theorem lc_sides {ys : List Str} {ws : List (Option Int)} {e0 e1 e2 e4 e6 e7 e8 e9 e10 e11 e12 e13 e14 e15 e16 e17 e19 e20 : Es} {Q : List D → En → Prop} (hl : ys.length = ws.length) : ∀ (xs : List Str) (acc : List (Option Str)) (e18 : Es), (∀ x ∈ xs, x ∈ ys) → acc.length + xs.length ≤ 1000 →
    (∀ e18, Q (sds (acc ++ kn (look ys ws) xs)) [e0, e1, e2, some (.fz (.lst (txs ys))), e4, some (.fz (.lst (vals ws))), e6, e7, e8, e9, e10, e11, e12, e13, e14, e15, e16, e17, e18, e19, e20]) →
    lcD [18] (dgName 18) (dTest (dOp (isD true) (dOp ixD (dVar 5) (dLix (dVar 3) (dVar 18))) (dC .non))) (dVar 18) (txs xs) (sds acc) [e0, e1, e2, some (.fz (.lst (txs ys))), e4, some (.fz (.lst (vals ws))), e6, e7, e8, e9, e10, e11, e12, e13, e14, e15, e16, e17, e18, e19, e20] Q
  | [], acc, e18, hm, hn, h => by
    have h := h e18
    simpa [txs, lcD, kn] using h
  | x :: xs, acc, e18, hm, hn, h => by
    rw [List.length_cons] at hn
    have la : (sds acc).length < 16777216 := by simp [sds]; omega
    have ec : txs (x :: xs) = .str x :: txs xs := rfl
    rw [ec]
    simp [lcD, wipeE]
    refine lix_txs (vs := ws) (hm x (by simp)) hl (fun j hj => ?_)
    refine ⟨_, hj, ?_⟩
    cases e : look ys ws x with
    | none =>
      have ih := lc_sides (e0 := e0) (e1 := e1) (e2 := e2) (e4 := e4) (e6 := e6) (e7 := e7) (e8 := e8) (e9 := e9) (e10 := e10) (e11 := e11) (e12 := e12) (e13 := e13) (e14 := e14) (e15 := e15) (e16 := e16) (e17 := e17) (e19 := e19) (e20 := e20) (Q := Q) hl xs acc (some (.fz (.str x))) (fun y m => hm y (by simp [m])) (by omega) (fun e18 => by
        have h := h e18
        have e3 : kn (look ys ws) (x :: xs) = kn (look ys ws) xs := by simp [kn, List.filter_cons, e]
        rw [e3] at h
        exact h)
      simpa [vd] using ih
    | some k =>
      have ih := lc_sides (e0 := e0) (e1 := e1) (e2 := e2) (e4 := e4) (e6 := e6) (e7 := e7) (e8 := e8) (e9 := e9) (e10 := e10) (e11 := e11) (e12 := e12) (e13 := e13) (e14 := e14) (e15 := e15) (e16 := e16) (e17 := e17) (e19 := e19) (e20 := e20) (Q := Q) hl xs (acc ++ [some x]) (some (.fz (.str x))) (fun y m => hm y (by simp [m])) (by simp; omega) (fun e18 => by
        have h := h e18
        have e3 : kn (look ys ws) (x :: xs) = some x :: kn (look ys ws) xs := by simp [kn, List.filter_cons, e]
        rw [e3] at h
        rw [List.append_assoc]
        exact h)
      have e2 : sds (acc ++ [some x]) = sds acc ++ [.str x] := by simp [sds, sd]
      rw [e2] at ih
      simpa [vd, la, isNon] using ih
theorem lc_whole {ys : List Str} {ws : List (Option Int)} {e0 e2 e4 e6 e7 e8 e9 e10 e11 e12 e13 e14 e15 e16 e17 e18 e20 : Es} {Q : List D → En → Prop} (hl : ys.length = ws.length) : ∀ (bs : List Bd) (acc : List An) (st : D) (e19 : Es), StOk st → (∀ q ∈ bs, Kn (look ys ws) q.1 ∧ Kn (look ys ws) q.2.1) → acc.length + bs.length ≤ 10000 → AllTr (look ys ws) acc → cols acc = [] →
    (∀ as' st' e19, StOk st' → AllTr (look ys ws) as' → cols as' = [] → as'.length = acc.length + bs.length → (∀ a ∈ acc, a ∈ as') → (∀ q ∈ bs, ∃ a ∈ as', Cov q a) → Q (ans as') [e0, some (.ow false st'), e2, some (.fz (.lst (txs ys))), e4, some (.fz (.lst (vals ws))), e6, e7, e8, e9, e10, e11, e12, e13, e14, e15, e16, e17, e18, e19, e20]) →
    lcD [19] (dgName 19) dYes (dCallIO 1 sp_law_answer (dCons (dVar 19) (dCons (dVar 3) (dCons (dVar 5) dNil)))) (bds bs) (ans acc) [e0, some (.ow false st), e2, some (.fz (.lst (txs ys))), e4, some (.fz (.lst (vals ws))), e6, e7, e8, e9, e10, e11, e12, e13, e14, e15, e16, e17, e18, e19, e20] Q
  | [], acc, st, e19, s0, hk, hn, T, hc, h => by
    have h := h acc st e19 s0 T hc rfl (fun a m => m) (fun q m => by simp at m)
    simpa [bds, lcD] using h
  | q :: bs, acc, st, e19, s0, hk, hn, T, hc, h => by
    rw [List.length_cons] at hn
    have la : (ans acc).length < 16777216 := by simp [ans]; omega
    have k := hk q (by simp)
    simp [bds, lcD, wipeE]
    refine i_law_answer ⟨s0, q, ys, ws, rfl, rfl, rfl, hl, k.1, k.2, fun a st ta ca s1 => ?_⟩
    have ih := lc_whole (e0 := e0) (e2 := e2) (e4 := e4) (e6 := e6) (e7 := e7) (e8 := e8) (e9 := e9) (e10 := e10) (e11 := e11) (e12 := e12) (e13 := e13) (e14 := e14) (e15 := e15) (e16 := e16) (e17 := e17) (e18 := e18) (e20 := e20) (Q := Q) hl bs (acc ++ [a]) st (some (.fz (bd q.1 q.2.1 q.2.2))) s1 (fun p m => hk p (by simp [m])) (by simp; omega) (fun b m => by
        rcases List.mem_append.mp m with m | m
        · exact T b m
        · rw [List.mem_singleton.mp m]; exact ta) (by rw [cols_append, hc, cov_cols ca]; rfl) (fun as' st' e19 s1 t1 c1 l1 i1 q1 => h as' st' e19 s1 t1 c1 (by simp at l1 ⊢; omega) (fun b m => i1 b (by simp [m])) (fun p m => by
        rcases List.mem_cons.mp m with e | m
        · rw [e]
          exact ⟨a, i1 a (by simp), ca⟩
        · exact q1 p m))
    have e : ans (acc ++ [a]) = ans acc ++ [a.d] := by simp [ans]
    rw [e] at ih
    exact ⟨la, ih⟩
theorem lp_mixed {B : DEnds} {ys : List Str} {ws : List (Option Int)} {ss : List (Option Str)} {bs : List Bd} {c : D} {e0 e2 e6 e7 e8 e11 e12 e15 e16 e17 e18 e19 e20 : Es} (hl : ys.length = ws.length) (hc : cenOk c) (hb : bs.length ≤ 10000) (hbs : ∀ q ∈ bs, q.1 ∈ ss ∧ q.2.1 ∈ ss) (h2 : 2 ≤ ss.length) (h100 : ss.length ≤ 100) (hk : ∀ x ∈ ss, Kn (look ys ws) x) : ∀ (n : Nat) (lo : Int) (acc : List An) (st : D) (e14 : Es), StOk st → acc.length + n ≤ 100 → AllTr (look ys ws) acc →
    (∀ as' st' e14, StOk st' → AllTr (look ys ws) as' → cols as' = cols acc → as'.length ≤ 100 → B.nx [e0, some (.ow false st'), e2, some (.fz (.lst (txs ys))), some (.fz c), some (.fz (.lst (vals ws))), e6, e7, e8, some (.fz (.lst (sds ss))), some (.fz (.lst (bds bs))), e11, e12, some (.ow false (.lst (ans as'))), e14, e15, e16, e17, e18, e19, e20]) →
    loopD (dgName 14) b_law_1 B (rangeD lo n) [e0, some (.ow false st), e2, some (.fz (.lst (txs ys))), some (.fz c), some (.fz (.lst (vals ws))), e6, e7, e8, some (.fz (.lst (sds ss))), some (.fz (.lst (bds bs))), e11, e12, some (.ow false (.lst (ans acc))), e14, e15, e16, e17, e18, e19, e20]
  | 0, lo, acc, st, e14, s0, hn, T, h => by
    rw [rangeD_zero]
    exact h acc st e14 s0 T rfl (by omega)
  | n + 1, lo, acc, st, e14, s0, hn, T, h => by
    have la : (ans acc).length < 16777216 := by simp [ans]; omega
    rw [rangeD_succ]
    simp [loopD, b_law_1]
    refine i_law_near_bound ⟨s0, hc, bs, ss, rfl, hb, hbs, rfl, h2, h100, fun x y s st mx my s1 => ?_⟩
    refine i_law_answer ⟨s1, (x, y, s), ys, ws, rfl, rfl, rfl, hl, hk x mx, hk y my, fun a st ta ca s1 => ?_⟩
    have ih := lp_mixed (B := B) (e0 := e0) (e2 := e2) (e6 := e6) (e7 := e7) (e8 := e8) (e11 := e11) (e12 := e12) (e15 := e15) (e16 := e16) (e17 := e17) (e18 := e18) (e19 := e19) (e20 := e20) hl hc hb hbs h2 h100 hk n (lo + 1) (acc ++ [a]) st (some (.fz (.int lo))) s1 (by simp; omega) (fun b m => by
        rcases List.mem_append.mp m with m | m
        · exact T b m
        · rw [List.mem_singleton.mp m]; exact ta) (fun as' st' e14 s1 t1 c1 l1 => h as' st' e14 s1 t1 (by rw [c1, cols_append, cov_cols ca, List.append_nil]) l1)
    have e : ans (acc ++ [a]) = ans acc ++ [a.d] := by simp [ans]
    rw [e] at ih
    exact ⟨la, ih⟩
def isM : An → Bool
  | .mst _ _ _ _ => true
  | _ => false
theorem lc_mosts {e0 e1 e2 e3 e4 e5 e6 e7 e8 e9 e10 e11 e12 e13 e14 e15 e16 e17 e18 e19 : Es} {Q : List D → En → Prop} : ∀ (as acc : List An) (e20 : Es), acc.length + as.length ≤ 100000 →
    (∀ e20, Q (ans (acc ++ as.filter isM)) [e0, e1, e2, e3, e4, e5, e6, e7, e8, e9, e10, e11, e12, e13, e14, e15, e16, e17, e18, e19, e20]) →
    lcD [20] (dgName 20) (dTest (dOp eqD (dOp ixD (dVar 20) (dC (.int 0))) (dC (.str "most")))) (dVar 20) (ans as) (ans acc) [e0, e1, e2, e3, e4, e5, e6, e7, e8, e9, e10, e11, e12, e13, e14, e15, e16, e17, e18, e19, e20] Q
  | [], acc, e20, hn, h => by
    have h := h e20
    simpa [ans, lcD] using h
  | .unk x b :: as, acc, e20, hn, h => by
    rw [List.length_cons] at hn
    have ih := lc_mosts (e0 := e0) (e1 := e1) (e2 := e2) (e3 := e3) (e4 := e4) (e5 := e5) (e6 := e6) (e7 := e7) (e8 := e8) (e9 := e9) (e10 := e10) (e11 := e11) (e12 := e12) (e13 := e13) (e14 := e14) (e15 := e15) (e16 := e16) (e17 := e17) (e18 := e18) (e19 := e19) (Q := Q) as acc (some (.fz (An.d (.unk x b)))) (by omega) h
    have ec : ans (.unk x b :: as) = .tup [.str "unknown", .str x, .bl b] :: ans as := rfl
    rw [ec]
    simp [lcD, wipeE]
    exact ih
  | .mst l r s b :: as, acc, e20, hn, h => by
    rw [List.length_cons] at hn
    have ih := lc_mosts (e0 := e0) (e1 := e1) (e2 := e2) (e3 := e3) (e4 := e4) (e5 := e5) (e6 := e6) (e7 := e7) (e8 := e8) (e9 := e9) (e10 := e10) (e11 := e11) (e12 := e12) (e13 := e13) (e14 := e14) (e15 := e15) (e16 := e16) (e17 := e17) (e18 := e18) (e19 := e19) (Q := Q) as (acc ++ [.mst l r s b]) (some (.fz (An.d (.mst l r s b)))) (by simp; omega) (fun e20 => by
      have h := h e20
      rw [List.filter_cons_of_pos rfl] at h
      rw [List.append_assoc]
      exact h)
    have la : (ans acc).length < 16777216 := by simp [ans]; omega
    have e : ans (acc ++ [.mst l r s b]) = ans acc ++ [An.d (.mst l r s b)] := by simp [ans]
    rw [e] at ih
    have ec : ans (.mst l r s b :: as) = .tup [.str "most", sd l, sd r, .int s, .bl b] :: ans as := rfl
    rw [ec]
    simp [lcD, wipeE, la]
    exact ih
theorem lc_turned {e0 e1 e2 e3 e4 e5 e6 e7 e8 e9 e10 e11 e12 e13 e15 e17 e18 e19 e20 : Es} {Q : List D → En → Prop} (L : List D) : ∀ (m k : Nat) (e14 : Es), k + m = L.length → L.length < 1000000 → (∀ e14, Q L.reverse [e0, e1, e2, e3, e4, e5, e6, e7, e8, e9, e10, e11, e12, e13, e14, e15, some (.fz (.lst L)), e17, e18, e19, e20]) →
    lcD [14] (dgName 14) dYes (dOp ixD (dVar 16) (dOp subD (dOp subD (dBlt lenD (dCons (dVar 16) dNil)) (dC (.int 1))) (dVar 14))) (rangeD k m) (L.reverse.take k) [e0, e1, e2, e3, e4, e5, e6, e7, e8, e9, e10, e11, e12, e13, e14, e15, some (.fz (.lst L)), e17, e18, e19, e20] Q
  | 0, k, e14, hk, hl, h => by
    have h := h e14
    have e : L.reverse.take k = L.reverse := List.take_of_length_le (by simp; omega)
    rw [rangeD_zero, e]
    exact h
  | m + 1, k, e14, hk, hl, h => by
    have ih := lc_turned (e0 := e0) (e1 := e1) (e2 := e2) (e3 := e3) (e4 := e4) (e5 := e5) (e6 := e6) (e7 := e7) (e8 := e8) (e9 := e9) (e10 := e10) (e11 := e11) (e12 := e12) (e13 := e13) (e15 := e15) (e17 := e17) (e18 := e18) (e19 := e19) (e20 := e20) (Q := Q) L m (k + 1) (some (.fz (.int k))) (by omega) hl h
    have hk' : k < L.reverse.length := by simp; omega
    rw [rangeD_succ]
    simp [lcD, wipeE]
    have e : atI L ((L.length : Int) - 1 - k) = some (L.reverse[k]) := by
      rw [atI_nonneg (j := L.length - 1 - k) (by omega)]
      rw [List.getElem_reverse]
      exact List.getElem?_eq_getElem _
    refine ⟨_, e, by omega, ?_⟩
    rw [List.take_succ_eq_append_getElem hk'] at ih
    exact ih
end DL

namespace DL
open PySem L2

theorem asked_colA {v : Str → Option Int} {x : Str} : ∀ {ys : List Str} {r : List An}, x ∈ ys → asked (colA v ys ++ r) x = some (decide (v x = none))
  | y :: ys, r, m => by
    by_cases e : y = x
    · subst e
      simp [colA, asked]
    · have m : x ∈ ys := by
        rcases List.mem_cons.mp m with q | m
        · exact absurd q.symm e
        · exact m
      have ih := asked_colA (v := v) (r := r) m
      simpa [colA, asked, e] using ih
theorem cols_colA {v : Str → Option Int} : ∀ {ys : List Str}, cols (colA v ys) = ys
  | [] => rfl
  | y :: ys => by
    have ih := cols_colA (v := v) (ys := ys)
    simp only [colA, List.map_cons, cols] at ih ⊢
    rw [ih]
theorem tr_colA {v : Str → Option Int} {ys : List Str} : AllTr v (colA v ys) := fun a m => by
  obtain ⟨x, _, rfl⟩ := List.mem_map.mp m
  rfl
theorem cols_filter : ∀ as : List An, cols (as.filter isM) = []
  | [] => rfl
  | .unk _ _ :: as => by rw [List.filter_cons_of_neg (by simp [isM])]; exact cols_filter as
  | .mst _ _ _ _ :: as => by rw [List.filter_cons_of_pos rfl]; simpa [cols] using cols_filter as
theorem cols_sub {a b : List An} (h : List.Sublist a b) : List.Sublist (cols a) (cols b) := by
  induction h with
  | slnil => exact List.Sublist.refl _
  | @cons l1 l2 x _ ih =>
    cases x with
    | unk y c => exact ih.cons y
    | mst _ _ _ _ => exact ih
  | @cons_cons l1 l2 x _ ih =>
    cases x with
    | unk y c => exact ih.cons_cons y
    | mst _ _ _ _ => exact ih
theorem cols_rev : ∀ as : List An, cols as = [] → cols as.reverse = []
  | [], _ => rfl
  | .unk _ _ :: _, h => by simp [cols] at h
  | .mst l r s b :: as, h => by
    simp only [cols] at h
    rw [List.reverse_cons, cols_append, cols_rev as h]
    rfl
theorem same_words {r : Int} (h : R3 r) {Qd : D → List D → Prop} {Qe : Exn → List D → Prop} (q : Qd (.bl true) []) : sp_law_same [.tup (txs (T3.of r).words), .tup [.str (wdR r)]] Qd Qe := by
  rw [words_of h]
  exact ⟨_, rfl, rfl, q⟩
theorem lp_has {B : DEnds} {t : Ct} {v : Str → Option Int} {xs : List Str} {bs : List An} {e0 e1 e2 e3 e4 e5 e6 e9 e10 e11 e12 e13 e16 e17 e18 e19 e20 : Es} (ok : t.Ok xs) (hz : t.size ≤ 1000) (T : AllTr v bs) (U : Uq bs) (hl : bs.length ≤ 1000) : ∀ (n lo : Nat) (e14 : Es), lo + n ≤ bs.length + 1 →
    (∀ e14, B.nx [e0, e1, e2, e3, e4, e5, e6, some (.fz (cond t.steps)), some (.fz (.str (wdR (t.rk v)))), e9, e10, e11, e12, e13, e14, some (.fz (.lst (ans bs))), e16, e17, e18, e19, e20]) →
    loopD (dgName 14) b_law_3 B (rangeD lo n) [e0, e1, e2, e3, e4, e5, e6, some (.fz (cond t.steps)), some (.fz (.str (wdR (t.rk v)))), e9, e10, e11, e12, e13, e14, some (.fz (.lst (ans bs))), e16, e17, e18, e19, e20]
  | 0, lo, e14, hn, h => by
    rw [rangeD_zero]
    exact h e14
  | n + 1, lo, e14, hn, h => by
    have ih := lp_has (B := B) (e0 := e0) (e1 := e1) (e2 := e2) (e3 := e3) (e4 := e4) (e5 := e5) (e6 := e6) (e9 := e9) (e10 := e10) (e11 := e11) (e12 := e12) (e13 := e13) (e16 := e16) (e17 := e17) (e18 := e18) (e19 := e19) (e20 := e20) ok hz T U hl n (lo + 1) (some (.fz (.int lo))) (by omega) h
    have hs : List.Sublist (bs.take lo) bs := List.take_sublist _ _
    have ec : cutD (ans bs) none (some (lo : Int)) = ans (bs.take lo) := by
      have e1 : ans bs = ans (bs.take lo) ++ ans (bs.drop lo) := by
        rw [← List.take_append_drop lo bs]
        simp [ans]
      rw [e1]
      exact cut_head (by simp [ans]; omega)
    have T' : AllTr v (bs.take lo) := fun a m => T a (hs.subset m)
    have U' : Uq (bs.take lo) := List.Nodup.sublist (cols_sub hs) U
    rw [rangeD_succ]
    simp [loopD, b_law_3, ec]
    refine i_possible_truths ⟨t, bs.take lo, xs, rfl, ok, hz, rfl, U', by simp; omega, ?_⟩
    refine i_law_has ⟨t.may (bs.take lo), rfl, words_at (rk_range t) (may_sound T' t ok), ?_⟩
    exact ih
theorem rd_law : ∀ ds Qd Qe, sp_law ds Qd Qe → b_law (endsD [] Qd Qe) (startE 21 [] ds) := by
  rintro ds Qd Qe ⟨js, rfl, hj, h⟩
  simp [b_law, startE]
  refine ⟨hj, fun st s0 => ⟨s0, many_ok (by omega) (by omega), fun r st r0 r1 s1 => ⟨s1, by omega, by omega, fun xs st hl hx s1 => ?_⟩⟩⟩
  refine ⟨s1, fun c st hc s1 => ?_⟩
  refine ⟨s1, hc, by omega, by omega, fun ws st hw hnum s1 => ?_⟩
  have hlen : xs.length = ws.length := by omega
  have hn : ∃ ys, txs xs = txs ys ∧ 1 ≤ ys.length ∧ ys.length ≤ 9 := ⟨xs, rfl, by omega, by omega⟩
  refine ⟨s1, hn, hc, fun t st ht hz s1 => ?_⟩
  have ok : t.Ok xs := ht xs rfl
  refine ⟨t, rfl, xs, ok, hx.1, by omega, ?_⟩
  have r3 := rk_range (v := look xs ws) t
  refine i_law_rank ⟨t, xs, ws, rfl, rfl, rfl, ok, by omega, hlen, ?_⟩
  have word : ∀ Q : D → Prop, ixD (.lst [.str "false", .str "unknown", .str "true"]) (.int (t.rk (look xs ws))) Q = Q (.str (wdR (t.rk (look xs ws)))) := fun Q => by
    rcases r3 with e | e | e <;> rw [e] <;> simp [wdR]
  rw [word]
  simp only [wipeE, List.set_cons_succ, List.set_cons_zero]
  refine lc_sides hlen xs [] none (fun x m => m) (by simp; omega) fun e18 => ?_
  rw [List.nil_append]
  have hss : D.non :: sds (kn (look xs ws) xs) = sds (none :: kn (look xs ws) xs) := rfl
  have ssl : (sds (kn (look xs ws) xs)).length ≤ xs.length := by simp [sds, kn]; exact List.length_filter_le _ _
  rw [hss]
  have ss0 : none ∈ (none :: kn (look xs ws) xs) := by simp
  have ss1 : ∀ x ∈ xs, look xs ws x ≠ none → some x ∈ (none :: kn (look xs ws) xs) := fun x m k => by
    refine List.mem_cons_of_mem _ (List.mem_map.mpr ⟨x, List.mem_filter.mpr ⟨m, by simpa using k⟩, rfl⟩)
  have ssk : ∀ x ∈ (none :: kn (look xs ws) xs), Kn (look xs ws) x := fun x m => by
    rcases List.mem_cons.mp m with rfl | m
    · trivial
    · obtain ⟨y, my, rfl⟩ := List.mem_map.mp m
      have := (List.mem_filter.mp my).2
      simpa [Kn] using this
  have ssn : (none :: kn (look xs ws) xs).length ≤ 10 := by
    have : (sds (kn (look xs ws) xs)).length = (kn (look xs ws) xs).length := by simp [sds]
    rw [List.length_cons]
    omega
  refine ⟨by omega, ?_⟩
  generalize (none :: kn (look xs ws) xs) = ss at ss0 ss1 ssk ssn ⊢
  have sl := steps_len t
  have sb := steps_b (ss := ss) t ok
  have rbl := stB_len sb
  have rbs := rb_sides _ _ sb
  simp [b_law_9, backE]
  refine i_law_resting ⟨t, xs, ss, rfl, ok, by omega, rfl, ?_⟩
  refine i_law_column_answers ⟨xs, ws, rfl, rfl, hlen, by omega, ?_⟩
  simp [b_law_8, wipeE]
  have uq0 : ∀ as2, cols as2 = [] → Uq (colA (look xs ws) xs ++ as2) := fun as2 e => by
    unfold Uq
    rw [cols_append, cols_colA, e, List.append_nil]
    exact hx.2
  have cl : (colA (look xs ws) xs).length = xs.length := by simp [colA]
  have acl : (ans (colA (look xs ws) xs)).length = xs.length := by simp [ans, colA]
  have tr0 : ∀ as2, AllTr (look xs ws) as2 → AllTr (look xs ws) (colA (look xs ws) xs ++ as2) := fun as2 T a m => by
    rcases List.mem_append.mp m with m | m
    · exact tr_colA a m
    · exact T a m
  have whole : ∀ as2, AllTr (look xs ws) as2 → (∀ q ∈ t.rb ss, ∃ a ∈ as2, Cov q a) → t.may (colA (look xs ws) xs ++ as2) = T3.of (t.rk (look xs ws)) := fun as2 T cov =>
    (show AllA (look xs ws) xs ss (colA (look xs ws) xs ++ as2) from ⟨tr0 as2 T, fun x m => by rw [asked_colA m]; simp, ss0, ss1⟩).may t ok fun q m => by
      obtain ⟨a, ma, ca⟩ := cov q m
      exact ⟨a, List.mem_append_right _ ma, ca⟩
  refine lc_whole hlen (t.rb ss) [] st none s1 (fun q m => ⟨ssk _ (rbs q m).1, ssk _ (rbs q m).2⟩) (by simp; omega) (fun a m => by simp at m) rfl fun as2 st e19 s1 t2 c2 l2 _ cov => ?_
  have l2 : as2.length ≤ 24 := by simp at l2; omega
  have al2 : (ans as2).length = as2.length := by simp [ans]
  have eW : ans (colA (look xs ws) xs) ++ ans as2 = ans (colA (look xs ws) xs ++ as2) := by simp [ans]
  simp [backE, acl, al2]
  rw [eW]
  refine ⟨by omega, ?_⟩
  refine i_possible_truths ⟨t, _, xs, rfl, ok, by omega, rfl, uq0 _ c2, by simp; omega, ?_⟩
  rw [whole as2 t2 cov]
  refine same_words r3 ?_
  simp [b_law_7]
  have tail : ∀ as3 st e14, StOk st → AllTr (look xs ws) as3 → cols as3 = xs → as3.length ≤ 100 → b_law_6 (endsD [] Qd Qe) [some (.fz (.lck js)), some (.ow false st), some (.fz (.int (1 + r))), some (.fz (.lst (txs xs))), some (.fz c), some (.fz (.lst (vals ws))), some (.fz (.lst t.steps)), some (.fz (cond t.steps)), some (.fz (.str (wdR (t.rk (look xs ws))))), some (.fz (.lst (sds ss))), some (.fz (.lst (bds (t.rb ss)))), some (.fz (.lst (ans (colA (look xs ws) xs)))), some (.fz (.lst (ans (colA (look xs ws) xs ++ as2)))), some (.ow false (.lst (ans as3))), e14, none, none, none, none, none, none] := by
    intro as3 st e14 s1 t3 c3 l3
    simp [b_law_6]
    refine i_law_some ⟨s1, as3, rfl, by omega, fun bs st sub s1 => ?_⟩
    simp
    have abl : (ans bs).length = bs.length := by simp [ans]
    have bl : bs.length ≤ 100 := Nat.le_trans sub.length_le l3
    have tb : AllTr (look xs ws) bs := fun a m => t3 a (sub.subset m)
    have ub : Uq bs := List.Nodup.sublist (cols_sub sub) (by rw [c3]; exact hx.2)
    refine ⟨by omega, by omega, ?_⟩
    refine lp_has ok (by omega) tb ub (by omega) _ 0 e14 (by omega) fun e14 => ?_
    have ecut : cutD (ans (colA (look xs ws) xs ++ as2)) (some (1 + r)) none = ans as2 := by
      rw [← eW]
      exact cut_tail (by rw [acl]; exact hl.symm)
    have eadd : ans as2 ++ ans bs = ans (as2 ++ bs) := by simp [ans]
    simp [b_law_5, ecut, al2, abl, wipeE]
    refine ⟨by omega, ?_⟩
    rw [eadd]
    refine lc_mosts (as2 ++ bs) [] none (by simp; omega) fun e20 => ?_
    rw [List.nil_append]
    have ml : ((as2 ++ bs).filter isM).length ≤ 200 := by
      have := List.length_filter_le isM (as2 ++ bs)
      rw [List.length_append] at this
      omega
    have aml : (ans ((as2 ++ bs).filter isM)).length = ((as2 ++ bs).filter isM).length := by simp [ans]
    generalize em : (as2 ++ bs).filter isM = ms at ml aml ⊢
    simp [b_law_4, backE, wipeE, aml]
    refine ⟨by omega, ?_⟩
    have e0 : rangeD 0 ms.length = rangeD ((0 : Nat) : Int) (ans ms).length := by rw [aml]; rfl
    rw [e0]
    refine lc_turned (ans ms) (ans ms).length 0 none (by simp) (by omega) fun e14 => ?_
    have er : (ans ms).reverse = ans ms.reverse := by simp [ans]
    have alr : (ans ms.reverse).length = ms.length := by simp [ans]
    have eadd2 : ans (colA (look xs ws) xs) ++ ans ms.reverse = ans (colA (look xs ws) xs ++ ms.reverse) := by simp [ans]
    rw [er]
    simp [acl, alr]
    refine ⟨by omega, ?_⟩
    rw [eadd2]
    have tm : AllTr (look xs ws) ms.reverse := fun a m => by
      rw [List.mem_reverse, ← em] at m
      rcases List.mem_append.mp (List.mem_filter.mp m).1 with m | m
      · exact t2 a m
      · exact tb a m
    have cm : cols ms.reverse = [] := cols_rev _ (by rw [← em]; exact cols_filter _)
    refine i_possible_truths ⟨t, _, xs, rfl, ok, by omega, rfl, uq0 _ cm, by simp; omega, ?_⟩
    rw [whole ms.reverse tm fun q m => by
      obtain ⟨a, ma, ca⟩ := cov q m
      refine ⟨a, ?_, ca⟩
      rw [List.mem_reverse, ← em, List.mem_filter]
      refine ⟨List.mem_append_left _ ma, ?_⟩
      cases a with
      | unk _ _ => exact ca.elim
      | mst _ _ _ _ => rfl]
    exact same_words r3 h
  have hsl : (sds ss).length = ss.length := by simp [sds]
  simp [b_law_2, hsl]
  split
  · refine ⟨s1, many_ok (by omega) (by omega), fun r' st r0 r1 s1 => ⟨by omega, by omega, ?_⟩⟩
    refine lp_mixed hlen hc (bs := t.rb ss) (ss := ss) (by omega) rbs (by omega) (by omega) ssk r'.toNat 0 _ st none s1 (by omega) tr_colA fun as3 st e14 s1 t3 c3 l3 => ?_
    exact tail as3 st e14 s1 t3 (by rw [c3, cols_colA]) l3
  · exact tail _ st none s1 tr_colA cols_colA (by omega)
theorem law_asked : LawSp 63 sp_law := fun ns _ _ => ⟨_, rfl, fun d m => by
  obtain ⟨i, _, rfl⟩ := List.mem_map.mp m
  exact ⟨i, rfl⟩, rfl⟩
end DL

namespace DL
open PySem L2

abbrev TY (w : World) (K : Fg) (mg : Str → Option Value) : Prop := TX fx fn ts w K mg
section
variable {w : World} {K : Fg} {mg : Str → Option Value}
theorem tFact (T : TX fx fn ts w K mg) (i : Nat) {f : Fg → Bool} (h : fx[i]? = some f := by rfl) : f K = true := let ⟨_, _, _, c⟩ := T; c.fact i h
theorem tDef (T : TX fx fn ts w K mg) (i : Nat) {d : DefX} (h : fn[i]? = some d := by rfl) : ∃ fd, FunD K d.name d.qual d.params d.body d.scope (d.dvs K) (d.kws K) (d.at_ K) fd := let ⟨_, _, _, c⟩ := T; c.def_ i h
theorem tTab (T : TX fx fn ts w K mg) (i : Nat) {t : He.Tab} (h : ts[i]? = some t := by rfl) : ∃ es n, KDict K w (t.1 K) es n := let ⟨_, _, _, c⟩ := T; c.tab i h
theorem fInt (i : Nat) (x : String) (z : Int) (T : TX fx fn ts w K mg) (h : fx[i]? = some (fun K => (He.Fa.int x z).ok K) := by rfl) : ∃ t, mg x = some (.int z t) := let ⟨_, X, G, c⟩ := T; He.int_ok X G (c.fact i h)
theorem fStr (i : Nat) (x z : String) (T : TX fx fn ts w K mg) (h : fx[i]? = some (fun K => (He.Fa.str x z).ok K) := by rfl) : ∃ t, mg x = some (.str z t) := let ⟨_, X, G, c⟩ := T; He.str_ok X G (c.fact i h)
theorem fGlo (i : Nat) (x : String) (T : TX fx fn ts w K mg) (h : fx[i]? = some (fun K => (He.Fa.glo x).ok K) := by rfl) : mg x = some (.ref (He.ga K x)) := let ⟨_, X, G, c⟩ := T; He.glo_ok X G (c.fact i h)
theorem fFree (i : Nat) (x : String) (T : TX fx fn ts w K mg) (h : fx[i]? = some (fun K => (He.Fa.free x).ok K) := by rfl) : mg x = none := let ⟨_, X, G, c⟩ := T; He.free_ok X G (c.fact i h)
theorem fKeep (i : Nat) (x : String) (T : TX fx fn ts w K mg) (h : fx[i]? = some (fun K => (He.Fa.keep x).ok K) := by rfl) : PySem.W.keepIn K (.ref (He.ga K x)) = true := He.keep_ok (tFact T i h)
theorem fCls (i : Nat) (x : String) (T : TX fx fn ts w K mg) (h : fx[i]? = some (fun K => (He.Fa.cls x).ok K) := by rfl) : Cls K (He.ga K x) := He.cls_ok (tFact T i h)
theorem fNoat (i : Nat) (x f : String) (T : TX fx fn ts w K mg) (h : fx[i]? = some (fun K => (He.Fa.noat x f).ok K) := by rfl) : NoAttr K (He.ga K x) f := He.noat_ok (tFact T i h)
theorem fMeth (i : Nat) (x m : String) (T : TX fx fn ts w K mg) (h : fx[i]? = some (fun K => (He.Fa.meth x m).ok K) := by rfl) : Meth K (He.ga K x) m (He.ma K (He.ga K x) m) := He.meth_ok (tFact T i h)
theorem fMkr (i : Nat) (x : String) (T : TX fx fn ts w K mg) (h : fx[i]? = some (fun K => (He.Fa.mkr x).ok K) := by rfl) : Mk K (He.ga K x) (He.ma K (He.ga K x) "__init__") := He.mkr_ok (tFact T i h)
theorem fProp (i : Nat) (x f : String) (T : TX fx fn ts w K mg) (h : fx[i]? = some (prB x f) := by rfl) : PropOf K (He.ga K x) f (He.ma K (He.ga K x) f) (prA K x f) := prB_ok (tFact T i h)
theorem fStat (i : Nat) (x f : String) (T : TX fx fn ts w K mg) (h : fx[i]? = some (stB x f) := by rfl) : Stat K (He.ga K x) (.type "type") f (stA.stP K x f) (stA K x f) := stB_ok (tFact T i h)
theorem fOp (i : Nat) (x f : String) (T : TX fx fn ts w K mg) (h : fx[i]? = some (opB x f) := by rfl) : BinOk K (He.ga K x) (He.ma K (He.ga K x) f) f := opB_ok (tFact T i h)
theorem cInt (i : Nat) (x : String) (z : Int) {X : Cx} {W : WX} {p : Pos} (hg : Gl X x) (T : TY X.w X.K X.mg) (h : fx[i]? = some (fun K => (He.Fa.int x z).ok K) := by rfl) (hd : ((x : Str) == ("__debug__" : Str)) = false := by decide) : DE X W (.Name x p) (tC (.int z)) (dC (.int z)) := by
  obtain ⟨t, e⟩ := fInt i x z T h
  exact de_const hg e ⟨t, rfl⟩ (fun F => rfl) hd
theorem cStr (i : Nat) (x z : String) {X : Cx} {W : WX} {p : Pos} (hg : Gl X x) (T : TY X.w X.K X.mg) (h : fx[i]? = some (fun K => (He.Fa.str x z).ok K) := by rfl) (hd : ((x : Str) == ("__debug__" : Str)) = false := by decide) : DE X W (.Name x p) (tC (.str z)) (dC (.str z)) := by
  obtain ⟨t, e⟩ := fStr i x z T h
  exact de_const hg e ⟨t, rfl⟩ (fun F => rfl) hd
theorem fldOk1 {a f : String} (h1 : Cls K (He.ga K a)) (h2 : NoAttr K (He.ga K a) f) : FldOk K [a] f := fun C m => by
  rw [List.mem_singleton] at m
  subst m
  exact ⟨h1, h2⟩
theorem fldOk2 {a b f : String} (h1 : Cls K (He.ga K a)) (h2 : NoAttr K (He.ga K a) f) (h3 : Cls K (He.ga K b)) (h4 : NoAttr K (He.ga K b) f) : FldOk K [a, b] f := fun C m => by
  rcases List.mem_cons.mp m with rfl | m
  · exact ⟨h1, h2⟩
  · exact fldOk1 h3 h4 C m
end
section
variable {P : Program} {w : World} {K : Fg} {mg : Str → Option Value} {base : Heap}

theorem cTup_RESERVED {X : Cx} {W : WX} {p : Pos} (hg : Gl X "RESERVED") (T : TY X.w X.K X.mg) : DE X W (.Name "RESERVED" p) (tC (.ref (He.ga X.K "RESERVED"))) (dC c_RESERVED) := de_const hg (fGlo 84 "RESERVED" T) rfl fun F => is_tupC (He.tupB_ok (tFact T 85 (f := tupB "RESERVED" dv_RESERVED)) F) (by repeat (first | exact rfl | refine ⟨_, _, rfl, rfl, ?_⟩))
theorem cTup_SIGNS_OF_COMPARISON {X : Cx} {W : WX} {p : Pos} (hg : Gl X "SIGNS_OF_COMPARISON") (T : TY X.w X.K X.mg) : DE X W (.Name "SIGNS_OF_COMPARISON" p) (tC (.ref (He.ga X.K "SIGNS_OF_COMPARISON"))) (dC c_SIGNS_OF_COMPARISON) := de_const hg (fGlo 64 "SIGNS_OF_COMPARISON" T) rfl fun F => is_tupC (He.tupB_ok (tFact T 65 (f := tupB "SIGNS_OF_COMPARISON" dv_SIGNS_OF_COMPARISON)) F) (by repeat (first | exact rfl | refine ⟨_, _, rfl, rfl, ?_⟩))
theorem cTup_WORDS {X : Cx} {W : WX} {p : Pos} (hg : Gl X "WORDS") (T : TY X.w X.K X.mg) : DE X W (.Name "WORDS" p) (tC (.ref (He.ga X.K "WORDS"))) (dC c_WORDS) := de_const hg (fGlo 92 "WORDS" T) rfl fun F => is_tupC (He.tupB_ok (tFact T 93 (f := tupB "WORDS" dv_WORDS)) F) (by repeat (first | exact rfl | refine ⟨_, _, rfl, rfl, ?_⟩))
theorem cTupIx_WORDS {X : Cx} {W : WX} {p apos cpos : Pos} {e : Expr} {te : TE} {td : TDE} (hg : Gl X "WORDS") (T : TY X.w X.K X.mg) (ha : DE X W e te td) (hbase : attributeBase (.Name "WORDS" p) "index" X.env (eval (.Name "WORDS" p) X.env) = eval (.Name "WORDS" p) X.env := by rfl) (hfew : ((backTo cpos (starEach [e] X.env)).all (fun x => !x.1) && (backToKw cpos (keywordEach [] X.env)).all (fun x => x.1.isSome) && decide ([e].length + ([] : List Keyword).length + (if ([] : List Keyword).isEmpty then 0 else 1) < 30)) = true := by rfl) (hline : (apos.endLine == cpos.line) = true := by rfl) (hst : starEach [e] X.env = (false, eval e X.env) :: starEach [] X.env := by rfl) (hplain : (backTo cpos (starEach [] X.env)).any (·.1) = false := by rfl) : DE X W (.Call (.Attribute (.Name "WORDS" p) "index" apos) [e] [] cpos) (tTupIx X.K "WORDS" te) (dTupIx i_WORDS td) := de_tupIx (p := p) (apos := apos) (cpos := cpos) (ys := i_WORDS) hg (fGlo 92 "WORDS" T) (tFact T 148 (f := tupNB "WORDS")) (fun F => He.tupB_ok (tFact T 93 (f := tupB "WORDS" dv_WORDS)) F) ha rfl hbase hfew hline hst hplain
theorem sc_law_start : FnScope ["script", "cell"] ["script"] (defScope (top 58)) := ⟨rfl, rfl, rfl, by decide +kernel, rfl, by decide +kernel, by decide +kernel⟩
theorem ok_law_start (T : TY w K mg) : FnF P w K mg base 2 (He.ga K "_law_start") [] sp_law_start := by
  obtain ⟨fd, F⟩ := tDef T 0
  exact fnD_of (k := 1) (N := ["script", "cell"]) (ps := ["script"]) F sc_law_start (F.bindsN fun _ _ _ _ _ _ us hl => match us, hl with | [_], _ => rfl) (by decide) (by decide) (by decide) len_law_start (fun cdv A outer s H E hr => ⟨_, show DSs _ _ _ _ b_law_start from
 (dss_one (ds_retO (do_lst (da_cons (DO.fz (do_lc (own := [("cell", 1)]) rfl sc_law_start.nd (di_seq (de_sl (de_var 0) dp_none (dp_some de_int))) (blkOk_by (by kernel_rfl)) (own_name (by decide)) (dg_name (i := 1) sc_law_start.nd rfl (by first | exact Or.inl rfl | exact Or.inr rfl)) (fun _ _ _ _ _ => (dg_name (i := 1) sc_law_start.nd rfl (by first | exact Or.inl rfl | exact Or.inr rfl))) dts_nil (fun _ _ _ _ _ => dts_nil) (de_bty call_intV sim_int (by rfl) (fFree 35 "int" T) PyProof.Rows.boot_int (da_cons (de_var 1) da_nil)) (fun _ _ _ _ _ => (de_bty call_intV sim_int (by rfl) (fFree 35 "int" T) PyProof.Rows.boot_int (da_cons (de_var 1) da_nil))))) (da_cons de_int (da_cons de_int (da_cons de_int da_nil)))))))⟩) (fr := true) (rd := rd_law_start)
theorem sc_law_mixed : FnScope ["cell", "k", "many", "once", "twice"] ["cell", "k", "many"] (defScope (top 59)) := ⟨rfl, rfl, rfl, by decide +kernel, rfl, by decide +kernel, by decide +kernel⟩
theorem ok_law_mixed (T : TY w K mg) : FnD P w K mg base 2 (He.ga K "_law_mixed") [] sp_law_mixed := by
  obtain ⟨fd, F⟩ := tDef T 1
  exact fnD_of (k := 1) (N := ["cell", "k", "many", "once", "twice"]) (ps := ["cell", "k", "many"]) F sc_law_mixed (F.bindsN fun _ _ _ _ _ _ us hl => match us, hl with | [_, _, _], _ => rfl) (by decide) (by decide) (by decide) len_law_mixed (fun cdv A outer s H E hr => ⟨_, show DSs _ _ _ _ b_law_mixed from
 (dss_cons (ds_set (i := 3) sc_law_mixed.nd rfl (by first | exact Or.inl rfl | exact Or.inr rfl) (de_mod (de_bty call_intV sim_int (by rfl) (fFree 35 "int" T) PyProof.Rows.boot_int (da_cons (de_add (de_add (de_mul (de_var 0) de_int) (de_mul (de_var 1) de_int)) de_int) da_nil)) de_int))
 (dss_cons (ds_set (i := 4) sc_law_mixed.nd rfl (by first | exact Or.inl rfl | exact Or.inr rfl) (de_mod (de_bty call_intV sim_int (by rfl) (fFree 35 "int" T) PyProof.Rows.boot_int (da_cons (de_add (de_add (de_add (de_mul (de_var 3) (de_var 3)) (de_mul (de_var 3) de_int)) (de_mul (de_var 1) de_int)) de_int) da_nil)) de_int))
 (dss_one (ds_ret (de_mod (de_bty call_intV sim_int (by rfl) (fFree 35 "int" T) PyProof.Rows.boot_int (da_cons (de_div (de_var 4) de_int) da_nil)) (de_var 2))))))⟩) (rd := rd_law_mixed)
theorem sc_law_draw : FnScope ["state", "many", "drawn", "cell"] ["state", "many"] (defScope (top 60)) := ⟨rfl, rfl, rfl, by decide +kernel, rfl, by decide +kernel, by decide +kernel⟩
theorem ok_law_draw (T : TY w K mg) : FnD P w K mg base 3 (He.ga K "_law_draw") [0] sp_law_draw := by
  obtain ⟨fd, F⟩ := tDef T 2
  exact fnD_of (k := 2) (N := ["state", "many", "drawn", "cell"]) (ps := ["state", "many"]) F sc_law_draw (F.bindsN fun _ _ _ _ _ _ us hl => match us, hl with | [_, _], _ => rfl) (by decide) (by decide) (by decide) len_law_draw (fun cdv A outer s H E hr => ⟨_, show DSs _ _ _ _ b_law_draw from
 (dss_cons (ds_if (dt_cmp op_gt sim_gt (de_ixV hr.units (i := 0) de_int) de_int (nomark _))
 (dss_cons (ds_set (i := 2) sc_law_draw.nd rfl (by first | exact Or.inl rfl | exact Or.inr rfl) (de_mod (de_bty call_intV sim_int (by rfl) (fFree 35 "int" T) PyProof.Rows.boot_int (da_cons (de_ixV hr.units (i := 0) de_int) da_nil)) (de_var 1)))
 (dss_cons (ds_store hr.units (i := 0) (de_div (de_ixV hr.units (i := 0) de_int) (de_var 1)) de_int)
 (dss_one (ds_ret (de_var 2)))))
 dss_nil)
 (dss_cons (ds_if (dt_cmp op_gt sim_gt (de_ixV hr.units (i := 0) de_int) de_int (nomark _))
 (dss_cons (ds_store hr.units (i := 0) (de_sub (de_ixV hr.units (i := 0) de_int) de_int) de_int)
 (dss_one (ds_ret (de_call (ok_law_mixed T) (hr.mono (by decide)) (takes_of rfl rfl rfl rfl) (by rfl) (fGlo 36 "_law_mixed" T) (fKeep 37 "_law_mixed" T) (da_cons (de_ix hr.units (de_ixV hr.units (i := 0) de_int) (de_sub (de_ixV hr.units (i := 0) de_int) de_int)) (da_cons (de_ixV hr.units (i := 0) de_int) (da_cons (de_var 1) da_nil)))))))
 dss_nil)
 (dss_cons (ds_if (dt_cmp op_ge sim_ge (de_ixV hr.units (i := 0) de_int) (de_blt call_lenX sim_len (by rfl) (fFree 27 "len" T) PySem.boot_len (da_cons (de_ixV hr.units (i := 0) de_int) da_nil)) (nomark _))
 (dss_one (ds_ret de_int))
 dss_nil)
 (dss_cons (ds_set (i := 3) sc_law_draw.nd rfl (by first | exact Or.inl rfl | exact Or.inr rfl) (de_ix hr.units (de_ixV hr.units (i := 0) de_int) (de_ixV hr.units (i := 0) de_int)))
 (dss_cons (ds_store hr.units (i := 0) (de_add (de_ixV hr.units (i := 0) de_int) de_int) de_int)
 (dss_cons (ds_if (dt_cmp op_ge sim_ge (de_var 3) (de_pow de_int de_int) (nomark _))
 (dss_cons (ds_store hr.units (i := 0) (de_div (de_var 3) (de_var 1)) de_int)
 (dss_one (ds_ret (de_mod (de_bty call_intV sim_int (by rfl) (fFree 35 "int" T) PyProof.Rows.boot_int (da_cons (de_var 3) da_nil)) (de_var 1)))))
 dss_nil)
 (dss_cons (ds_store hr.units (i := 0) de_int de_int)
 (dss_one (ds_ret (de_call (ok_law_mixed T) (hr.mono (by decide)) (takes_of rfl rfl rfl rfl) (by rfl) (fGlo 36 "_law_mixed" T) (fKeep 37 "_law_mixed" T) (da_cons (de_var 3) (da_cons de_int (da_cons (de_var 1) da_nil)))))))))))))⟩) (rd := rd_law_draw)
theorem sc_law_names : FnScope ["state", "many", "reserved", "letters", "signs", "size", "base", "k", "at", "names", "name", "j"] ["state", "many"] (defScope (top 62)) := ⟨rfl, rfl, rfl, by decide +kernel, rfl, by decide +kernel, by decide +kernel⟩
theorem ok_law_names (T : TY w K mg) : FnD P w K mg base 4 (He.ga K "_law_names") [0] sp_law_names := by
  obtain ⟨fd, F⟩ := tDef T 3
  exact fnD_of (k := 3) (N := ["state", "many", "reserved", "letters", "signs", "size", "base", "k", "at", "names", "name", "j"]) (ps := ["state", "many"]) F sc_law_names (F.bindsN fun _ _ _ _ _ _ us hl => match us, hl with | [_, _], _ => rfl) (by decide) (by decide) (by decide) len_law_names (fun cdv A outer s H E hr => ⟨_, show DSs _ _ _ _ b_law_names from
 (dss_cons (ds_set (i := 2) sc_law_names.nd rfl (by first | exact Or.inl rfl | exact Or.inr rfl) (DO.fz (do_lst (da_cons de_str (da_cons de_str (da_cons de_str (da_cons de_str (da_cons de_str (da_cons de_str (da_cons de_str (da_cons de_str (da_cons de_str (da_cons de_str (da_cons de_str (da_cons de_str da_nil)))))))))))))))
 (dss_cons (ds_set (i := 2) sc_law_names.nd rfl (by first | exact Or.inl rfl | exact Or.inr rfl) (de_add (de_var 2) (DO.fz (do_lst (da_cons de_str (da_cons de_str (da_cons de_str (da_cons de_str (da_cons de_str (da_cons de_str (da_cons de_str (da_cons de_str (da_cons de_str (da_cons de_str da_nil))))))))))))))
 (dss_cons (ds_set (i := 2) sc_law_names.nd rfl (by first | exact Or.inl rfl | exact Or.inr rfl) (de_add (de_var 2) (DO.fz (do_lst (da_cons de_str (da_cons de_str (da_cons de_str da_nil)))))))
 (dss_cons (ds_set (i := 3) sc_law_names.nd rfl (by first | exact Or.inl rfl | exact Or.inr rfl) de_str)
 (dss_cons (ds_set (i := 4) sc_law_names.nd rfl (by first | exact Or.inl rfl | exact Or.inr rfl) (de_add (de_var 3) de_str))
 (dss_cons (ds_set (i := 5) sc_law_names.nd rfl (by first | exact Or.inl rfl | exact Or.inr rfl) (de_ix hr.units (DO.fz (do_lst (da_cons de_int (da_cons de_int (da_cons de_int (da_cons de_int da_nil)))))) (de_callIO 0 (ok_law_draw T) (hr.mono (by decide)) (takes_of rfl rfl rfl rfl) (by rfl) (fGlo 2 "_law_draw" T) (fKeep 3 "_law_draw" T) (da_cons de_int da_nil))))
 (dss_cons (ds_set (i := 6) sc_law_names.nd rfl (by first | exact Or.inl rfl | exact Or.inr rfl) (de_ix hr.units (de_var 3) (de_callIO 0 (ok_law_draw T) (hr.mono (by decide)) (takes_of rfl rfl rfl rfl) (by rfl) (fGlo 2 "_law_draw" T) (fKeep 3 "_law_draw" T) (da_cons de_int da_nil))))
 (dss_cons (ds_for (passes_of rfl) rfl (di_range1 (by rfl) (fFree 28 "range" T) (da_cons (de_sub (de_var 5) de_int) da_nil)) (dg_name (i := 7) sc_law_names.nd rfl (by first | exact Or.inl rfl | exact Or.inr rfl))
 (dss_one (ds_set (i := 6) sc_law_names.nd rfl (by first | exact Or.inl rfl | exact Or.inr rfl) (de_add (de_var 6) (de_ix hr.units (de_var 4) (de_callIO 0 (ok_law_draw T) (hr.mono (by decide)) (takes_of rfl rfl rfl rfl) (by rfl) (fGlo 2 "_law_draw" T) (fKeep 3 "_law_draw" T) (da_cons de_int da_nil)))))))
 (dss_cons (ds_set (i := 8) sc_law_names.nd rfl (by first | exact Or.inl rfl | exact Or.inr rfl) (de_callIO 0 (ok_law_draw T) (hr.mono (by decide)) (takes_of rfl rfl rfl rfl) (by rfl) (fGlo 2 "_law_draw" T) (fKeep 3 "_law_draw" T) (da_cons (de_var 5) da_nil)))
 (dss_cons (ds_setO (i := 9) sc_law_names.nd rfl (by first | exact Or.inl rfl | exact Or.inr rfl) (do_lst da_nil))
 (dss_cons (ds_for (passes_of rfl) rfl (di_range1 (by rfl) (fFree 28 "range" T) (da_cons (de_var 1) da_nil)) (dg_name (i := 7) sc_law_names.nd rfl (by first | exact Or.inl rfl | exact Or.inr rfl))
 (dss_cons (ds_set (i := 10) sc_law_names.nd rfl (by first | exact Or.inl rfl | exact Or.inr rfl) (de_var 6))
 (dss_cons (ds_if (dt_cmp op_gt sim_gt (de_var 7) de_int (nomark _))
 (dss_cons (ds_set (i := 10) sc_law_names.nd rfl (by first | exact Or.inl rfl | exact Or.inr rfl) (de_add (de_add (de_sl (de_var 6) dp_none (dp_some (de_var 8))) (de_ix hr.units (de_var 3) (de_callIO 0 (ok_law_draw T) (hr.mono (by decide)) (takes_of rfl rfl rfl rfl) (by rfl) (fGlo 2 "_law_draw" T) (fKeep 3 "_law_draw" T) (da_cons de_int da_nil)))) (de_sl (de_var 6) (dp_some (de_add (de_var 8) de_int)) dp_none)))
 (dss_one (ds_if (dt_cmp (op_eqX hr.units) sim_eq (de_callIO 0 (ok_law_draw T) (hr.mono (by decide)) (takes_of rfl rfl rfl rfl) (by rfl) (fGlo 2 "_law_draw" T) (fKeep 3 "_law_draw" T) (da_cons de_int da_nil)) de_int (nomark _))
 (dss_one (ds_set (i := 10) sc_law_names.nd rfl (by first | exact Or.inl rfl | exact Or.inr rfl) (de_sl (de_var 10) dp_none (dp_some (de_add de_int (de_callIO 0 (ok_law_draw T) (hr.mono (by decide)) (takes_of rfl rfl rfl rfl) (by rfl) (fGlo 2 "_law_draw" T) (fKeep 3 "_law_draw" T) (da_cons (de_blt call_lenX sim_len (by rfl) (fFree 27 "len" T) PySem.boot_len (da_cons (de_var 10) da_nil)) da_nil)))))))
 dss_nil)))
 dss_nil)
 (dss_cons (ds_for (passes_of rfl) rfl (di_range1 (by rfl) (fFree 28 "range" T) (da_cons de_int da_nil)) (dg_name (i := 11) sc_law_names.nd rfl (by first | exact Or.inl rfl | exact Or.inr rfl))
 (dss_one (ds_if (DW.dt (dw_or (dt_inV hr.units (i := 9) (de_var 10)) (dw_or1 (dt_cmp (op_inX hr.units) sim_in (de_var 10) (de_var 2) (by rfl)))))
 (dss_one (ds_set (i := 10) sc_law_names.nd rfl (by first | exact Or.inl rfl | exact Or.inr rfl) (de_add (de_sl (de_var 10) dp_none (dp_some de_int)) (de_ix hr.units (de_var 3) (de_mod (de_var 11) de_int)))))
 dss_nil)))
 (dss_one (ds_expr (de_lm (i := 9) PySem.F.slot_list_append PySem.F.type_list_append mt_append sim_app (da_cons (de_var 10) da_nil))))))))
 (dss_one (ds_ret (de_var 9))))))))))))))⟩) (rd := rd_law_names)
theorem sc_law_centres : FnScope ["state", "kind"] ["state"] (defScope (top 63)) := ⟨rfl, rfl, rfl, by decide +kernel, rfl, by decide +kernel, by decide +kernel⟩
theorem ok_law_centres (T : TY w K mg) : FnD P w K mg base 4 (He.ga K "_law_centres") [0] sp_law_centres := by
  obtain ⟨fd, F⟩ := tDef T 4
  exact fnD_of (k := 3) (N := ["state", "kind"]) (ps := ["state"]) F sc_law_centres (F.bindsN fun _ _ _ _ _ _ us hl => match us, hl with | [_], _ => rfl) (by decide) (by decide) (by decide) len_law_centres (fun cdv A outer s H E hr => ⟨_, show DSs _ _ _ _ b_law_centres from
 (dss_cons (ds_set (i := 1) sc_law_centres.nd rfl (by first | exact Or.inl rfl | exact Or.inr rfl) (de_callIO 0 (ok_law_draw T) (hr.mono (by decide)) (takes_of rfl rfl rfl rfl) (by rfl) (fGlo 2 "_law_draw" T) (fKeep 3 "_law_draw" T) (da_cons de_int da_nil)))
 (dss_cons (ds_if (dt_cmp (op_eqX hr.units) sim_eq (de_var 1) de_int (nomark _))
 (dss_one (ds_ret (DO.fz (do_lst (da_cons de_int (da_cons (de_sub (de_callIO 0 (ok_law_draw T) (hr.mono (by decide)) (takes_of rfl rfl rfl rfl) (by rfl) (fGlo 2 "_law_draw" T) (fKeep 3 "_law_draw" T) (da_cons de_int da_nil)) de_int) da_nil))))))
 dss_nil)
 (dss_cons (ds_if (dt_cmp (op_eqX hr.units) sim_eq (de_var 1) de_int (nomark _))
 (dss_one (ds_ret (DO.fz (do_lst (da_cons de_int (da_cons (de_callIO 0 (ok_law_draw T) (hr.mono (by decide)) (takes_of rfl rfl rfl rfl) (by rfl) (fGlo 2 "_law_draw" T) (fKeep 3 "_law_draw" T) (da_cons (de_pow de_int de_int) da_nil)) da_nil))))))
 dss_nil)
 (dss_cons (ds_if (dt_cmp (op_eqX hr.units) sim_eq (de_var 1) de_int (nomark _))
 (dss_one (ds_ret (DO.fz (do_lst (da_cons de_int (da_cons (de_sub de_int (de_callIO 0 (ok_law_draw T) (hr.mono (by decide)) (takes_of rfl rfl rfl rfl) (by rfl) (fGlo 2 "_law_draw" T) (fKeep 3 "_law_draw" T) (da_cons (de_pow de_int de_int) da_nil))) da_nil))))))
 dss_nil)
 (dss_one (ds_ret (DO.fz (do_lst (da_cons de_int (da_cons de_int da_nil))))))))))⟩) (rd := rd_law_centres)
theorem sc_law_near : FnScope ["state", "centres"] ["state", "centres"] (defScope (top 64)) := ⟨rfl, rfl, rfl, by decide +kernel, rfl, by decide +kernel, by decide +kernel⟩
theorem ok_law_near (T : TY w K mg) : FnD P w K mg base 4 (He.ga K "_law_near") [0] sp_law_near := by
  obtain ⟨fd, F⟩ := tDef T 5
  exact fnD_of (k := 3) (N := ["state", "centres"]) (ps := ["state", "centres"]) F sc_law_near (F.bindsN fun _ _ _ _ _ _ us hl => match us, hl with | [_, _], _ => rfl) (by decide) (by decide) (by decide) len_law_near (fun cdv A outer s H E hr => ⟨_, show DSs _ _ _ _ b_law_near from
 (dss_cons (ds_if (dt_cmp (op_eqX hr.units) sim_eq (de_callIO 0 (ok_law_draw T) (hr.mono (by decide)) (takes_of rfl rfl rfl rfl) (by rfl) (fGlo 2 "_law_draw" T) (fKeep 3 "_law_draw" T) (da_cons de_int da_nil)) de_int (nomark _))
 (dss_one (ds_ret (de_mul (de_callIO 0 (ok_law_draw T) (hr.mono (by decide)) (takes_of rfl rfl rfl rfl) (by rfl) (fGlo 2 "_law_draw" T) (fKeep 3 "_law_draw" T) (da_cons (de_pow de_int de_int) da_nil)) (de_sub de_int (de_mul de_int (de_callIO 0 (ok_law_draw T) (hr.mono (by decide)) (takes_of rfl rfl rfl rfl) (by rfl) (fGlo 2 "_law_draw" T) (fKeep 3 "_law_draw" T) (da_cons de_int da_nil)))))))
 dss_nil)
 (dss_one (ds_ret (de_add (de_ix hr.units (de_var 1) (de_callIO 0 (ok_law_draw T) (hr.mono (by decide)) (takes_of rfl rfl rfl rfl) (by rfl) (fGlo 2 "_law_draw" T) (fKeep 3 "_law_draw" T) (da_cons de_int da_nil))) (de_ix hr.units (DO.fz (do_lst (da_cons de_int (da_cons de_int (da_cons (de_neg de_int) (da_cons de_int (da_cons (de_neg de_int) (da_cons de_int (da_cons (de_neg de_int) da_nil))))))))) (de_callIO 0 (ok_law_draw T) (hr.mono (by decide)) (takes_of rfl rfl rfl rfl) (by rfl) (fGlo 2 "_law_draw" T) (fKeep 3 "_law_draw" T) (da_cons de_int da_nil)))))))⟩) (rd := rd_law_near)
theorem sc_law_cells : FnScope ["state", "many", "centres", "values", "k"] ["state", "many", "centres"] (defScope (top 65)) := ⟨rfl, rfl, rfl, by decide +kernel, rfl, by decide +kernel, by decide +kernel⟩
theorem ok_law_cells (T : TY w K mg) : FnD P w K mg base 5 (He.ga K "_law_cells") [0] sp_law_cells := by
  obtain ⟨fd, F⟩ := tDef T 6
  exact fnD_of (k := 4) (N := ["state", "many", "centres", "values", "k"]) (ps := ["state", "many", "centres"]) F sc_law_cells (F.bindsN fun _ _ _ _ _ _ us hl => match us, hl with | [_, _, _], _ => rfl) (by decide) (by decide) (by decide) len_law_cells (fun cdv A outer s H E hr => ⟨_, show DSs _ _ _ _ b_law_cells from
 (dss_cons (ds_setO (i := 3) sc_law_cells.nd rfl (by first | exact Or.inl rfl | exact Or.inr rfl) (do_lst da_nil))
 (dss_cons (ds_for (passes_of rfl) rfl (di_range1 (by rfl) (fFree 28 "range" T) (da_cons (de_var 1) da_nil)) (dg_name (i := 4) sc_law_cells.nd rfl (by first | exact Or.inl rfl | exact Or.inr rfl))
 (dss_one (ds_if (dt_cmp (op_eqX hr.units) sim_eq (de_callIO 0 (ok_law_draw T) (hr.mono (by decide)) (takes_of rfl rfl rfl rfl) (by rfl) (fGlo 2 "_law_draw" T) (fKeep 3 "_law_draw" T) (da_cons de_int da_nil)) de_int (nomark _))
 (dss_one (ds_expr (de_lm (i := 3) PySem.F.slot_list_append PySem.F.type_list_append mt_append sim_app (da_cons de_non da_nil))))
 (dss_one (ds_expr (de_lm (i := 3) PySem.F.slot_list_append PySem.F.type_list_append mt_append sim_app (da_cons (de_callIO 0 (ok_law_near T) (hr.mono (by decide)) (takes_of rfl rfl rfl rfl) (by rfl) (fGlo 38 "_law_near" T) (fKeep 39 "_law_near" T) (da_cons (de_var 2) da_nil)) da_nil)))))))
 (dss_one (ds_ret (de_var 3)))))⟩) (rd := rd_law_cells)
theorem sc_law_column : FnScope ["state", "names", "centres", "shift"] ["state", "names", "centres"] (defScope (top 66)) := ⟨rfl, rfl, rfl, by decide +kernel, rfl, by decide +kernel, by decide +kernel⟩
theorem ok_law_column (T : TY w K mg) : FnD P w K mg base 4 (He.ga K "_law_column") [0] sp_law_column := by
  obtain ⟨fd, F⟩ := tDef T 7
  exact fnD_of (k := 3) (N := ["state", "names", "centres", "shift"]) (ps := ["state", "names", "centres"]) F sc_law_column (F.bindsN fun _ _ _ _ _ _ us hl => match us, hl with | [_, _, _], _ => rfl) (by decide) (by decide) (by decide) len_law_column (fun cdv A outer s H E hr => ⟨_, show DSs _ _ _ _ b_law_column from
 (dss_cons (ds_set (i := 3) sc_law_column.nd rfl (by first | exact Or.inl rfl | exact Or.inr rfl) de_int)
 (dss_cons (ds_if (dt_cmp (op_eqX hr.units) sim_eq (de_callIO 0 (ok_law_draw T) (hr.mono (by decide)) (takes_of rfl rfl rfl rfl) (by rfl) (fGlo 2 "_law_draw" T) (fKeep 3 "_law_draw" T) (da_cons de_int da_nil)) de_int (nomark _))
 (dss_one (ds_set (i := 3) sc_law_column.nd rfl (by first | exact Or.inl rfl | exact Or.inr rfl) (de_add (de_sub (de_ix hr.units (de_var 2) (de_callIO 0 (ok_law_draw T) (hr.mono (by decide)) (takes_of rfl rfl rfl rfl) (by rfl) (fGlo 2 "_law_draw" T) (fKeep 3 "_law_draw" T) (da_cons de_int da_nil))) (de_ix hr.units (de_var 2) (de_callIO 0 (ok_law_draw T) (hr.mono (by decide)) (takes_of rfl rfl rfl rfl) (by rfl) (fGlo 2 "_law_draw" T) (fKeep 3 "_law_draw" T) (da_cons de_int da_nil)))) (de_ix hr.units (DO.fz (do_lst (da_cons de_int (da_cons de_int (da_cons (de_neg de_int) (da_cons de_int (da_cons (de_neg de_int) da_nil))))))) (de_callIO 0 (ok_law_draw T) (hr.mono (by decide)) (takes_of rfl rfl rfl rfl) (by rfl) (fGlo 2 "_law_draw" T) (fKeep 3 "_law_draw" T) (da_cons de_int da_nil))))))
 dss_nil)
 (dss_one (ds_ret (de_tup (da_cons (de_ix hr.units (de_var 1) (de_callIO 0 (ok_law_draw T) (hr.mono (by decide)) (takes_of rfl rfl rfl rfl) (by rfl) (fGlo 2 "_law_draw" T) (fKeep 3 "_law_draw" T) (da_cons (de_blt call_lenX sim_len (by rfl) (fFree 27 "len" T) PySem.boot_len (da_cons (de_var 1) da_nil)) da_nil))) (da_cons (de_var 3) da_nil)))))))⟩) (rd := rd_law_column)
theorem sc_law_side : FnScope ["state", "names", "centres", "kind"] ["state", "names", "centres"] (defScope (top 67)) := ⟨rfl, rfl, rfl, by decide +kernel, rfl, by decide +kernel, by decide +kernel⟩
theorem ok_law_side (T : TY w K mg) : FnD P w K mg base 5 (He.ga K "_law_side") [0] sp_law_side := by
  obtain ⟨fd, F⟩ := tDef T 8
  exact fnD_of (k := 4) (N := ["state", "names", "centres", "kind"]) (ps := ["state", "names", "centres"]) F sc_law_side (F.bindsN fun _ _ _ _ _ _ us hl => match us, hl with | [_, _, _], _ => rfl) (by decide) (by decide) (by decide) len_law_side (fun cdv A outer s H E hr => ⟨_, show DSs _ _ _ _ b_law_side from
 (dss_cons (ds_set (i := 3) sc_law_side.nd rfl (by first | exact Or.inl rfl | exact Or.inr rfl) (de_callIO 0 (ok_law_draw T) (hr.mono (by decide)) (takes_of rfl rfl rfl rfl) (by rfl) (fGlo 2 "_law_draw" T) (fKeep 3 "_law_draw" T) (da_cons de_int da_nil)))
 (dss_cons (ds_if (dt_cmp op_lt sim_lt (de_var 3) de_int (nomark _))
 (dss_one (ds_ret (de_tup (da_cons de_non (da_cons (de_callIO 0 (ok_law_near T) (hr.mono (by decide)) (takes_of rfl rfl rfl rfl) (by rfl) (fGlo 38 "_law_near" T) (fKeep 39 "_law_near" T) (da_cons (de_var 2) da_nil)) da_nil)))))
 dss_nil)
 (dss_cons (ds_if (dt_cmp op_lt sim_lt (de_var 3) de_int (nomark _))
 (dss_one (ds_ret (de_callIO 0 (ok_law_column T) (hr.mono (by decide)) (takes_of rfl rfl rfl rfl) (by rfl) (fGlo 42 "_law_column" T) (fKeep 43 "_law_column" T) (da_cons (de_var 1) (da_cons (de_var 2) da_nil)))))
 dss_nil)
 (dss_one (ds_ret de_non)))))⟩) (rd := rd_law_side)
theorem sc_law_leaf : FnScope ["state", "names", "centres", "kind", "op", "left"] ["state", "names", "centres"] (defScope (top 68)) := ⟨rfl, rfl, rfl, by decide +kernel, rfl, by decide +kernel, by decide +kernel⟩
theorem ok_law_leaf (T : TY w K mg) : FnD P w K mg base 6 (He.ga K "_law_leaf") [0] sp_law_leaf := by
  obtain ⟨fd, F⟩ := tDef T 9
  exact fnD_of (k := 5) (N := ["state", "names", "centres", "kind", "op", "left"]) (ps := ["state", "names", "centres"]) F sc_law_leaf (F.bindsN fun _ _ _ _ _ _ us hl => match us, hl with | [_, _, _], _ => rfl) (by decide) (by decide) (by decide) len_law_leaf (fun cdv A outer s H E hr => ⟨_, show DSs _ _ _ _ b_law_leaf from
 (dss_cons (ds_set (i := 3) sc_law_leaf.nd rfl (by first | exact Or.inl rfl | exact Or.inr rfl) (de_callIO 0 (ok_law_draw T) (hr.mono (by decide)) (takes_of rfl rfl rfl rfl) (by rfl) (fGlo 2 "_law_draw" T) (fKeep 3 "_law_draw" T) (da_cons de_int da_nil)))
 (dss_cons (ds_if (dt_cmp (op_eqX hr.units) sim_eq (de_var 3) de_int (nomark _))
 (dss_one (ds_ret (DO.fz (do_lst (da_cons (de_tup (da_cons de_str (da_cons (de_callIO 0 (ok_law_column T) (hr.mono (by decide)) (takes_of rfl rfl rfl rfl) (by rfl) (fGlo 42 "_law_column" T) (fKeep 43 "_law_column" T) (da_cons (de_var 1) (da_cons (de_var 2) da_nil))) da_nil))) da_nil)))))
 dss_nil)
 (dss_cons (ds_if (dt_cmp (op_eqX hr.units) sim_eq (de_var 3) de_int (nomark _))
 (dss_one (ds_ret (DO.fz (do_lst (da_cons (de_tup (da_cons de_str (da_cons (de_callIO 0 (ok_law_side T) (hr.mono (by decide)) (takes_of rfl rfl rfl rfl) (by rfl) (fGlo 44 "_law_side" T) (fKeep 45 "_law_side" T) (da_cons (de_var 1) (da_cons (de_var 2) da_nil))) da_nil))) da_nil)))))
 dss_nil)
 (dss_cons (ds_if (dt_cmp (op_eqX hr.units) sim_eq (de_var 3) de_int (nomark _))
 (dss_one (ds_ret (DO.fz (do_lst (da_cons (de_tup (da_cons (de_ix hr.units (DO.fz (do_lst (da_cons de_str (da_cons de_str (da_cons de_str da_nil))))) (de_callIO 0 (ok_law_draw T) (hr.mono (by decide)) (takes_of rfl rfl rfl rfl) (by rfl) (fGlo 2 "_law_draw" T) (fKeep 3 "_law_draw" T) (da_cons de_int da_nil))) da_nil)) da_nil)))))
 dss_nil)
 (dss_cons (ds_set (i := 4) sc_law_leaf.nd rfl (by first | exact Or.inl rfl | exact Or.inr rfl) (de_ix hr.units (DO.fz (do_lst (da_cons de_str (da_cons de_str (da_cons de_str (da_cons de_str (da_cons de_str (da_cons de_str da_nil)))))))) (de_callIO 0 (ok_law_draw T) (hr.mono (by decide)) (takes_of rfl rfl rfl rfl) (by rfl) (fGlo 2 "_law_draw" T) (fKeep 3 "_law_draw" T) (da_cons de_int da_nil))))
 (dss_cons (ds_set (i := 5) sc_law_leaf.nd rfl (by first | exact Or.inl rfl | exact Or.inr rfl) (de_callIO 0 (ok_law_column T) (hr.mono (by decide)) (takes_of rfl rfl rfl rfl) (by rfl) (fGlo 42 "_law_column" T) (fKeep 43 "_law_column" T) (da_cons (de_var 1) (da_cons (de_var 2) da_nil))))
 (dss_cons (ds_if (dt_cmp (op_eqX hr.units) sim_eq (de_var 3) de_int (nomark _))
 (dss_one (ds_set (i := 5) sc_law_leaf.nd rfl (by first | exact Or.inl rfl | exact Or.inr rfl) (de_callIO 0 (ok_law_side T) (hr.mono (by decide)) (takes_of rfl rfl rfl rfl) (by rfl) (fGlo 44 "_law_side" T) (fKeep 45 "_law_side" T) (da_cons (de_var 1) (da_cons (de_var 2) da_nil)))))
 dss_nil)
 (dss_one (ds_ret (DO.fz (do_lst (da_cons (de_tup (da_cons de_str (da_cons (de_var 5) (da_cons (de_var 4) (da_cons (de_callIO 0 (ok_law_side T) (hr.mono (by decide)) (takes_of rfl rfl rfl rfl) (by rfl) (fGlo 44 "_law_side" T) (fKeep 45 "_law_side" T) (da_cons (de_var 1) (da_cons (de_var 2) da_nil))) da_nil))))) da_nil))))))))))))⟩) (rd := rd_law_leaf)
theorem sc_law_steps : FnScope ["state", "names", "centres", "most", "words", "parts", "k", "part", "wrap", "inner", "steps"] ["state", "names", "centres", "most"] (defScope (top 69)) := ⟨rfl, rfl, rfl, by decide +kernel, rfl, by decide +kernel, by decide +kernel⟩
theorem ok_law_steps (T : TY w K mg) : FnD P w K mg base 7 (He.ga K "_law_steps") [0] sp_law_steps := by
  obtain ⟨fd, F⟩ := tDef T 10
  exact fnD_of (k := 6) (N := ["state", "names", "centres", "most", "words", "parts", "k", "part", "wrap", "inner", "steps"]) (ps := ["state", "names", "centres", "most"]) F sc_law_steps (F.bindsN fun _ _ _ _ _ _ us hl => match us, hl with | [_, _, _, _], _ => rfl) (by decide) (by decide) (by decide) len_law_steps (fun cdv A outer s H E hr => ⟨_, show DSs _ _ _ _ b_law_steps from
 (dss_cons (ds_set (i := 4) sc_law_steps.nd rfl (by first | exact Or.inl rfl | exact Or.inr rfl) (DO.fz (do_lst (da_cons de_str (da_cons de_str (da_cons de_str da_nil))))))
 (dss_cons (ds_setO (i := 5) sc_law_steps.nd rfl (by first | exact Or.inl rfl | exact Or.inr rfl) (do_lst da_nil))
 (dss_cons (ds_for (passes_of rfl) rfl (di_range1 (by rfl) (fFree 28 "range" T) (da_cons (de_add de_int (de_callIO 0 (ok_law_draw T) (hr.mono (by decide)) (takes_of rfl rfl rfl rfl) (by rfl) (fGlo 2 "_law_draw" T) (fKeep 3 "_law_draw" T) (da_cons (de_var 3) da_nil))) da_nil)) (dg_name (i := 6) sc_law_steps.nd rfl (by first | exact Or.inl rfl | exact Or.inr rfl))
 (dss_cons (ds_set (i := 7) sc_law_steps.nd rfl (by first | exact Or.inl rfl | exact Or.inr rfl) (de_callIO 0 (ok_law_leaf T) (hr.mono (by decide)) (takes_of rfl rfl rfl rfl) (by rfl) (fGlo 40 "_law_leaf" T) (fKeep 41 "_law_leaf" T) (da_cons (de_var 1) (da_cons (de_var 2) da_nil))))
 (dss_cons (ds_set (i := 8) sc_law_steps.nd rfl (by first | exact Or.inl rfl | exact Or.inr rfl) (de_callIO 0 (ok_law_draw T) (hr.mono (by decide)) (takes_of rfl rfl rfl rfl) (by rfl) (fGlo 2 "_law_draw" T) (fKeep 3 "_law_draw" T) (da_cons de_int da_nil)))
 (dss_cons (ds_if (dt_cmp (op_eqX hr.units) sim_eq (de_var 8) de_int (nomark _))
 (dss_one (ds_set (i := 7) sc_law_steps.nd rfl (by first | exact Or.inl rfl | exact Or.inr rfl) (de_add (de_var 7) (DO.fz (do_lst (da_cons (de_tup (da_cons de_str da_nil)) da_nil))))))
 dss_nil)
 (dss_cons (ds_if (dt_cmp op_gt sim_gt (de_var 8) de_int (nomark _))
 (dss_one (ds_set (i := 7) sc_law_steps.nd rfl (by first | exact Or.inl rfl | exact Or.inr rfl) (de_add (de_var 7) (DO.fz (do_lst (da_cons (de_tup (da_cons de_str (da_cons (de_ix hr.units (de_var 4) (de_callIO 0 (ok_law_draw T) (hr.mono (by decide)) (takes_of rfl rfl rfl rfl) (by rfl) (fGlo 2 "_law_draw" T) (fKeep 3 "_law_draw" T) (da_cons de_int da_nil))) da_nil))) da_nil))))))
 dss_nil)
 (dss_one (ds_expr (de_lm (i := 5) PySem.F.slot_list_append PySem.F.type_list_append mt_append sim_app (da_cons (de_var 7) da_nil)))))))))
 (dss_cons (ds_if (DW.dt (dw_and (dt_cmp op_gt sim_gt (de_lenV (i := 5) rfl (by rfl) (fFree 27 "len" T)) de_int (nomark _)) (dw_and1 (dt_cmp (op_eqX hr.units) sim_eq (de_callIO 0 (ok_law_draw T) (hr.mono (by decide)) (takes_of rfl rfl rfl rfl) (by rfl) (fGlo 2 "_law_draw" T) (fKeep 3 "_law_draw" T) (da_cons de_int da_nil)) de_int (nomark _)))))
 (dss_cons (ds_set (i := 9) sc_law_steps.nd rfl (by first | exact Or.inl rfl | exact Or.inr rfl) (de_add (de_add (de_ixV hr.units (i := 5) de_int) (de_ixV hr.units (i := 5) de_int)) (DO.fz (do_lst (da_cons (de_tup (da_cons (de_ix hr.units (DO.fz (do_lst (da_cons de_str (da_cons de_str da_nil)))) (de_callIO 0 (ok_law_draw T) (hr.mono (by decide)) (takes_of rfl rfl rfl rfl) (by rfl) (fGlo 2 "_law_draw" T) (fKeep 3 "_law_draw" T) (da_cons de_int da_nil))) (da_cons de_int da_nil))) da_nil)))))
 (dss_one (ds_setO (i := 5) sc_law_steps.nd rfl (by first | exact Or.inl rfl | exact Or.inr rfl) (do_cat (DO.fz (do_lst (da_cons (de_var 9) da_nil))) (DO.fz (do_slV (i := 5) (dp_some de_int) dp_none))))))
 dss_nil)
 (dss_cons (ds_set (i := 10) sc_law_steps.nd rfl (by first | exact Or.inl rfl | exact Or.inr rfl) (DO.fz (do_lst da_nil)))
 (dss_cons (ds_for (passes_of rfl) rfl (di_seq (de_var 5)) (dg_name (i := 7) sc_law_steps.nd rfl (by first | exact Or.inl rfl | exact Or.inr rfl))
 (dss_one (ds_set (i := 10) sc_law_steps.nd rfl (by first | exact Or.inl rfl | exact Or.inr rfl) (de_add (de_var 10) (de_var 7)))))
 (dss_cons (ds_if (dt_cmp op_gt sim_gt (de_lenV (i := 5) rfl (by rfl) (fFree 27 "len" T)) de_int (nomark _))
 (dss_cons (ds_set (i := 10) sc_law_steps.nd rfl (by first | exact Or.inl rfl | exact Or.inr rfl) (de_add (de_var 10) (DO.fz (do_lst (da_cons (de_tup (da_cons (de_ix hr.units (DO.fz (do_lst (da_cons de_str (da_cons de_str da_nil)))) (de_callIO 0 (ok_law_draw T) (hr.mono (by decide)) (takes_of rfl rfl rfl rfl) (by rfl) (fGlo 2 "_law_draw" T) (fKeep 3 "_law_draw" T) (da_cons de_int da_nil))) (da_cons (de_lenV (i := 5) rfl (by rfl) (fFree 27 "len" T)) da_nil))) da_nil)))))
 (dss_one (ds_if (dt_cmp (op_eqX hr.units) sim_eq (de_callIO 0 (ok_law_draw T) (hr.mono (by decide)) (takes_of rfl rfl rfl rfl) (by rfl) (fGlo 2 "_law_draw" T) (fKeep 3 "_law_draw" T) (da_cons de_int da_nil)) de_int (nomark _))
 (dss_one (ds_set (i := 10) sc_law_steps.nd rfl (by first | exact Or.inl rfl | exact Or.inr rfl) (de_add (de_var 10) (DO.fz (do_lst (da_cons (de_tup (da_cons de_str da_nil)) da_nil))))))
 dss_nil)))
 dss_nil)
 (dss_one (ds_ret (de_var 10))))))))))⟩) (rd := rd_law_steps)
theorem sc_Condition_init : FnScope ["self", "steps"] ["self", "steps"] (defScope (inClass (top 27) 0)) := ⟨rfl, rfl, rfl, by decide +kernel, rfl, by decide +kernel, by decide +kernel⟩
theorem ok_Condition_init (T : TY w K mg) : FnD P w K mg base 2 (He.ma K (He.ga K "Condition") "__init__") [0] sp_Condition_init := by
  obtain ⟨fd, F⟩ := tDef T 11
  exact fnD_of (k := 1) (N := ["self", "steps"]) (ps := ["self", "steps"]) F sc_Condition_init (F.bindsN fun _ _ _ _ _ _ us hl => match us, hl with | [_, _], _ => rfl) (by decide) (by decide) (by decide) len_Condition_init (fun cdv A outer s H E hr => ⟨_, show DSs _ _ _ _ b_Condition_init from
 (dss_one (ds_fld (i := 0) (fldOk1 (fCls 71 "Condition" T) (fNoat 72 "Condition" "steps" T)) (de_bty call_tuple_of sim_tuple (by rfl) (fFree 70 "tuple" T) PyProof.Rows.boot_tuple (da_cons (de_var 1) da_nil))))⟩) (rd := rd_Condition_init)
theorem sc_compare : FnScope ["left", "op", "right"] ["left", "op", "right"] (defScope (top 31)) := ⟨rfl, rfl, rfl, by decide +kernel, rfl, by decide +kernel, by decide +kernel⟩
theorem ok_compare (T : TY w K mg) : FnD P w K mg base 4 (He.ga K "compare") [] sp_compare := by
  obtain ⟨fd, F⟩ := tDef T 12
  exact fnD_of (k := 3) (N := ["left", "op", "right"]) (ps := ["left", "op", "right"]) F sc_compare (F.bindsN fun _ _ _ _ _ _ us hl => match us, hl with | [_, _, _], _ => rfl) (by decide) (by decide) (by decide) len_compare (fun cdv A outer s H E hr => ⟨_, show DSs _ _ _ _ b_compare from
 (dss_cons (ds_if (dt_cmp (op_notInX hr.units) sim_in (de_var 1) (cTup_SIGNS_OF_COMPARISON (by rfl) T) (by rfl))
 (dss_one ds_never)
 dss_nil)
 (dss_one (ds_ret (DO.fz (do_make (C := "Condition") (fMkr 68 "Condition" T) (ok_Condition_init T) (hr.mono (by decide)) (takes_of rfl rfl rfl rfl) (by rfl) (fGlo 69 "Condition" T) (da_cons (DO.fz (do_lst (da_cons (de_tup (da_cons de_str (da_cons (de_fld (cs := ["Term"]) (f := "shape") (fldOk1 (fCls 66 "Term" T) (fNoat 67 "Term" "shape" T)) (de_var 0)) (da_cons (de_var 1) (da_cons (de_fld (cs := ["Term"]) (f := "shape") (fldOk1 (fCls 66 "Term" T) (fNoat 67 "Term" "shape" T)) (de_var 2)) da_nil))))) da_nil))) da_nil))))))⟩) (rd := rd_compare)
theorem sc_Term_init : FnScope ["self", "shape"] ["self", "shape"] (defScope (inClass (top 16) 0)) := ⟨rfl, rfl, rfl, by decide +kernel, rfl, by decide +kernel, by decide +kernel⟩
theorem ok_Term_init (T : TY w K mg) : FnD P w K mg base 2 (He.ma K (He.ga K "Term") "__init__") [0] sp_Term_init := by
  obtain ⟨fd, F⟩ := tDef T 13
  exact fnD_of (k := 1) (N := ["self", "shape"]) (ps := ["self", "shape"]) F sc_Term_init (F.bindsN fun _ _ _ _ _ _ us hl => match us, hl with | [_, _], _ => rfl) (by decide) (by decide) (by decide) len_Term_init (fun cdv A outer s H E hr => ⟨_, show DSs _ _ _ _ b_Term_init from
 (dss_one (ds_fld (i := 0) (fldOk1 (fCls 66 "Term" T) (fNoat 67 "Term" "shape" T)) (de_var 1)))⟩) (rd := rd_Term_init)
theorem sc_Term_of_nothing : FnScope [] [] (defScope (inClass (top 16) 3)) := ⟨rfl, rfl, rfl, by decide +kernel, rfl, by decide +kernel, by decide +kernel⟩
theorem ok_Term_of_nothing (T : TY w K mg) : FnD P w K mg base 4 (stA K "Term" "of_nothing") [] sp_Term_of_nothing := by
  obtain ⟨fd, F⟩ := tDef T 14
  exact fnD_of (k := 3) (N := []) (ps := []) F sc_Term_of_nothing (F.bindsN fun _ _ _ _ _ _ us hl => match us, hl with | [], _ => rfl) (by decide) (by decide) (by decide) len_Term_of_nothing (fun cdv A outer s H E hr => ⟨_, show DSs _ _ _ _ b_Term_of_nothing from
 (dss_one (ds_ret (DO.fz (do_make (C := "Term") (fMkr 78 "Term" T) (ok_Term_init T) (hr.mono (by decide)) (takes_of rfl rfl rfl rfl) (by rfl) (fGlo 73 "Term" T) (da_cons de_non da_nil)))))⟩) (rd := rd_Term_of_nothing)
theorem sc_Term_of_number : FnScope ["number"] ["number"] (defScope (inClass (top 16) 2)) := ⟨rfl, rfl, rfl, by decide +kernel, rfl, by decide +kernel, by decide +kernel⟩
theorem ok_Term_of_number (T : TY w K mg) : FnD P w K mg base 4 (stA K "Term" "of_number") [] sp_Term_of_number := by
  obtain ⟨fd, F⟩ := tDef T 15
  exact fnD_of (k := 3) (N := ["number"]) (ps := ["number"]) F sc_Term_of_number (F.bindsN fun _ _ _ _ _ _ us hl => match us, hl with | [_], _ => rfl) (by decide) (by decide) (by decide) len_Term_of_number (fun cdv A outer s H E hr => ⟨_, show DSs _ _ _ _ b_Term_of_number from
 (dss_one (ds_ret (DO.fz (do_make (C := "Term") (fMkr 78 "Term" T) (ok_Term_init T) (hr.mono (by decide)) (takes_of rfl rfl rfl rfl) (by rfl) (fGlo 73 "Term" T) (da_cons (de_tup (da_cons de_non (da_cons (de_var 0) da_nil))) da_nil)))))⟩) (rd := rd_Term_of_number)
theorem sc_is_name : FnScope ["text", "sign"] ["text"] (defScope (top 10)) := ⟨rfl, rfl, rfl, by decide +kernel, rfl, by decide +kernel, by decide +kernel⟩
theorem ok_is_name (T : TY w K mg) : FnD P w K mg base 2 (He.ga K "is_name") [] sp_is_name := by
  obtain ⟨fd, F⟩ := tDef T 16
  exact fnD_of (k := 1) (N := ["text", "sign"]) (ps := ["text"]) F sc_is_name (F.bindsN fun _ _ _ _ _ _ us hl => match us, hl with | [_], _ => rfl) (by decide) (by decide) (by decide) len_is_name (fun cdv A outer s H E hr => ⟨_, show DSs _ _ _ _ b_is_name from
 (dss_cons (ds_if (DW.dt (dw_or (dt_cmp op_lt sim_lt (de_blt call_lenX sim_len (by rfl) (fFree 27 "len" T) PySem.boot_len (da_cons (de_var 0) da_nil)) de_int (nomark _)) (dw_or (dt_cmp op_gt sim_gt (de_blt call_lenX sim_len (by rfl) (fFree 27 "len" T) PySem.boot_len (da_cons (de_var 0) da_nil)) (cInt 83 "LONGEST" 12 (by rfl) T) (nomark _)) (dw_or1 (dt_cmp (op_inX hr.units) sim_in (de_var 0) (cTup_RESERVED (by rfl) T) (by rfl))))))
 (dss_one (ds_ret de_bl))
 dss_nil)
 (dss_cons (ds_if (dt_cmp (op_notInX hr.units) sim_in (de_ix hr.units (de_var 0) de_int) (cStr 86 "LETTERS" "abcdefghijklmnopqrstuvwxyz" (by rfl) T) (by rfl))
 (dss_one (ds_ret de_bl))
 dss_nil)
 (dss_cons (ds_for (passes_of rfl) rfl (di_seq (de_var 0)) (dg_name (i := 1) sc_is_name.nd rfl (by first | exact Or.inl rfl | exact Or.inr rfl))
 (dss_one (ds_if (dt_cmp (op_notInX hr.units) sim_in (de_var 1) (cStr 87 "SIGNS" "abcdefghijklmnopqrstuvwxyz0123456789_" (by rfl) T) (by rfl))
 (dss_one (ds_ret de_bl))
 dss_nil)))
 (dss_one (ds_ret de_bl)))))⟩) (rd := rd_is_name)
theorem sc_check_name : FnScope ["name"] ["name"] (defScope (top 11)) := ⟨rfl, rfl, rfl, by decide +kernel, rfl, by decide +kernel, by decide +kernel⟩
theorem ok_check_name (T : TY w K mg) : FnD P w K mg base 3 (He.ga K "check_name") [] sp_check_name := by
  obtain ⟨fd, F⟩ := tDef T 17
  exact fnD_of (k := 2) (N := ["name"]) (ps := ["name"]) F sc_check_name (F.bindsN fun _ _ _ _ _ _ us hl => match us, hl with | [_], _ => rfl) (by decide) (by decide) (by decide) len_check_name (fun cdv A outer s H E hr => ⟨_, show DSs _ _ _ _ b_check_name from
 (dss_one (ds_if (dt_not (dt_truth (de_call (ok_is_name T) (hr.mono (by decide)) (takes_of rfl rfl rfl rfl) (by rfl) (fGlo 81 "is_name" T) (fKeep 82 "is_name" T) (da_cons (de_var 0) da_nil))))
 (dss_one ds_never)
 dss_nil))⟩) (rd := rd_check_name)
theorem sc_Term_of_column : FnScope ["name"] ["name"] (defScope (inClass (top 16) 1)) := ⟨rfl, rfl, rfl, by decide +kernel, rfl, by decide +kernel, by decide +kernel⟩
theorem ok_Term_of_column (T : TY w K mg) : FnD P w K mg base 4 (stA K "Term" "of_column") [] sp_Term_of_column := by
  obtain ⟨fd, F⟩ := tDef T 18
  exact fnD_of (k := 3) (N := ["name"]) (ps := ["name"]) F sc_Term_of_column (F.bindsN fun _ _ _ _ _ _ us hl => match us, hl with | [_], _ => rfl) (by decide) (by decide) (by decide) len_Term_of_column (fun cdv A outer s H E hr => ⟨_, show DSs _ _ _ _ b_Term_of_column from
 (dss_cons (ds_expr (de_call (ok_check_name T) (hr.mono (by decide)) (takes_of rfl rfl rfl rfl) (by rfl) (fGlo 79 "check_name" T) (fKeep 80 "check_name" T) (da_cons (de_var 0) da_nil)))
 (dss_one (ds_ret (DO.fz (do_make (C := "Term") (fMkr 78 "Term" T) (ok_Term_init T) (hr.mono (by decide)) (takes_of rfl rfl rfl rfl) (by rfl) (fGlo 73 "Term" T) (da_cons (de_tup (da_cons (de_var 0) (da_cons de_int da_nil))) da_nil))))))⟩) (rd := rd_Term_of_column)
theorem sc_shifted : FnScope ["shape", "number"] ["shape", "number"] (defScope (top 14)) := ⟨rfl, rfl, rfl, by decide +kernel, rfl, by decide +kernel, by decide +kernel⟩
theorem ok_shifted (T : TY w K mg) : FnD P w K mg base 2 (He.ga K "shifted") [] sp_shifted := by
  obtain ⟨fd, F⟩ := tDef T 19
  exact fnD_of (k := 1) (N := ["shape", "number"]) (ps := ["shape", "number"]) F sc_shifted (F.bindsN fun _ _ _ _ _ _ us hl => match us, hl with | [_, _], _ => rfl) (by decide) (by decide) (by decide) len_shifted (fun cdv A outer s H E hr => ⟨_, show DSs _ _ _ _ b_shifted from
 (dss_cons (ds_if (dt_cmp op_isC sim_is (de_var 0) de_non (nomark _))
 (dss_one (ds_ret de_non))
 dss_nil)
 (dss_one (ds_ret (de_tup (da_cons (de_ix hr.units (de_var 0) de_int) (da_cons (de_add (de_ix hr.units (de_var 0) de_int) (de_var 1)) da_nil))))))⟩) (rd := rd_shifted)
theorem sc_Term_add : FnScope ["self", "other"] ["self", "other"] (defScope (inClass (top 16) 5)) := ⟨rfl, rfl, rfl, by decide +kernel, rfl, by decide +kernel, by decide +kernel⟩
theorem ok_Term_add (T : TY w K mg) : FnD P w K mg base 4 (He.ma K (He.ga K "Term") "__add__") [] sp_Term_add := by
  obtain ⟨fd, F⟩ := tDef T 20
  exact fnD_of (k := 3) (N := ["self", "other"]) (ps := ["self", "other"]) F sc_Term_add (F.bindsN fun _ _ _ _ _ _ us hl => match us, hl with | [_, _], _ => rfl) (by decide) (by decide) (by decide) len_Term_add (fun cdv A outer s H E hr => ⟨_, show DSs _ _ _ _ b_Term_add from
 (dss_cons (ds_if (dt_not (dt_truth (de_isiT (T := "int") rfl (isiInt_ok (tFact T 88)) (by rfl) (fFree 89 "isinstance" T) (by rfl) (fFree 35 "int" T) (by decide +kernel) (de_var 1))))
 (dss_one (ds_ret de_never))
 dss_nil)
 (dss_one (ds_ret (DO.fz (do_make (C := "Term") (fMkr 78 "Term" T) (ok_Term_init T) (hr.mono (by decide)) (takes_of rfl rfl rfl rfl) (by rfl) (fGlo 73 "Term" T) (da_cons (de_call (ok_shifted T) (hr.mono (by decide)) (takes_of rfl rfl rfl rfl) (by rfl) (fGlo 90 "shifted" T) (fKeep 91 "shifted" T) (da_cons (de_fld (cs := ["Term"]) (f := "shape") (fldOk1 (fCls 66 "Term" T) (fNoat 67 "Term" "shape" T)) (de_var 0)) (da_cons (de_var 1) da_nil))) da_nil))))))⟩) (rd := rd_Term_add)
theorem sc_law_term : FnScope ["shape"] ["shape"] (defScope (top 70)) := ⟨rfl, rfl, rfl, by decide +kernel, rfl, by decide +kernel, by decide +kernel⟩
theorem ok_law_term (T : TY w K mg) : FnD P w K mg base 5 (He.ga K "_law_term") [] sp_law_term := by
  obtain ⟨fd, F⟩ := tDef T 21
  exact fnD_of (k := 4) (N := ["shape"]) (ps := ["shape"]) F sc_law_term (F.bindsN fun _ _ _ _ _ _ us hl => match us, hl with | [_], _ => rfl) (by decide) (by decide) (by decide) len_law_term (fun cdv A outer s H E hr => ⟨_, show DSs _ _ _ _ b_law_term from
 (dss_cons (ds_if (dt_cmp op_isC sim_is (de_var 0) de_non (nomark _))
 (dss_one (ds_ret (de_stat0 (by rfl) (fGlo 73 "Term" T) (fStat 74 "Term" "of_nothing" T) (ok_Term_of_nothing T) (hr.mono (by decide)) (takes_of rfl rfl rfl rfl))))
 dss_nil)
 (dss_cons (ds_if (dt_cmp op_isC sim_is (de_ix hr.units (de_var 0) de_int) de_non (nomark _))
 (dss_one (ds_ret (de_stat (by rfl) (fGlo 73 "Term" T) (fStat 75 "Term" "of_number" T) (ok_Term_of_number T) (hr.mono (by decide)) (takes_of rfl rfl rfl rfl) (da_cons (de_ix hr.units (de_var 0) de_int) da_nil))))
 dss_nil)
 (dss_one (ds_ret (de_ownI (C := "Term") (op := .Add) (opIB_ok (tFact T 77 (f := opIB "Term" .Add))) (ok_Term_add T) (hr.mono (by decide)) (takes_of rfl rfl rfl rfl) PySem.F.fills_int_add PySem.F.slot_int_radd.lookup (de_stat (by rfl) (fGlo 73 "Term" T) (fStat 76 "Term" "of_column" T) (ok_Term_of_column T) (hr.mono (by decide)) (takes_of rfl rfl rfl rfl) (da_cons (de_ix hr.units (de_var 0) de_int) da_nil)) (de_ix hr.units (de_var 0) de_int))))))⟩) (rd := rd_law_term)
theorem sc_missing : FnScope ["term"] ["term"] (defScope (top 32)) := ⟨rfl, rfl, rfl, by decide +kernel, rfl, by decide +kernel, by decide +kernel⟩
theorem ok_missing (T : TY w K mg) : FnD P w K mg base 4 (He.ga K "missing") [] sp_missing := by
  obtain ⟨fd, F⟩ := tDef T 22
  exact fnD_of (k := 3) (N := ["term"]) (ps := ["term"]) F sc_missing (F.bindsN fun _ _ _ _ _ _ us hl => match us, hl with | [_], _ => rfl) (by decide) (by decide) (by decide) len_missing (fun cdv A outer s H E hr => ⟨_, show DSs _ _ _ _ b_missing from
 (dss_one (ds_ret (DO.fz (do_make (C := "Condition") (fMkr 68 "Condition" T) (ok_Condition_init T) (hr.mono (by decide)) (takes_of rfl rfl rfl rfl) (by rfl) (fGlo 69 "Condition" T) (da_cons (DO.fz (do_lst (da_cons (de_tup (da_cons de_str (da_cons (de_fld (cs := ["Term"]) (f := "shape") (fldOk1 (fCls 66 "Term" T) (fNoat 67 "Term" "shape" T)) (de_var 0)) da_nil))) da_nil))) da_nil)))))⟩) (rd := rd_missing)
theorem sc_negation : FnScope ["part"] ["part"] (defScope (top 33)) := ⟨rfl, rfl, rfl, by decide +kernel, rfl, by decide +kernel, by decide +kernel⟩
theorem ok_negation (T : TY w K mg) : FnD P w K mg base 4 (He.ga K "negation") [] sp_negation := by
  obtain ⟨fd, F⟩ := tDef T 23
  exact fnD_of (k := 3) (N := ["part"]) (ps := ["part"]) F sc_negation (F.bindsN fun _ _ _ _ _ _ us hl => match us, hl with | [_], _ => rfl) (by decide) (by decide) (by decide) len_negation (fun cdv A outer s H E hr => ⟨_, show DSs _ _ _ _ b_negation from
 (dss_one (ds_ret (DO.fz (do_make (C := "Condition") (fMkr 68 "Condition" T) (ok_Condition_init T) (hr.mono (by decide)) (takes_of rfl rfl rfl rfl) (by rfl) (fGlo 69 "Condition" T) (da_cons (de_add (de_fld (cs := ["Condition"]) (f := "steps") (fldOk1 (fCls 71 "Condition" T) (fNoat 72 "Condition" "steps" T)) (de_var 0)) (de_tup (da_cons (de_tup (da_cons de_str da_nil)) da_nil))) da_nil)))))⟩) (rd := rd_negation)
theorem sc_truth_test : FnScope ["part", "word"] ["part", "word"] (defScope (top 34)) := ⟨rfl, rfl, rfl, by decide +kernel, rfl, by decide +kernel, by decide +kernel⟩
theorem ok_truth_test (T : TY w K mg) : FnD P w K mg base 4 (He.ga K "truth_test") [] sp_truth_test := by
  obtain ⟨fd, F⟩ := tDef T 24
  exact fnD_of (k := 3) (N := ["part", "word"]) (ps := ["part", "word"]) F sc_truth_test (F.bindsN fun _ _ _ _ _ _ us hl => match us, hl with | [_, _], _ => rfl) (by decide) (by decide) (by decide) len_truth_test (fun cdv A outer s H E hr => ⟨_, show DSs _ _ _ _ b_truth_test from
 (dss_cons (ds_if (dt_cmp (op_notInX hr.units) sim_in (de_var 1) (cTup_WORDS (by rfl) T) (by rfl))
 (dss_one ds_never)
 dss_nil)
 (dss_one (ds_ret (DO.fz (do_make (C := "Condition") (fMkr 68 "Condition" T) (ok_Condition_init T) (hr.mono (by decide)) (takes_of rfl rfl rfl rfl) (by rfl) (fGlo 69 "Condition" T) (da_cons (de_add (de_fld (cs := ["Condition"]) (f := "steps") (fldOk1 (fCls 71 "Condition" T) (fNoat 72 "Condition" "steps" T)) (de_var 0)) (de_tup (da_cons (de_tup (da_cons de_str (da_cons (de_var 1) da_nil))) da_nil))) da_nil))))))⟩) (rd := rd_truth_test)
theorem sc_always : FnScope [] [] (defScope (top 28)) := ⟨rfl, rfl, rfl, by decide +kernel, rfl, by decide +kernel, by decide +kernel⟩
theorem ok_always (T : TY w K mg) : FnD P w K mg base 4 (He.ga K "always") [] sp_always := by
  obtain ⟨fd, F⟩ := tDef T 25
  exact fnD_of (k := 3) (N := []) (ps := []) F sc_always (F.bindsN fun _ _ _ _ _ _ us hl => match us, hl with | [], _ => rfl) (by decide) (by decide) (by decide) len_always (fun cdv A outer s H E hr => ⟨_, show DSs _ _ _ _ b_always from
 (dss_one (ds_ret (DO.fz (do_make (C := "Condition") (fMkr 68 "Condition" T) (ok_Condition_init T) (hr.mono (by decide)) (takes_of rfl rfl rfl rfl) (by rfl) (fGlo 69 "Condition" T) (da_cons (DO.fz (do_lst (da_cons (de_tup (da_cons de_str da_nil)) da_nil))) da_nil)))))⟩) (rd := rd_always)
theorem sc_never : FnScope [] [] (defScope (top 29)) := ⟨rfl, rfl, rfl, by decide +kernel, rfl, by decide +kernel, by decide +kernel⟩
theorem ok_never (T : TY w K mg) : FnD P w K mg base 4 (He.ga K "never") [] sp_never := by
  obtain ⟨fd, F⟩ := tDef T 26
  exact fnD_of (k := 3) (N := []) (ps := []) F sc_never (F.bindsN fun _ _ _ _ _ _ us hl => match us, hl with | [], _ => rfl) (by decide) (by decide) (by decide) len_never (fun cdv A outer s H E hr => ⟨_, show DSs _ _ _ _ b_never from
 (dss_one (ds_ret (DO.fz (do_make (C := "Condition") (fMkr 68 "Condition" T) (ok_Condition_init T) (hr.mono (by decide)) (takes_of rfl rfl rfl rfl) (by rfl) (fGlo 69 "Condition" T) (da_cons (DO.fz (do_lst (da_cons (de_tup (da_cons de_str da_nil)) da_nil))) da_nil)))))⟩) (rd := rd_never)
theorem sc_maybe : FnScope [] [] (defScope (top 30)) := ⟨rfl, rfl, rfl, by decide +kernel, rfl, by decide +kernel, by decide +kernel⟩
theorem ok_maybe (T : TY w K mg) : FnD P w K mg base 4 (He.ga K "maybe") [] sp_maybe := by
  obtain ⟨fd, F⟩ := tDef T 27
  exact fnD_of (k := 3) (N := []) (ps := []) F sc_maybe (F.bindsN fun _ _ _ _ _ _ us hl => match us, hl with | [], _ => rfl) (by decide) (by decide) (by decide) len_maybe (fun cdv A outer s H E hr => ⟨_, show DSs _ _ _ _ b_maybe from
 (dss_one (ds_ret (DO.fz (do_make (C := "Condition") (fMkr 68 "Condition" T) (ok_Condition_init T) (hr.mono (by decide)) (takes_of rfl rfl rfl rfl) (by rfl) (fGlo 69 "Condition" T) (da_cons (DO.fz (do_lst (da_cons (de_tup (da_cons de_str da_nil)) da_nil))) da_nil)))))⟩) (rd := rd_maybe)
theorem sc_joined : FnScope ["word", "parts", "steps", "part"] ["word", "parts"] (defScope (top 35)) := ⟨rfl, rfl, rfl, by decide +kernel, rfl, by decide +kernel, by decide +kernel⟩
theorem ok_joined (T : TY w K mg) : FnD P w K mg base 4 (He.ga K "joined") [] sp_joined := by
  obtain ⟨fd, F⟩ := tDef T 28
  exact fnD_of (k := 3) (N := ["word", "parts", "steps", "part"]) (ps := ["word", "parts"]) F sc_joined (F.bindsN fun _ _ _ _ _ _ us hl => match us, hl with | [_, _], _ => rfl) (by decide) (by decide) (by decide) len_joined (fun cdv A outer s H E hr => ⟨_, show DSs _ _ _ _ b_joined from
 (dss_cons (ds_setO (i := 2) sc_joined.nd rfl (by first | exact Or.inl rfl | exact Or.inr rfl) (do_lst da_nil))
 (dss_cons (ds_for (passes_of rfl) rfl (di_seq (de_var 1)) (dg_name (i := 3) sc_joined.nd rfl (by first | exact Or.inl rfl | exact Or.inr rfl))
 (dss_one (ds_expr (de_lm (i := 2) PySem.F.slot_list_extend PySem.F.type_list_extend mt_extend sim_ext (da_cons (DO.fz (do_list rfl (by rfl) (fFree 26 "list" T) (de_fld (cs := ["Condition"]) (f := "steps") (fldOk1 (fCls 71 "Condition" T) (fNoat 72 "Condition" "steps" T)) (de_var 3)))) da_nil)))))
 (dss_cons (ds_expr (de_lm (i := 2) PySem.F.slot_list_append PySem.F.type_list_append mt_append sim_app (da_cons (de_tup (da_cons (de_var 0) (da_cons (de_blt call_lenX sim_len (by rfl) (fFree 27 "len" T) PySem.boot_len (da_cons (de_var 1) da_nil)) da_nil))) da_nil)))
 (dss_one (ds_ret (DO.fz (do_make (C := "Condition") (fMkr 68 "Condition" T) (ok_Condition_init T) (hr.mono (by decide)) (takes_of rfl rfl rfl rfl) (by rfl) (fGlo 69 "Condition" T) (da_cons (de_var 2) da_nil))))))))⟩) (rd := rd_joined)
theorem sc_both : FnScope ["parts"] ["parts"] (defScope (top 36)) := ⟨rfl, rfl, rfl, by decide +kernel, rfl, by decide +kernel, by decide +kernel⟩
theorem ok_both (T : TY w K mg) : FnD P w K mg base 5 (He.ga K "both") [] (stSp 0 sp_both) := by
  obtain ⟨fd, F⟩ := tDef T 29
  exact fnD_star (k := 4) (N := ["parts"]) (ps := []) (pv := "parts") F sc_both (fun _ _ _ _ _ _ us rest hl => by
    match us, hl with
    | [], _ => cases rest <;> rfl) (by decide) len_both (fun cdv A outer s H E hr => ⟨_, show DSs _ _ _ _ b_both from
 (dss_cons (ds_if (dt_cmp (op_eqX hr.units) sim_eq (de_blt call_lenX sim_len (by rfl) (fFree 27 "len" T) PySem.boot_len (da_cons (de_var 0) da_nil)) de_int (nomark _))
 (dss_one (ds_ret (de_call0 (ok_always T) (hr.mono (by decide)) (takes_of rfl rfl rfl rfl) (by rfl) (fGlo 56 "always" T) (fKeep 57 "always" T))))
 dss_nil)
 (dss_cons (ds_if (dt_cmp (op_eqX hr.units) sim_eq (de_blt call_lenX sim_len (by rfl) (fFree 27 "len" T) PySem.boot_len (da_cons (de_var 0) da_nil)) de_int (nomark _))
 (dss_one (ds_ret (de_ix hr.units (de_var 0) de_int)))
 dss_nil)
 (dss_one (ds_ret (de_call (ok_joined T) (hr.mono (by decide)) (takes_of rfl rfl rfl rfl) (by rfl) (fGlo 98 "joined" T) (fKeep 99 "joined" T) (da_cons de_str (da_cons (de_var 0) da_nil)))))))⟩) (rd := rd_both)
theorem sc_either : FnScope ["parts"] ["parts"] (defScope (top 37)) := ⟨rfl, rfl, rfl, by decide +kernel, rfl, by decide +kernel, by decide +kernel⟩
theorem ok_either (T : TY w K mg) : FnD P w K mg base 5 (He.ga K "either") [] (stSp 0 sp_either) := by
  obtain ⟨fd, F⟩ := tDef T 30
  exact fnD_star (k := 4) (N := ["parts"]) (ps := []) (pv := "parts") F sc_either (fun _ _ _ _ _ _ us rest hl => by
    match us, hl with
    | [], _ => cases rest <;> rfl) (by decide) len_either (fun cdv A outer s H E hr => ⟨_, show DSs _ _ _ _ b_either from
 (dss_cons (ds_if (dt_cmp (op_eqX hr.units) sim_eq (de_blt call_lenX sim_len (by rfl) (fFree 27 "len" T) PySem.boot_len (da_cons (de_var 0) da_nil)) de_int (nomark _))
 (dss_one (ds_ret (de_call0 (ok_never T) (hr.mono (by decide)) (takes_of rfl rfl rfl rfl) (by rfl) (fGlo 58 "never" T) (fKeep 59 "never" T))))
 dss_nil)
 (dss_cons (ds_if (dt_cmp (op_eqX hr.units) sim_eq (de_blt call_lenX sim_len (by rfl) (fFree 27 "len" T) PySem.boot_len (da_cons (de_var 0) da_nil)) de_int (nomark _))
 (dss_one (ds_ret (de_ix hr.units (de_var 0) de_int)))
 dss_nil)
 (dss_one (ds_ret (de_call (ok_joined T) (hr.mono (by decide)) (takes_of rfl rfl rfl rfl) (by rfl) (fGlo 98 "joined" T) (fKeep 99 "joined" T) (da_cons de_str (da_cons (de_var 0) da_nil)))))))⟩) (rd := rd_either)
theorem sc_law_join : FnScope ["word", "parts"] ["word", "parts"] (defScope (top 71)) := ⟨rfl, rfl, rfl, by decide +kernel, rfl, by decide +kernel, by decide +kernel⟩
theorem ok_law_join (T : TY w K mg) : FnD P w K mg base 6 (He.ga K "_law_join") [] sp_law_join := by
  obtain ⟨fd, F⟩ := tDef T 31
  exact fnD_of (k := 5) (N := ["word", "parts"]) (ps := ["word", "parts"]) F sc_law_join (F.bindsN fun _ _ _ _ _ _ us hl => match us, hl with | [_, _], _ => rfl) (by decide) (by decide) (by decide) len_law_join (fun cdv A outer s H E hr => ⟨_, show DSs _ _ _ _ b_law_join from
 (dss_cons (ds_if (dt_cmp (op_eqX hr.units) sim_eq (de_blt call_lenX sim_len (by rfl) (fFree 27 "len" T) PySem.boot_len (da_cons (de_var 1) da_nil)) de_int (nomark _))
 (dss_one (ds_ret (de_if (dt_cmp (op_eqX hr.units) sim_eq (de_var 0) de_str (nomark _)) (de_call (ok_both T) (hr.mono (by decide)) (takes_of rfl rfl rfl rfl) (by rfl) (fGlo 94 "both" T) (fKeep 95 "both" T) (da_cons (de_ix hr.units (de_var 1) de_int) (da_cons (de_ix hr.units (de_var 1) de_int) da_nil))) (de_call (ok_either T) (hr.mono (by decide)) (takes_of rfl rfl rfl rfl) (by rfl) (fGlo 96 "either" T) (fKeep 97 "either" T) (da_cons (de_ix hr.units (de_var 1) de_int) (da_cons (de_ix hr.units (de_var 1) de_int) da_nil))))))
 dss_nil)
 (dss_cons (ds_if (dt_cmp (op_eqX hr.units) sim_eq (de_blt call_lenX sim_len (by rfl) (fFree 27 "len" T) PySem.boot_len (da_cons (de_var 1) da_nil)) de_int (nomark _))
 (dss_one (ds_ret (de_if (dt_cmp (op_eqX hr.units) sim_eq (de_var 0) de_str (nomark _)) (de_call (ok_both T) (hr.mono (by decide)) (takes_of rfl rfl rfl rfl) (by rfl) (fGlo 94 "both" T) (fKeep 95 "both" T) (da_cons (de_ix hr.units (de_var 1) de_int) (da_cons (de_ix hr.units (de_var 1) de_int) (da_cons (de_ix hr.units (de_var 1) de_int) da_nil)))) (de_call (ok_either T) (hr.mono (by decide)) (takes_of rfl rfl rfl rfl) (by rfl) (fGlo 96 "either" T) (fKeep 97 "either" T) (da_cons (de_ix hr.units (de_var 1) de_int) (da_cons (de_ix hr.units (de_var 1) de_int) (da_cons (de_ix hr.units (de_var 1) de_int) da_nil)))))))
 dss_nil)
 (dss_one (ds_ret (de_if (dt_cmp (op_eqX hr.units) sim_eq (de_var 0) de_str (nomark _)) (de_call (ok_both T) (hr.mono (by decide)) (takes_of rfl rfl rfl rfl) (by rfl) (fGlo 94 "both" T) (fKeep 95 "both" T) (da_cons (de_ix hr.units (de_var 1) de_int) (da_cons (de_ix hr.units (de_var 1) de_int) (da_cons (de_ix hr.units (de_var 1) de_int) (da_cons (de_ix hr.units (de_var 1) de_int) da_nil))))) (de_call (ok_either T) (hr.mono (by decide)) (takes_of rfl rfl rfl rfl) (by rfl) (fGlo 96 "either" T) (fKeep 97 "either" T) (da_cons (de_ix hr.units (de_var 1) de_int) (da_cons (de_ix hr.units (de_var 1) de_int) (da_cons (de_ix hr.units (de_var 1) de_int) (da_cons (de_ix hr.units (de_var 1) de_int) da_nil))))))))))⟩) (rd := rd_law_join)
theorem sc_law_made : FnScope ["steps", "stack", "step", "parts"] ["steps"] (defScope (top 72)) := ⟨rfl, rfl, rfl, by decide +kernel, rfl, by decide +kernel, by decide +kernel⟩
theorem ok_law_made (T : TY w K mg) : FnD P w K mg base 7 (He.ga K "_law_made") [] sp_law_made := by
  obtain ⟨fd, F⟩ := tDef T 32
  exact fnD_of (k := 6) (N := ["steps", "stack", "step", "parts"]) (ps := ["steps"]) F sc_law_made (F.bindsN fun _ _ _ _ _ _ us hl => match us, hl with | [_], _ => rfl) (by decide) (by decide) (by decide) len_law_made (fun cdv A outer s H E hr => ⟨_, show DSs _ _ _ _ b_law_made from
 (dss_cons (ds_setO (i := 1) sc_law_made.nd rfl (by first | exact Or.inl rfl | exact Or.inr rfl) (do_lst da_nil))
 (dss_cons (ds_for (passes_of rfl) rfl (di_seq (de_var 0)) (dg_name (i := 2) sc_law_made.nd rfl (by first | exact Or.inl rfl | exact Or.inr rfl))
 (dss_one (ds_if (dt_cmp (op_eqX hr.units) sim_eq (de_ix hr.units (de_var 2) de_int) de_str (nomark _))
 (dss_one (ds_expr (de_lm (i := 1) PySem.F.slot_list_append PySem.F.type_list_append mt_append sim_app (da_cons (de_call (ok_compare T) (hr.mono (by decide)) (takes_of rfl rfl rfl rfl) (by rfl) (fGlo 46 "compare" T) (fKeep 47 "compare" T) (da_cons (de_call (ok_law_term T) (hr.mono (by decide)) (takes_of rfl rfl rfl rfl) (by rfl) (fGlo 48 "_law_term" T) (fKeep 49 "_law_term" T) (da_cons (de_ix hr.units (de_var 2) de_int) da_nil)) (da_cons (de_ix hr.units (de_var 2) de_int) (da_cons (de_call (ok_law_term T) (hr.mono (by decide)) (takes_of rfl rfl rfl rfl) (by rfl) (fGlo 48 "_law_term" T) (fKeep 49 "_law_term" T) (da_cons (de_ix hr.units (de_var 2) de_int) da_nil)) da_nil)))) da_nil))))
 (dss_one (ds_if (dt_cmp (op_eqX hr.units) sim_eq (de_ix hr.units (de_var 2) de_int) de_str (nomark _))
 (dss_one (ds_expr (de_lm (i := 1) PySem.F.slot_list_append PySem.F.type_list_append mt_append sim_app (da_cons (de_call (ok_missing T) (hr.mono (by decide)) (takes_of rfl rfl rfl rfl) (by rfl) (fGlo 50 "missing" T) (fKeep 51 "missing" T) (da_cons (de_call (ok_law_term T) (hr.mono (by decide)) (takes_of rfl rfl rfl rfl) (by rfl) (fGlo 48 "_law_term" T) (fKeep 49 "_law_term" T) (da_cons (de_ix hr.units (de_var 2) de_int) da_nil)) da_nil)) da_nil))))
 (dss_one (ds_if (dt_cmp (op_eqX hr.units) sim_eq (de_ix hr.units (de_var 2) de_int) de_str (nomark _))
 (dss_one (ds_expr (de_lm (i := 1) PySem.F.slot_list_append PySem.F.type_list_append mt_append sim_app (da_cons (de_call (ok_negation T) (hr.mono (by decide)) (takes_of rfl rfl rfl rfl) (by rfl) (fGlo 52 "negation" T) (fKeep 53 "negation" T) (da_cons (de_lm0 (i := 1) PySem.F.slot_list_pop PySem.F.type_list_pop mt_pop sim_pop) da_nil)) da_nil))))
 (dss_one (ds_if (dt_cmp (op_eqX hr.units) sim_eq (de_ix hr.units (de_var 2) de_int) de_str (nomark _))
 (dss_one (ds_expr (de_lm (i := 1) PySem.F.slot_list_append PySem.F.type_list_append mt_append sim_app (da_cons (de_call (ok_truth_test T) (hr.mono (by decide)) (takes_of rfl rfl rfl rfl) (by rfl) (fGlo 54 "truth_test" T) (fKeep 55 "truth_test" T) (da_cons (de_lm0 (i := 1) PySem.F.slot_list_pop PySem.F.type_list_pop mt_pop sim_pop) (da_cons (de_ix hr.units (de_var 2) de_int) da_nil))) da_nil))))
 (dss_one (ds_if (dt_cmp (op_eqX hr.units) sim_eq (de_blt call_lenX sim_len (by rfl) (fFree 27 "len" T) PySem.boot_len (da_cons (de_var 2) da_nil)) de_int (nomark _))
 (dss_one (ds_expr (de_lm (i := 1) PySem.F.slot_list_append PySem.F.type_list_append mt_append sim_app (da_cons (de_if (dt_cmp (op_eqX hr.units) sim_eq (de_ix hr.units (de_var 2) de_int) de_str (nomark _)) (de_call0 (ok_always T) (hr.mono (by decide)) (takes_of rfl rfl rfl rfl) (by rfl) (fGlo 56 "always" T) (fKeep 57 "always" T)) (de_if (dt_cmp (op_eqX hr.units) sim_eq (de_ix hr.units (de_var 2) de_int) de_str (nomark _)) (de_call0 (ok_never T) (hr.mono (by decide)) (takes_of rfl rfl rfl rfl) (by rfl) (fGlo 58 "never" T) (fKeep 59 "never" T)) (de_call0 (ok_maybe T) (hr.mono (by decide)) (takes_of rfl rfl rfl rfl) (by rfl) (fGlo 60 "maybe" T) (fKeep 61 "maybe" T)))) da_nil))))
 (dss_cons (ds_set (i := 3) sc_law_made.nd rfl (by first | exact Or.inl rfl | exact Or.inr rfl) (DO.fz (do_slV (i := 1) (dp_some (de_sub (de_lenV (i := 1) rfl (by rfl) (fFree 27 "len" T)) (de_ix hr.units (de_var 2) de_int))) dp_none)))
 (dss_cons (ds_setO (i := 1) sc_law_made.nd rfl (by first | exact Or.inl rfl | exact Or.inr rfl) (do_slV (i := 1) dp_none (dp_some (de_sub (de_lenV (i := 1) rfl (by rfl) (fFree 27 "len" T)) (de_ix hr.units (de_var 2) de_int)))))
 (dss_one (ds_expr (de_lm (i := 1) PySem.F.slot_list_append PySem.F.type_list_append mt_append sim_app (da_cons (de_call (ok_law_join T) (hr.mono (by decide)) (takes_of rfl rfl rfl rfl) (by rfl) (fGlo 62 "_law_join" T) (fKeep 63 "_law_join" T) (da_cons (de_ix hr.units (de_var 2) de_int) (da_cons (de_var 3) da_nil))) da_nil)))))))))))))))))
 (dss_one (ds_ret (de_ixV hr.units (i := 1) de_int)))))⟩) (rd := rd_law_made)
theorem sc_law_value : FnScope ["shape", "names", "values", "value"] ["shape", "names", "values"] (defScope (top 73)) := ⟨rfl, rfl, rfl, by decide +kernel, rfl, by decide +kernel, by decide +kernel⟩
theorem ok_law_value (T : TY w K mg) : FnD P w K mg base 2 (He.ga K "_law_value") [] sp_law_value := by
  obtain ⟨fd, F⟩ := tDef T 33
  exact fnD_of (k := 1) (N := ["shape", "names", "values", "value"]) (ps := ["shape", "names", "values"]) F sc_law_value (F.bindsN fun _ _ _ _ _ _ us hl => match us, hl with | [_, _, _], _ => rfl) (by decide) (by decide) (by decide) len_law_value (fun cdv A outer s H E hr => ⟨_, show DSs _ _ _ _ b_law_value from
 (dss_cons (ds_if (dt_cmp op_isC sim_is (de_var 0) de_non (nomark _))
 (dss_one (ds_ret de_non))
 dss_nil)
 (dss_cons (ds_if (dt_cmp op_isC sim_is (de_ix hr.units (de_var 0) de_int) de_non (nomark _))
 (dss_one (ds_ret (de_ix hr.units (de_var 0) de_int)))
 dss_nil)
 (dss_cons (ds_set (i := 3) sc_law_value.nd rfl (by first | exact Or.inl rfl | exact Or.inr rfl) (de_ix hr.units (de_var 2) (de_lix (de_var 1) (de_ix hr.units (de_var 0) de_int))))
 (dss_cons (ds_if (dt_cmp op_isC sim_is (de_var 3) de_non (nomark _))
 (dss_one (ds_ret de_non))
 dss_nil)
 (dss_one (ds_ret (de_add (de_var 3) (de_ix hr.units (de_var 0) de_int))))))))⟩) (rd := rd_law_value)
theorem sc_law_compared : FnScope ["left", "op", "right", "holds"] ["left", "op", "right"] (defScope (top 74)) := ⟨rfl, rfl, rfl, by decide +kernel, rfl, by decide +kernel, by decide +kernel⟩
theorem ok_law_compared (T : TY w K mg) : FnD P w K mg base 2 (He.ga K "_law_compared") [] sp_law_compared := by
  obtain ⟨fd, F⟩ := tDef T 34
  exact fnD_of (k := 1) (N := ["left", "op", "right", "holds"]) (ps := ["left", "op", "right"]) F sc_law_compared (F.bindsN fun _ _ _ _ _ _ us hl => match us, hl with | [_, _, _], _ => rfl) (by decide) (by decide) (by decide) len_law_compared (fun cdv A outer s H E hr => ⟨_, show DSs _ _ _ _ b_law_compared from
 (dss_cons (ds_if (DW.dt (dw_or (dt_cmp op_isC sim_is (de_var 0) de_non (nomark _)) (dw_or1 (dt_cmp op_isC sim_is (de_var 2) de_non (nomark _)))))
 (dss_one (ds_ret de_int))
 dss_nil)
 (dss_cons (ds_set (i := 3) sc_law_compared.nd rfl (by first | exact Or.inl rfl | exact Or.inr rfl) (DO.fz (do_disp (dps_cons (de_cmp op_lt sim_lt (de_var 0) (de_var 2) (nomark _)) (dps_cons (de_cmp op_le sim_le (de_var 0) (de_var 2) (nomark _)) (dps_cons (de_cmp (op_eqX hr.units) sim_eq (de_var 0) (de_var 2) (nomark _)) (dps_cons (de_cmp (op_neX hr.units) sim_ne (de_var 0) (de_var 2) (nomark _)) (dps_cons (de_cmp op_ge sim_ge (de_var 0) (de_var 2) (nomark _)) (dps_cons (de_cmp op_gt sim_gt (de_var 0) (de_var 2) (nomark _)) dps_nil)))))))))
 (dss_one (ds_ret (de_mul de_int (de_bty call_intV sim_int (by rfl) (fFree 35 "int" T) PyProof.Rows.boot_int (da_cons (de_ix hr.units (de_var 3) (de_var 1)) da_nil)))))))⟩) (rd := rd_law_compared)
theorem sc_law_joined : FnScope ["word", "ranks", "found", "rank"] ["word", "ranks"] (defScope (top 75)) := ⟨rfl, rfl, rfl, by decide +kernel, rfl, by decide +kernel, by decide +kernel⟩
theorem ok_law_joined (T : TY w K mg) : FnD P w K mg base 2 (He.ga K "_law_joined") [] sp_law_joined := by
  obtain ⟨fd, F⟩ := tDef T 35
  exact fnD_of (k := 1) (N := ["word", "ranks", "found", "rank"]) (ps := ["word", "ranks"]) F sc_law_joined (F.bindsN fun _ _ _ _ _ _ us hl => match us, hl with | [_, _], _ => rfl) (by decide) (by decide) (by decide) len_law_joined (fun cdv A outer s H E hr => ⟨_, show DSs _ _ _ _ b_law_joined from
 (dss_cons (ds_set (i := 2) sc_law_joined.nd rfl (by first | exact Or.inl rfl | exact Or.inr rfl) (de_ix hr.units (de_var 1) de_int))
 (dss_cons (ds_for (passes_of rfl) rfl (di_seq (de_var 1)) (dg_name (i := 3) sc_law_joined.nd rfl (by first | exact Or.inl rfl | exact Or.inr rfl))
 (dss_one (ds_if (DW.dt (dw_or (DW.dt (dw_and (dt_cmp (op_eqX hr.units) sim_eq (de_var 0) de_str (nomark _)) (dw_and1 (dt_cmp op_lt sim_lt (de_var 3) (de_var 2) (nomark _))))) (dw_or1 (DW.dt (dw_and (dt_cmp (op_eqX hr.units) sim_eq (de_var 0) de_str (nomark _)) (dw_and1 (dt_cmp op_gt sim_gt (de_var 3) (de_var 2) (nomark _))))))))
 (dss_one (ds_set (i := 2) sc_law_joined.nd rfl (by first | exact Or.inl rfl | exact Or.inr rfl) (de_var 3)))
 dss_nil)))
 (dss_one (ds_ret (de_var 2)))))⟩) (rd := rd_law_joined)
theorem sc_law_rank : FnScope ["steps", "names", "values", "words", "stack", "step", "left", "ranks"] ["steps", "names", "values"] (defScope (top 76)) := ⟨rfl, rfl, rfl, by decide +kernel, rfl, by decide +kernel, by decide +kernel⟩
theorem ok_law_rank (T : TY w K mg) : FnD P w K mg base 3 (He.ga K "_law_rank") [] sp_law_rank := by
  obtain ⟨fd, F⟩ := tDef T 36
  exact fnD_of (k := 2) (N := ["steps", "names", "values", "words", "stack", "step", "left", "ranks"]) (ps := ["steps", "names", "values"]) F sc_law_rank (F.bindsN fun _ _ _ _ _ _ us hl => match us, hl with | [_, _, _], _ => rfl) (by decide) (by decide) (by decide) len_law_rank (fun cdv A outer s H E hr => ⟨_, show DSs _ _ _ _ b_law_rank from
 (dss_cons (ds_set (i := 3) sc_law_rank.nd rfl (by first | exact Or.inl rfl | exact Or.inr rfl) (DO.fz (do_lst (da_cons de_str (da_cons de_str (da_cons de_str da_nil))))))
 (dss_cons (ds_setO (i := 4) sc_law_rank.nd rfl (by first | exact Or.inl rfl | exact Or.inr rfl) (do_lst da_nil))
 (dss_cons (ds_for (passes_of rfl) rfl (di_seq (de_var 0)) (dg_name (i := 5) sc_law_rank.nd rfl (by first | exact Or.inl rfl | exact Or.inr rfl))
 (dss_one (ds_if (dt_cmp (op_eqX hr.units) sim_eq (de_ix hr.units (de_var 5) de_int) de_str (nomark _))
 (dss_cons (ds_set (i := 6) sc_law_rank.nd rfl (by first | exact Or.inl rfl | exact Or.inr rfl) (de_call (ok_law_value T) (hr.mono (by decide)) (takes_of rfl rfl rfl rfl) (by rfl) (fGlo 100 "_law_value" T) (fKeep 101 "_law_value" T) (da_cons (de_ix hr.units (de_var 5) de_int) (da_cons (de_var 1) (da_cons (de_var 2) da_nil)))))
 (dss_one (ds_expr (de_lm (i := 4) PySem.F.slot_list_append PySem.F.type_list_append mt_append sim_app (da_cons (de_call (ok_law_compared T) (hr.mono (by decide)) (takes_of rfl rfl rfl rfl) (by rfl) (fGlo 102 "_law_compared" T) (fKeep 103 "_law_compared" T) (da_cons (de_var 6) (da_cons (de_ix hr.units (de_var 5) de_int) (da_cons (de_call (ok_law_value T) (hr.mono (by decide)) (takes_of rfl rfl rfl rfl) (by rfl) (fGlo 100 "_law_value" T) (fKeep 101 "_law_value" T) (da_cons (de_ix hr.units (de_var 5) de_int) (da_cons (de_var 1) (da_cons (de_var 2) da_nil)))) da_nil)))) da_nil)))))
 (dss_one (ds_if (dt_cmp (op_eqX hr.units) sim_eq (de_ix hr.units (de_var 5) de_int) de_str (nomark _))
 (dss_one (ds_expr (de_lm (i := 4) PySem.F.slot_list_append PySem.F.type_list_append mt_append sim_app (da_cons (de_mul de_int (de_bty call_intV sim_int (by rfl) (fFree 35 "int" T) PyProof.Rows.boot_int (da_cons (de_cmp op_isC sim_is (de_call (ok_law_value T) (hr.mono (by decide)) (takes_of rfl rfl rfl rfl) (by rfl) (fGlo 100 "_law_value" T) (fKeep 101 "_law_value" T) (da_cons (de_ix hr.units (de_var 5) de_int) (da_cons (de_var 1) (da_cons (de_var 2) da_nil)))) de_non (nomark _)) da_nil))) da_nil))))
 (dss_one (ds_if (dt_cmp (op_eqX hr.units) sim_eq (de_ix hr.units (de_var 5) de_int) de_str (nomark _))
 (dss_one (ds_expr (de_lm (i := 4) PySem.F.slot_list_append PySem.F.type_list_append mt_append sim_app (da_cons (de_sub de_int (de_lm0 (i := 4) PySem.F.slot_list_pop PySem.F.type_list_pop mt_pop sim_pop)) da_nil))))
 (dss_one (ds_if (dt_cmp (op_eqX hr.units) sim_eq (de_ix hr.units (de_var 5) de_int) de_str (nomark _))
 (dss_one (ds_expr (de_lm (i := 4) PySem.F.slot_list_append PySem.F.type_list_append mt_append sim_app (da_cons (de_mul de_int (de_bty call_intV sim_int (by rfl) (fFree 35 "int" T) PyProof.Rows.boot_int (da_cons (de_cmp (op_eqX hr.units) sim_eq (de_ix hr.units (de_var 3) (de_lm0 (i := 4) PySem.F.slot_list_pop PySem.F.type_list_pop mt_pop sim_pop)) (de_ix hr.units (de_var 5) de_int) (nomark _)) da_nil))) da_nil))))
 (dss_one (ds_if (dt_cmp (op_eqX hr.units) sim_eq (de_blt call_lenX sim_len (by rfl) (fFree 27 "len" T) PySem.boot_len (da_cons (de_var 5) da_nil)) de_int (nomark _))
 (dss_one (ds_expr (de_lm (i := 4) PySem.F.slot_list_append PySem.F.type_list_append mt_append sim_app (da_cons (de_ix hr.units (DO.fz (do_disp (dps_cons de_int (dps_cons de_int (dps_cons de_int dps_nil))))) (de_ix hr.units (de_var 5) de_int)) da_nil))))
 (dss_cons (ds_set (i := 7) sc_law_rank.nd rfl (by first | exact Or.inl rfl | exact Or.inr rfl) (DO.fz (do_slV (i := 4) (dp_some (de_sub (de_lenV (i := 4) rfl (by rfl) (fFree 27 "len" T)) (de_ix hr.units (de_var 5) de_int))) dp_none)))
 (dss_cons (ds_setO (i := 4) sc_law_rank.nd rfl (by first | exact Or.inl rfl | exact Or.inr rfl) (do_slV (i := 4) dp_none (dp_some (de_sub (de_lenV (i := 4) rfl (by rfl) (fFree 27 "len" T)) (de_ix hr.units (de_var 5) de_int)))))
 (dss_one (ds_expr (de_lm (i := 4) PySem.F.slot_list_append PySem.F.type_list_append mt_append sim_app (da_cons (de_call (ok_law_joined T) (hr.mono (by decide)) (takes_of rfl rfl rfl rfl) (by rfl) (fGlo 104 "_law_joined" T) (fKeep 105 "_law_joined" T) (da_cons (de_ix hr.units (de_var 5) de_int) (da_cons (de_var 7) da_nil))) da_nil)))))))))))))))))
 (dss_one (ds_ret (de_ixV hr.units (i := 4) de_int))))))⟩) (rd := rd_law_rank)
theorem sc_law_rests : FnScope ["step", "left", "right", "by"] ["step"] (defScope (top 77)) := ⟨rfl, rfl, rfl, by decide +kernel, rfl, by decide +kernel, by decide +kernel⟩
theorem ok_law_rests (T : TY w K mg) : FnD P w K mg base 2 (He.ga K "_law_rests") [] sp_law_rests := by
  obtain ⟨fd, F⟩ := tDef T 37
  exact fnD_of (k := 1) (N := ["step", "left", "right", "by"]) (ps := ["step"]) F sc_law_rests (F.bindsN fun _ _ _ _ _ _ us hl => match us, hl with | [_], _ => rfl) (by decide) (by decide) (by decide) len_law_rests (fun cdv A outer s H E hr => ⟨_, show DSs _ _ _ _ b_law_rests from
 (dss_cons (ds_set (i := 1) sc_law_rests.nd rfl (by first | exact Or.inl rfl | exact Or.inr rfl) (de_ix hr.units (de_var 0) de_int))
 (dss_cons (ds_set (i := 2) sc_law_rests.nd rfl (by first | exact Or.inl rfl | exact Or.inr rfl) (de_ix hr.units (de_var 0) de_int))
 (dss_cons (ds_set (i := 3) sc_law_rests.nd rfl (by first | exact Or.inl rfl | exact Or.inr rfl) (de_sub (de_ix hr.units (de_var 2) de_int) (de_ix hr.units (de_var 1) de_int)))
 (dss_cons (ds_if (dt_cmp (op_eqX hr.units) sim_eq (de_ix hr.units (de_var 0) de_int) de_str (nomark _))
 (dss_one (ds_ret (DO.fz (do_lst (da_cons (de_tup (da_cons (de_ix hr.units (de_var 1) de_int) (da_cons (de_ix hr.units (de_var 2) de_int) (da_cons (de_var 3) da_nil)))) da_nil)))))
 dss_nil)
 (dss_cons (ds_if (dt_cmp (op_eqX hr.units) sim_eq (de_ix hr.units (de_var 0) de_int) de_str (nomark _))
 (dss_one (ds_ret (DO.fz (do_lst (da_cons (de_tup (da_cons (de_ix hr.units (de_var 1) de_int) (da_cons (de_ix hr.units (de_var 2) de_int) (da_cons (de_sub (de_var 3) de_int) da_nil)))) da_nil)))))
 dss_nil)
 (dss_cons (ds_if (dt_cmp (op_eqX hr.units) sim_eq (de_ix hr.units (de_var 0) de_int) de_str (nomark _))
 (dss_one (ds_ret (DO.fz (do_lst (da_cons (de_tup (da_cons (de_ix hr.units (de_var 2) de_int) (da_cons (de_ix hr.units (de_var 1) de_int) (da_cons (de_sub de_int (de_var 3)) da_nil)))) da_nil)))))
 dss_nil)
 (dss_cons (ds_if (dt_cmp (op_eqX hr.units) sim_eq (de_ix hr.units (de_var 0) de_int) de_str (nomark _))
 (dss_one (ds_ret (DO.fz (do_lst (da_cons (de_tup (da_cons (de_ix hr.units (de_var 2) de_int) (da_cons (de_ix hr.units (de_var 1) de_int) (da_cons (de_sub (de_sub de_int (de_var 3)) de_int) da_nil)))) da_nil)))))
 dss_nil)
 (dss_one (ds_ret (DO.fz (do_lst (da_cons (de_tup (da_cons (de_ix hr.units (de_var 1) de_int) (da_cons (de_ix hr.units (de_var 2) de_int) (da_cons (de_var 3) da_nil)))) (da_cons (de_tup (da_cons (de_ix hr.units (de_var 2) de_int) (da_cons (de_ix hr.units (de_var 1) de_int) (da_cons (de_sub de_int (de_var 3)) da_nil)))) da_nil)))))))))))))⟩) (rd := rd_law_rests)
theorem sc_law_resting : FnScope ["steps", "sides", "found", "step", "bound"] ["steps", "sides"] (defScope (top 78)) := ⟨rfl, rfl, rfl, by decide +kernel, rfl, by decide +kernel, by decide +kernel⟩
theorem ok_law_resting (T : TY w K mg) : FnD P w K mg base 3 (He.ga K "_law_resting") [] sp_law_resting := by
  obtain ⟨fd, F⟩ := tDef T 38
  exact fnD_of (k := 2) (N := ["steps", "sides", "found", "step", "bound"]) (ps := ["steps", "sides"]) F sc_law_resting (F.bindsN fun _ _ _ _ _ _ us hl => match us, hl with | [_, _], _ => rfl) (by decide) (by decide) (by decide) len_law_resting (fun cdv A outer s H E hr => ⟨_, show DSs _ _ _ _ b_law_resting from
 (dss_cons (ds_setO (i := 2) sc_law_resting.nd rfl (by first | exact Or.inl rfl | exact Or.inr rfl) (do_lst da_nil))
 (dss_cons (ds_for (passes_of rfl) rfl (di_seq (de_var 0)) (dg_name (i := 3) sc_law_resting.nd rfl (by first | exact Or.inl rfl | exact Or.inr rfl))
 (dss_one (ds_if (DW.dt (dw_and (dt_cmp (op_eqX hr.units) sim_eq (de_ix hr.units (de_var 3) de_int) de_str (nomark _)) (dw_and (dt_cmp op_isNC sim_is (de_ix hr.units (de_var 3) de_int) de_non (nomark _)) (dw_and1 (dt_cmp op_isNC sim_is (de_ix hr.units (de_var 3) de_int) de_non (nomark _))))))
 (dss_one (ds_for (passes_of rfl) rfl (di_seq (de_call (ok_law_rests T) (hr.mono (by decide)) (takes_of rfl rfl rfl rfl) (by rfl) (fGlo 106 "_law_rests" T) (fKeep 107 "_law_rests" T) (da_cons (de_var 3) da_nil))) (dg_name (i := 4) sc_law_resting.nd rfl (by first | exact Or.inl rfl | exact Or.inr rfl))
 (dss_one (ds_if (DW.dt (dw_and (dt_cmp (op_neX hr.units) sim_ne (de_ix hr.units (de_var 4) de_int) (de_ix hr.units (de_var 4) de_int) (nomark _)) (dw_and (dt_cmp (op_inX hr.units) sim_in (de_ix hr.units (de_var 4) de_int) (de_var 1) (by rfl)) (dw_and1 (dt_cmp (op_inX hr.units) sim_in (de_ix hr.units (de_var 4) de_int) (de_var 1) (by rfl))))))
 (dss_one (ds_expr (de_lm (i := 2) PySem.F.slot_list_append PySem.F.type_list_append mt_append sim_app (da_cons (de_var 4) da_nil))))
 dss_nil))))
 dss_nil)))
 (dss_one (ds_ret (de_var 2)))))⟩) (rd := rd_law_resting)
theorem sc_law_column_answers : FnScope ["names", "values", "name"] ["names", "values"] (defScope (top 82)) := ⟨rfl, rfl, rfl, by decide +kernel, rfl, by decide +kernel, by decide +kernel⟩
theorem ok_law_column_answers (T : TY w K mg) : FnD P w K mg base 2 (He.ga K "_law_column_answers") [] sp_law_column_answers := by
  obtain ⟨fd, F⟩ := tDef T 39
  exact fnD_of (k := 1) (N := ["names", "values", "name"]) (ps := ["names", "values"]) F sc_law_column_answers (F.bindsN fun _ _ _ _ _ _ us hl => match us, hl with | [_, _], _ => rfl) (by decide) (by decide) (by decide) len_law_column_answers (fun cdv A outer s H E hr => ⟨_, show DSs _ _ _ _ b_law_column_answers from
 (dss_one (ds_ret (DO.fz (do_lc (own := [("name", 2)]) rfl sc_law_column_answers.nd (di_seq (de_var 0)) (blkOk_by (by kernel_rfl)) (own_name (by decide)) (dg_name (i := 2) sc_law_column_answers.nd rfl (by first | exact Or.inl rfl | exact Or.inr rfl)) (fun _ _ _ _ _ => (dg_name (i := 2) sc_law_column_answers.nd rfl (by first | exact Or.inl rfl | exact Or.inr rfl))) dts_nil (fun _ _ _ _ _ => dts_nil) (de_tup (da_cons de_str (da_cons (de_var 2) (da_cons (de_cmp op_isC sim_is (de_ix hr.units (de_var 1) (de_lix (de_var 0) (de_var 2))) de_non (nomark _)) da_nil)))) (fun _ _ _ _ _ => (de_tup (da_cons de_str (da_cons (de_var 2) (da_cons (de_cmp op_isC sim_is (de_ix hr.units (de_var 1) (de_lix (de_var 0) (de_var 2))) de_non (nomark _)) da_nil)))))))))⟩) (rd := rd_law_column_answers)
theorem sc_law_known : FnScope ["name", "names", "values"] ["name", "names", "values"] (defScope (top 80)) := ⟨rfl, rfl, rfl, by decide +kernel, rfl, by decide +kernel, by decide +kernel⟩
theorem ok_law_known (T : TY w K mg) : FnD P w K mg base 2 (He.ga K "_law_known") [] sp_law_known := by
  obtain ⟨fd, F⟩ := tDef T 40
  exact fnD_of (k := 1) (N := ["name", "names", "values"]) (ps := ["name", "names", "values"]) F sc_law_known (F.bindsN fun _ _ _ _ _ _ us hl => match us, hl with | [_, _, _], _ => rfl) (by decide) (by decide) (by decide) len_law_known (fun cdv A outer s H E hr => ⟨_, show DSs _ _ _ _ b_law_known from
 (dss_cons (ds_if (dt_cmp op_isC sim_is (de_var 0) de_non (nomark _))
 (dss_one (ds_ret de_int))
 dss_nil)
 (dss_one (ds_ret (de_ix hr.units (de_var 2) (de_lix (de_var 1) (de_var 0))))))⟩) (rd := rd_law_known)
theorem sc_law_answer : FnScope ["state", "bound", "names", "values", "holds"] ["state", "bound", "names", "values"] (defScope (top 81)) := ⟨rfl, rfl, rfl, by decide +kernel, rfl, by decide +kernel, by decide +kernel⟩
theorem ok_law_answer (T : TY w K mg) : FnD P w K mg base 4 (He.ga K "_law_answer") [0] sp_law_answer := by
  obtain ⟨fd, F⟩ := tDef T 41
  exact fnD_of (k := 3) (N := ["state", "bound", "names", "values", "holds"]) (ps := ["state", "bound", "names", "values"]) F sc_law_answer (F.bindsN fun _ _ _ _ _ _ us hl => match us, hl with | [_, _, _, _], _ => rfl) (by decide) (by decide) (by decide) len_law_answer (fun cdv A outer s H E hr => ⟨_, show DSs _ _ _ _ b_law_answer from
 (dss_cons (ds_set (i := 4) sc_law_answer.nd rfl (by first | exact Or.inl rfl | exact Or.inr rfl) (de_cmp op_le sim_le (de_sub (de_call (ok_law_known T) (hr.mono (by decide)) (takes_of rfl rfl rfl rfl) (by rfl) (fGlo 108 "_law_known" T) (fKeep 109 "_law_known" T) (da_cons (de_ix hr.units (de_var 1) de_int) (da_cons (de_var 2) (da_cons (de_var 3) da_nil)))) (de_call (ok_law_known T) (hr.mono (by decide)) (takes_of rfl rfl rfl rfl) (by rfl) (fGlo 108 "_law_known" T) (fKeep 109 "_law_known" T) (da_cons (de_ix hr.units (de_var 1) de_int) (da_cons (de_var 2) (da_cons (de_var 3) da_nil))))) (de_ix hr.units (de_var 1) de_int) (nomark _)))
 (dss_cons (ds_if (dt_cmp (op_eqX hr.units) sim_eq (de_callIO 0 (ok_law_draw T) (hr.mono (by decide)) (takes_of rfl rfl rfl rfl) (by rfl) (fGlo 2 "_law_draw" T) (fKeep 3 "_law_draw" T) (da_cons de_int da_nil)) de_int (nomark _))
 (dss_one (ds_ret (de_tup (da_cons de_str (da_cons (de_ix hr.units (de_var 1) de_int) (da_cons (de_ix hr.units (de_var 1) de_int) (da_cons (de_sub (de_sub de_int (de_ix hr.units (de_var 1) de_int)) de_int) (da_cons (de_not (de_var 4)) da_nil))))))))
 dss_nil)
 (dss_one (ds_ret (de_tup (da_cons de_str (da_cons (de_ix hr.units (de_var 1) de_int) (da_cons (de_ix hr.units (de_var 1) de_int) (da_cons (de_ix hr.units (de_var 1) de_int) (da_cons (de_var 4) da_nil))))))))))⟩) (rd := rd_law_answer)
theorem sc_law_same : FnScope ["one", "other", "k"] ["one", "other"] (defScope (top 61)) := ⟨rfl, rfl, rfl, by decide +kernel, rfl, by decide +kernel, by decide +kernel⟩
theorem ok_law_same_n (T : TY w K mg) : ∀ n : Nat, FnD P w K mg base (2 + n) (He.ga K "_law_same") [] (sp_law_same_n n)
  | 0 => fnD_no
  | n + 1 => by
    have rc := ok_law_same_n T n
    obtain ⟨fd, F⟩ := tDef T 42
    exact fnD_of (k := 2 + n) (N := ["one", "other", "k"]) (ps := ["one", "other"]) F sc_law_same (F.bindsN fun _ _ _ _ _ _ us hl => match us, hl with | [_, _], _ => rfl) (by decide) (by decide) (by decide) (len_law_same_n _) (fun cdv A outer s H E hr => ⟨_, show DSs _ _ _ _ (b_law_same (sp_law_same_n n)) from
 (dss_cons (ds_if (dt_cmp op_isC sim_is (de_var 1) de_non (nomark _))
 (dss_one (ds_ret (de_cmp op_isC sim_is (de_var 0) de_non (nomark _))))
 dss_nil)
 (dss_cons (ds_if (dt_cmp op_isC sim_is (de_var 1) de_bl (nomark _))
 (dss_one (ds_ret (de_cmp op_isC sim_is (de_var 0) de_bl (nomark _))))
 dss_nil)
 (dss_cons (ds_if (dt_cmp op_isC sim_is (de_var 1) de_bl (nomark _))
 (dss_one (ds_ret (de_cmp op_isC sim_is (de_var 0) de_bl (nomark _))))
 dss_nil)
 (dss_cons (ds_if (dt_truth (de_isiT (T := "int") rfl (isiInt_ok (tFact T 88)) (by rfl) (fFree 89 "isinstance" T) (by rfl) (fFree 35 "int" T) (by decide +kernel) (de_var 1)))
 (dss_one (ds_ret (de_and (de_isiT (T := "int") rfl (isiInt_ok (tFact T 88)) (by rfl) (fFree 89 "isinstance" T) (by rfl) (fFree 35 "int" T) (by decide +kernel) (de_var 0)) (de_and (de_not (de_isiT (T := "bool") rfl (isiBool_ok (tFact T 110)) (by rfl) (fFree 89 "isinstance" T) (by rfl) (fFree 111 "bool" T) (by decide +kernel) (de_var 0))) (de_one (de_cmp (op_eqX hr.units) sim_eq (de_var 0) (de_var 1) (nomark _)))))))
 dss_nil)
 (dss_cons (ds_if (dt_truth (de_isiT (T := "str") rfl (isiStr_ok (tFact T 112)) (by rfl) (fFree 89 "isinstance" T) (by rfl) (fFree 113 "str" T) (by decide +kernel) (de_var 1)))
 (dss_one (ds_ret (de_and (de_isiT (T := "str") rfl (isiStr_ok (tFact T 112)) (by rfl) (fFree 89 "isinstance" T) (by rfl) (fFree 113 "str" T) (by decide +kernel) (de_var 0)) (de_one (de_cmp (op_eqX hr.units) sim_eq (de_var 0) (de_var 1) (nomark _))))))
 dss_nil)
 (dss_cons (ds_if (dt_truth (de_isiT (T := "dict") rfl (isiDct_ok (tFact T 114)) (by rfl) (fFree 89 "isinstance" T) (by rfl) (fFree 115 "dict" T) (by decide +kernel) (de_var 1)))
 (dss_cons (ds_if (DW.dt (dw_or (dt_not (dt_truth (de_isiT (T := "dict") rfl (isiDct_ok (tFact T 114)) (by rfl) (fFree 89 "isinstance" T) (by rfl) (fFree 115 "dict" T) (by decide +kernel) (de_var 0)))) (dw_or1 (dt_cmp (op_neX hr.units) sim_ne (de_blt call_lenX sim_len (by rfl) (fFree 27 "len" T) PySem.boot_len (da_cons (de_var 0) da_nil)) (de_blt call_lenX sim_len (by rfl) (fFree 27 "len" T) PySem.boot_len (da_cons (de_var 1) da_nil)) (nomark _)))))
 (dss_one (ds_ret de_bl))
 dss_nil)
 (dss_one (ds_ret (de_call rc (hr.mono (by omega)) (takes_of rfl rfl rfl rfl) (by rfl) (fGlo 22 "_law_same" T) (fKeep 23 "_law_same" T) (da_cons (DO.fz (do_list rfl (by rfl) (fFree 26 "list" T) de_never)) (da_cons (DO.fz (do_list rfl (by rfl) (fFree 26 "list" T) de_never)) da_nil))))))
 dss_nil)
 (dss_cons (ds_if (DW.dt (dw_and (dt_truth (de_isiT (T := "tuple") rfl (isiTup_ok (tFact T 116)) (by rfl) (fFree 89 "isinstance" T) (by rfl) (fFree 70 "tuple" T) (by decide +kernel) (de_var 1))) (dw_and1 (dt_not (dt_truth (de_isiT (T := "tuple") rfl (isiTup_ok (tFact T 116)) (by rfl) (fFree 89 "isinstance" T) (by rfl) (fFree 70 "tuple" T) (by decide +kernel) (de_var 0)))))))
 (dss_one (ds_ret de_bl))
 dss_nil)
 (dss_cons (ds_if (DW.dt (dw_and (dt_truth (de_isiT (T := "list") rfl (isiLst_ok (tFact T 117)) (by rfl) (fFree 89 "isinstance" T) (by rfl) (fFree 26 "list" T) (by decide +kernel) (de_var 1))) (dw_and1 (dt_not (dt_truth (de_isiT (T := "list") rfl (isiLst_ok (tFact T 117)) (by rfl) (fFree 89 "isinstance" T) (by rfl) (fFree 26 "list" T) (by decide +kernel) (de_var 0)))))))
 (dss_one (ds_ret de_bl))
 dss_nil)
 (dss_cons (ds_if (dt_cmp (op_neX hr.units) sim_ne (de_blt call_lenX sim_len (by rfl) (fFree 27 "len" T) PySem.boot_len (da_cons (de_var 0) da_nil)) (de_blt call_lenX sim_len (by rfl) (fFree 27 "len" T) PySem.boot_len (da_cons (de_var 1) da_nil)) (nomark _))
 (dss_one (ds_ret de_bl))
 dss_nil)
 (dss_cons (ds_for (passes_of rfl) rfl (di_range1 (by rfl) (fFree 28 "range" T) (da_cons (de_blt call_lenX sim_len (by rfl) (fFree 27 "len" T) PySem.boot_len (da_cons (de_var 1) da_nil)) da_nil)) (dg_name (i := 2) sc_law_same.nd rfl (by first | exact Or.inl rfl | exact Or.inr rfl))
 (dss_one (ds_if (dt_not (dt_truth (de_call rc (hr.mono (by omega)) (takes_of rfl rfl rfl rfl) (by rfl) (fGlo 22 "_law_same" T) (fKeep 23 "_law_same" T) (da_cons (de_ix hr.units (de_var 0) (de_var 2)) (da_cons (de_ix hr.units (de_var 1) (de_var 2)) da_nil)))))
 (dss_one (ds_ret de_bl))
 dss_nil)))
 (dss_one (ds_ret de_bl))))))))))))⟩) (rd := rd_law_same_n n)
theorem ok_law_same (T : TY w K mg) : FnD P w K mg base 8 (He.ga K "_law_same") [] sp_law_same := (ok_law_same_n T 6).mono (by decide)
theorem sc_answer_bound : FnScope ["answer", "left", "right", "shift"] ["answer"] (defScope (top 44)) := ⟨rfl, rfl, rfl, by decide +kernel, rfl, by decide +kernel, by decide +kernel⟩
theorem ok_answer_bound (T : TY w K mg) : FnD P w K mg base 2 (He.ga K "answer_bound") [] sp_answer_bound := by
  obtain ⟨fd, F⟩ := tDef T 43
  exact fnD_of (k := 1) (N := ["answer", "left", "right", "shift"]) (ps := ["answer"]) F sc_answer_bound (F.bindsN fun _ _ _ _ _ _ us hl => match us, hl with | [_], _ => rfl) (by decide) (by decide) (by decide) len_answer_bound (fun cdv A outer s H E hr => ⟨_, show DSs _ _ _ _ b_answer_bound from
 (dss_cons (ds_par3 (i := 1) (j := 2) (l := 3) sc_answer_bound.nd rfl rfl rfl (by decide) (by decide) (by decide) (da_cons (de_ix hr.units (de_var 0) de_int) (da_cons (de_ix hr.units (de_var 0) de_int) (da_cons (de_ix hr.units (de_var 0) de_int) da_nil))))
 (dss_cons (ds_if (dt_truth (de_ix hr.units (de_var 0) de_int))
 (dss_one (ds_ret (de_tup (da_cons (de_var 1) (da_cons (de_var 2) (da_cons (de_var 3) da_nil))))))
 dss_nil)
 (dss_one (ds_ret (de_tup (da_cons (de_var 2) (da_cons (de_var 1) (da_cons (de_sub (de_neg (de_var 3)) de_int) da_nil))))))))⟩) (rd := rd_answer_bound)
theorem sc_read_answers : FnScope ["answers", "columns", "shifts", "answer", "left", "right", "shift"] ["answers"] (defScope (top 45)) := ⟨rfl, rfl, rfl, by decide +kernel, rfl, by decide +kernel, by decide +kernel⟩
theorem ok_read_answers (T : TY w K mg) : FnD P w K mg base 3 (He.ga K "read_answers") [] sp_read_answers := by
  obtain ⟨fd, F⟩ := tDef T 44
  exact fnD_of (k := 2) (N := ["answers", "columns", "shifts", "answer", "left", "right", "shift"]) (ps := ["answers"]) F sc_read_answers (F.bindsN fun _ _ _ _ _ _ us hl => match us, hl with | [_], _ => rfl) (by decide) (by decide) (by decide) len_read_answers (fun cdv A outer s H E hr => ⟨_, show DSs _ _ _ _ b_read_answers from
 (dss_cons (ds_setO (i := 1) sc_read_answers.nd rfl (by first | exact Or.inl rfl | exact Or.inr rfl) do_dnew)
 (dss_cons (ds_setO (i := 2) sc_read_answers.nd rfl (by first | exact Or.inl rfl | exact Or.inr rfl) do_dnew)
 (dss_cons (ds_for (passes_of rfl) rfl (di_seq (de_var 0)) (dg_name (i := 3) sc_read_answers.nd rfl (by first | exact Or.inl rfl | exact Or.inr rfl))
 (dss_one (ds_if (dt_cmp (op_eqX hr.units) sim_eq (de_ix hr.units (de_var 3) de_int) de_str (nomark _))
 (dss_one (ds_store hr.units (i := 1) (de_ix hr.units (de_var 3) de_int) (de_ix hr.units (de_var 3) de_int)))
 (dss_cons (ds_asg (de_call (ok_answer_bound T) (hr.mono (by decide)) (takes_of rfl rfl rfl rfl) (by rfl) (fGlo 135 "answer_bound" T) (fKeep 136 "answer_bound" T) (da_cons (de_var 3) da_nil)) (dg_tup (dgs_cons (dg_name (i := 4) sc_read_answers.nd rfl (by first | exact Or.inl rfl | exact Or.inr rfl)) (dgs_cons (dg_name (i := 5) sc_read_answers.nd rfl (by first | exact Or.inl rfl | exact Or.inr rfl)) (dgs_cons (dg_name (i := 6) sc_read_answers.nd rfl (by first | exact Or.inl rfl | exact Or.inr rfl)) dgs_nil)))))
 (dss_one (ds_if (DW.dt (dw_or (dt_notInV hr.units (i := 2) (de_tup (da_cons (de_var 4) (da_cons (de_var 5) da_nil)))) (dw_or1 (dt_cmp op_lt sim_lt (de_var 6) (de_ixV hr.units (i := 2) (de_tup (da_cons (de_var 4) (da_cons (de_var 5) da_nil)))) (nomark _)))))
 (dss_one (ds_store hr.units (i := 2) (de_var 6) (de_tup (da_cons (de_var 4) (da_cons (de_var 5) da_nil)))))
 dss_nil))))))
 (dss_one (ds_ret (de_tup (da_cons (de_var 1) (da_cons (de_var 2) da_nil))))))))⟩) (rd := rd_read_answers)
theorem sc_step_shapes : FnScope ["step"] ["step"] (defScope (top 22)) := ⟨rfl, rfl, rfl, by decide +kernel, rfl, by decide +kernel, by decide +kernel⟩
theorem ok_step_shapes (T : TY w K mg) : FnD P w K mg base 2 (He.ga K "step_shapes") [] sp_step_shapes := by
  obtain ⟨fd, F⟩ := tDef T 45
  exact fnD_of (k := 1) (N := ["step"]) (ps := ["step"]) F sc_step_shapes (F.bindsN fun _ _ _ _ _ _ us hl => match us, hl with | [_], _ => rfl) (by decide) (by decide) (by decide) len_step_shapes (fun cdv A outer s H E hr => ⟨_, show DSs _ _ _ _ b_step_shapes from
 (dss_cons (ds_if (dt_cmp (op_eqX hr.units) sim_eq (de_ix hr.units (de_var 0) de_int) de_str (nomark _))
 (dss_one (ds_ret (de_tup (da_cons (de_ix hr.units (de_var 0) de_int) (da_cons (de_ix hr.units (de_var 0) de_int) da_nil)))))
 dss_nil)
 (dss_cons (ds_if (dt_cmp (op_eqX hr.units) sim_eq (de_ix hr.units (de_var 0) de_int) de_str (nomark _))
 (dss_one (ds_ret (de_tup (da_cons (de_ix hr.units (de_var 0) de_int) da_nil))))
 dss_nil)
 (dss_one (ds_ret (de_tup da_nil)))))⟩) (rd := rd_step_shapes)
theorem sc_bounds_of : FnScope ["step", "left", "op", "right", "shift"] ["step"] (defScope (top 46)) := ⟨rfl, rfl, rfl, by decide +kernel, rfl, by decide +kernel, by decide +kernel⟩
theorem ok_bounds_of (T : TY w K mg) : FnD P w K mg base 2 (He.ga K "bounds_of") [] sp_bounds_of := by
  obtain ⟨fd, F⟩ := tDef T 46
  exact fnD_of (k := 1) (N := ["step", "left", "op", "right", "shift"]) (ps := ["step"]) F sc_bounds_of (F.bindsN fun _ _ _ _ _ _ us hl => match us, hl with | [_], _ => rfl) (by decide) (by decide) (by decide) len_bounds_of (fun cdv A outer s H E hr => ⟨_, show DSs _ _ _ _ b_bounds_of from
 (dss_cons (ds_par3 (i := 1) (j := 2) (l := 3) sc_bounds_of.nd rfl rfl rfl (by decide) (by decide) (by decide) (da_cons (de_ix hr.units (de_var 0) de_int) (da_cons (de_ix hr.units (de_var 0) de_int) (da_cons (de_ix hr.units (de_var 0) de_int) da_nil))))
 (dss_cons (ds_set (i := 4) sc_bounds_of.nd rfl (by first | exact Or.inl rfl | exact Or.inr rfl) (de_sub (de_ix hr.units (de_var 3) de_int) (de_ix hr.units (de_var 1) de_int)))
 (dss_cons (ds_if (dt_cmp (op_eqX hr.units) sim_eq (de_var 2) de_str (nomark _))
 (dss_one (ds_ret (DO.fz (do_lst (da_cons (de_tup (da_cons (de_ix hr.units (de_var 1) de_int) (da_cons (de_ix hr.units (de_var 3) de_int) (da_cons (de_var 4) da_nil)))) da_nil)))))
 dss_nil)
 (dss_cons (ds_if (dt_cmp (op_eqX hr.units) sim_eq (de_var 2) de_str (nomark _))
 (dss_one (ds_ret (DO.fz (do_lst (da_cons (de_tup (da_cons (de_ix hr.units (de_var 1) de_int) (da_cons (de_ix hr.units (de_var 3) de_int) (da_cons (de_sub (de_var 4) de_int) da_nil)))) da_nil)))))
 dss_nil)
 (dss_cons (ds_if (dt_cmp (op_eqX hr.units) sim_eq (de_var 2) de_str (nomark _))
 (dss_one (ds_ret (DO.fz (do_lst (da_cons (de_tup (da_cons (de_ix hr.units (de_var 3) de_int) (da_cons (de_ix hr.units (de_var 1) de_int) (da_cons (de_neg (de_var 4)) da_nil)))) da_nil)))))
 dss_nil)
 (dss_cons (ds_if (dt_cmp (op_eqX hr.units) sim_eq (de_var 2) de_str (nomark _))
 (dss_one (ds_ret (DO.fz (do_lst (da_cons (de_tup (da_cons (de_ix hr.units (de_var 3) de_int) (da_cons (de_ix hr.units (de_var 1) de_int) (da_cons (de_sub (de_neg (de_var 4)) de_int) da_nil)))) da_nil)))))
 dss_nil)
 (dss_one (ds_ret (DO.fz (do_lst (da_cons (de_tup (da_cons (de_ix hr.units (de_var 1) de_int) (da_cons (de_ix hr.units (de_var 3) de_int) (da_cons (de_var 4) da_nil)))) (da_cons (de_tup (da_cons (de_ix hr.units (de_var 3) de_int) (da_cons (de_ix hr.units (de_var 1) de_int) (da_cons (de_neg (de_var 4)) da_nil)))) da_nil))))))))))))⟩) (rd := rd_bounds_of)
theorem sc_settled : FnScope ["bound", "shifts", "left", "right", "shift"] ["bound", "shifts"] (defScope (top 47)) := ⟨rfl, rfl, rfl, by decide +kernel, rfl, by decide +kernel, by decide +kernel⟩
theorem ok_settled (T : TY w K mg) : FnD P w K mg base 2 (He.ga K "settled") [] sp_settled := by
  obtain ⟨fd, F⟩ := tDef T 47
  exact fnD_of (k := 1) (N := ["bound", "shifts", "left", "right", "shift"]) (ps := ["bound", "shifts"]) F sc_settled (F.bindsN fun _ _ _ _ _ _ us hl => match us, hl with | [_, _], _ => rfl) (by decide) (by decide) (by decide) len_settled (fun cdv A outer s H E hr => ⟨_, show DSs _ _ _ _ b_settled from
 (dss_cons (ds_asg (de_var 0) (dg_tup (dgs_cons (dg_name (i := 2) sc_settled.nd rfl (by first | exact Or.inl rfl | exact Or.inr rfl)) (dgs_cons (dg_name (i := 3) sc_settled.nd rfl (by first | exact Or.inl rfl | exact Or.inr rfl)) (dgs_cons (dg_name (i := 4) sc_settled.nd rfl (by first | exact Or.inl rfl | exact Or.inr rfl)) dgs_nil)))))
 (dss_cons (ds_if (dt_cmp (op_eqX hr.units) sim_eq (de_var 2) (de_var 3) (nomark _))
 (dss_cons (ds_if (dt_cmp op_le sim_le de_int (de_var 4) (nomark _))
 (dss_one (ds_ret (cInt 120 "TRUE" 4 (by rfl) T)))
 dss_nil)
 (dss_one (ds_ret (cInt 122 "FALSE" 1 (by rfl) T))))
 dss_nil)
 (dss_cons (ds_if (DW.dt (dw_and (dt_cmp (op_inX hr.units) sim_in (de_tup (da_cons (de_var 2) (da_cons (de_var 3) da_nil))) (de_var 1) (by rfl)) (dw_and1 (dt_cmp op_le sim_le (de_ix hr.units (de_var 1) (de_tup (da_cons (de_var 2) (da_cons (de_var 3) da_nil)))) (de_var 4) (nomark _)))))
 (dss_one (ds_ret (cInt 120 "TRUE" 4 (by rfl) T)))
 dss_nil)
 (dss_cons (ds_if (DW.dt (dw_and (dt_cmp (op_inX hr.units) sim_in (de_tup (da_cons (de_var 3) (da_cons (de_var 2) da_nil))) (de_var 1) (by rfl)) (dw_and1 (dt_cmp op_le sim_le (de_ix hr.units (de_var 1) (de_tup (da_cons (de_var 3) (da_cons (de_var 2) da_nil)))) (de_sub (de_neg (de_var 4)) de_int) (nomark _)))))
 (dss_one (ds_ret (cInt 122 "FALSE" 1 (by rfl) T)))
 dss_nil)
 (dss_one (ds_ret (cInt 139 "OPEN" 5 (by rfl) T)))))))⟩) (rd := rd_settled)
theorem sc_mirrored : FnScope ["truths"] ["truths"] (defScope (top 48)) := ⟨rfl, rfl, rfl, by decide +kernel, rfl, by decide +kernel, by decide +kernel⟩
theorem ok_mirrored (T : TY w K mg) : FnD P w K mg base 2 (He.ga K "mirrored") [] sp_mirrored := by
  obtain ⟨fd, F⟩ := tDef T 48
  exact fnD_of (k := 1) (N := ["truths"]) (ps := ["truths"]) F sc_mirrored (F.bindsN fun _ _ _ _ _ _ us hl => match us, hl with | [_], _ => rfl) (by decide) (by decide) (by decide) len_mirrored (fun cdv A outer s H E hr => ⟨_, show DSs _ _ _ _ b_mirrored from
 (dss_one (ds_ret (de_add (de_add (de_andI (de_var 0) (cInt 121 "UNKNOWN" 2 (by rfl) T)) (de_mul (de_andI (de_var 0) (cInt 122 "FALSE" 1 (by rfl) T)) de_int)) (de_div (de_andI (de_var 0) (cInt 120 "TRUE" 4 (by rfl) T)) de_int))))⟩) (rd := rd_mirrored)
theorem sc_compare_truths : FnScope ["step", "columns", "shifts", "shape", "found", "truths", "bound", "one"] ["step", "columns", "shifts"] (defScope (top 49)) := ⟨rfl, rfl, rfl, by decide +kernel, rfl, by decide +kernel, by decide +kernel⟩
theorem ok_compare_truths (T : TY w K mg) : FnD P w K mg base 3 (He.ga K "compare_truths") [] sp_compare_truths := by
  obtain ⟨fd, F⟩ := tDef T 49
  exact fnD_of (k := 2) (N := ["step", "columns", "shifts", "shape", "found", "truths", "bound", "one"]) (ps := ["step", "columns", "shifts"]) F sc_compare_truths (F.bindsN fun _ _ _ _ _ _ us hl => match us, hl with | [_, _, _], _ => rfl) (by decide) (by decide) (by decide) len_compare_truths (fun cdv A outer s H E hr => ⟨_, show DSs _ _ _ _ b_compare_truths from
 (dss_cons (ds_for (passes_of rfl) rfl (di_seq (de_call (ok_step_shapes T) (hr.mono (by decide)) (takes_of rfl rfl rfl rfl) (by rfl) (fGlo 140 "step_shapes" T) (fKeep 141 "step_shapes" T) (da_cons (de_var 0) da_nil))) (dg_name (i := 3) sc_compare_truths.nd rfl (by first | exact Or.inl rfl | exact Or.inr rfl))
 (dss_one (ds_if (DW.dt (dw_or (dt_cmp op_isC sim_is (de_var 3) de_non (nomark _)) (dw_or1 (dt_cmp op_isC sim_is (de_get1 hr.units (de_var 1) (de_ix hr.units (de_var 3) de_int)) de_bl (nomark _)))))
 (dss_one (ds_ret (cInt 121 "UNKNOWN" 2 (by rfl) T)))
 dss_nil)))
 (dss_cons (ds_for (passes_of rfl) rfl (di_seq (de_call (ok_step_shapes T) (hr.mono (by decide)) (takes_of rfl rfl rfl rfl) (by rfl) (fGlo 140 "step_shapes" T) (fKeep 141 "step_shapes" T) (da_cons (de_var 0) da_nil))) (dg_name (i := 3) sc_compare_truths.nd rfl (by first | exact Or.inl rfl | exact Or.inr rfl))
 (dss_one (ds_if (DW.dt (dw_and (dt_cmp op_isNC sim_is (de_ix hr.units (de_var 3) de_int) de_non (nomark _)) (dw_and1 (dt_cmp (op_notInX hr.units) sim_in (de_ix hr.units (de_var 3) de_int) (de_var 1) (by rfl)))))
 (dss_one (ds_ret (cInt 142 "ALL" 7 (by rfl) T)))
 dss_nil)))
 (dss_cons (ds_lc (ps_lcS (own := [("bound", 6)]) (i := 4) rfl sc_compare_truths.nd rfl rfl (sw_true rfl rfl rfl (by decide +kernel)) (di_seq (de_call (ok_bounds_of T) (hr.mono (by decide)) (takes_of rfl rfl rfl rfl) (by rfl) (fGlo 143 "bounds_of" T) (fKeep 144 "bounds_of" T) (da_cons (de_var 0) da_nil))) (blkOk_by (by kernel_rfl)) (own_name (by decide)) (dg_name (i := 6) sc_compare_truths.nd rfl (by first | exact Or.inl rfl | exact Or.inr rfl)) (fun _ _ _ _ _ => (dg_name (i := 6) sc_compare_truths.nd rfl (by first | exact Or.inl rfl | exact Or.inr rfl))) dts_nil (fun _ _ _ _ _ => dts_nil) (de_call (ok_settled T) (hr.mono (by decide)) takes0 (by rfl) (fGlo 145 "settled" T) (fKeep 146 "settled" T) (da_cons (de_var 6) (da_cons (de_var 2) da_nil))) (fun _ _ _ _ _ => (de_call (ok_settled T) (hr.mono (by decide)) takes0 (by rfl) (fGlo 145 "settled" T) (fKeep 146 "settled" T) (da_cons (de_var 6) (da_cons (de_var 2) da_nil))))))
 (dss_cons (ds_set (i := 5) sc_compare_truths.nd rfl (by first | exact Or.inl rfl | exact Or.inr rfl) (cInt 139 "OPEN" 5 (by rfl) T))
 (dss_cons (ds_if (dt_truth (de_blt (cr_all rfl) sim_all (by rfl) (fFree 147 "all" T) (by decide +kernel) (da_cons (DO.fz (do_lc (own := [("one", 7)]) rfl sc_compare_truths.nd (di_seq (de_var 4)) (blkOk_by (by kernel_rfl)) (own_name (by decide)) (dg_name (i := 7) sc_compare_truths.nd rfl (by first | exact Or.inl rfl | exact Or.inr rfl)) (fun _ _ _ _ _ => (dg_name (i := 7) sc_compare_truths.nd rfl (by first | exact Or.inl rfl | exact Or.inr rfl))) dts_nil (fun _ _ _ _ _ => dts_nil) (de_cmp (op_eqX hr.units) sim_eq (de_var 7) (cInt 120 "TRUE" 4 (by rfl) T) (nomark _)) (fun _ _ _ _ _ => (de_cmp (op_eqX hr.units) sim_eq (de_var 7) (cInt 120 "TRUE" 4 (by rfl) T) (nomark _))))) da_nil)))
 (dss_one (ds_set (i := 5) sc_compare_truths.nd rfl (by first | exact Or.inl rfl | exact Or.inr rfl) (cInt 120 "TRUE" 4 (by rfl) T)))
 (dss_one (ds_if (dt_cmp (op_inX hr.units) sim_in (cInt 122 "FALSE" 1 (by rfl) T) (de_var 4) (by rfl))
 (dss_one (ds_set (i := 5) sc_compare_truths.nd rfl (by first | exact Or.inl rfl | exact Or.inr rfl) (cInt 122 "FALSE" 1 (by rfl) T)))
 dss_nil)))
 (dss_cons (ds_if (dt_cmp (op_eqX hr.units) sim_eq (de_ix hr.units (de_var 0) de_int) de_str (nomark _))
 (dss_one (ds_ret (de_call (ok_mirrored T) (hr.mono (by decide)) (takes_of rfl rfl rfl rfl) (by rfl) (fGlo 127 "mirrored" T) (fKeep 128 "mirrored" T) (da_cons (de_var 5) da_nil))))
 dss_nil)
 (dss_one (ds_ret (de_var 5)))))))))⟩) (rd := rd_compare_truths)
theorem sc_leaf_truths : FnScope ["step", "columns", "shifts", "shape"] ["step", "columns", "shifts"] (defScope (top 50)) := ⟨rfl, rfl, rfl, by decide +kernel, rfl, by decide +kernel, by decide +kernel⟩
theorem ok_leaf_truths (T : TY w K mg) : FnD P w K mg base 4 (He.ga K "leaf_truths") [] sp_leaf_truths := by
  obtain ⟨fd, F⟩ := tDef T 50
  exact fnD_of (k := 3) (N := ["step", "columns", "shifts", "shape"]) (ps := ["step", "columns", "shifts"]) F sc_leaf_truths (F.bindsN fun _ _ _ _ _ _ us hl => match us, hl with | [_, _, _], _ => rfl) (by decide) (by decide) (by decide) len_leaf_truths (fun cdv A outer s H E hr => ⟨_, show DSs _ _ _ _ b_leaf_truths from
 (dss_cons (ds_if (dt_cmp (op_eqX hr.units) sim_eq (de_ix hr.units (de_var 0) de_int) de_str (nomark _))
 (dss_one (ds_ret (de_call (ok_compare_truths T) (hr.mono (by decide)) (takes_of rfl rfl rfl rfl) (by rfl) (fGlo 137 "compare_truths" T) (fKeep 138 "compare_truths" T) (da_cons (de_var 0) (da_cons (de_var 1) (da_cons (de_var 2) da_nil))))))
 dss_nil)
 (dss_cons (ds_if (dt_cmp (op_eqX hr.units) sim_eq (de_ix hr.units (de_var 0) de_int) de_str (nomark _))
 (dss_cons (ds_set (i := 3) sc_leaf_truths.nd rfl (by first | exact Or.inl rfl | exact Or.inr rfl) (de_ix hr.units (de_var 0) de_int))
 (dss_cons (ds_if (dt_cmp op_isC sim_is (de_var 3) de_non (nomark _))
 (dss_one (ds_ret (cInt 120 "TRUE" 4 (by rfl) T)))
 dss_nil)
 (dss_cons (ds_if (DW.dt (dw_or (dt_cmp op_isC sim_is (de_ix hr.units (de_var 3) de_int) de_non (nomark _)) (dw_or1 (dt_cmp op_isC sim_is (de_get1 hr.units (de_var 1) (de_ix hr.units (de_var 3) de_int)) de_bl (nomark _)))))
 (dss_one (ds_ret (cInt 122 "FALSE" 1 (by rfl) T)))
 dss_nil)
 (dss_cons (ds_if (dt_cmp op_isC sim_is (de_get1 hr.units (de_var 1) (de_ix hr.units (de_var 3) de_int)) de_bl (nomark _))
 (dss_one (ds_ret (cInt 120 "TRUE" 4 (by rfl) T)))
 dss_nil)
 (dss_one (ds_ret (cInt 139 "OPEN" 5 (by rfl) T)))))))
 dss_nil)
 (dss_one (ds_ret (de_ix hr.units (DO.fz (do_disp (dps_cons (cInt 120 "TRUE" 4 (by rfl) T) (dps_cons (cInt 122 "FALSE" 1 (by rfl) T) (dps_cons (cInt 121 "UNKNOWN" 2 (by rfl) T) dps_nil))))) (de_ix hr.units (de_var 0) de_int))))))⟩) (rd := rd_leaf_truths)
theorem sc_tested_truths : FnScope ["truths", "word", "wanted", "found"] ["truths", "word"] (defScope (top 53)) := ⟨rfl, rfl, rfl, by decide +kernel, rfl, by decide +kernel, by decide +kernel⟩
theorem ok_tested_truths (T : TY w K mg) : FnD P w K mg base 2 (He.ga K "tested_truths") [] sp_tested_truths := by
  obtain ⟨fd, F⟩ := tDef T 51
  exact fnD_of (k := 1) (N := ["truths", "word", "wanted", "found"]) (ps := ["truths", "word"]) F sc_tested_truths (F.bindsN fun _ _ _ _ _ _ us hl => match us, hl with | [_, _], _ => rfl) (by decide) (by decide) (by decide) len_tested_truths (fun cdv A outer s H E hr => ⟨_, show DSs _ _ _ _ b_tested_truths from
 (dss_cons (ds_set (i := 2) sc_tested_truths.nd rfl (by first | exact Or.inl rfl | exact Or.inr rfl) (de_ix hr.units (de_tup (da_cons (cInt 122 "FALSE" 1 (by rfl) T) (da_cons (cInt 121 "UNKNOWN" 2 (by rfl) T) (da_cons (cInt 120 "TRUE" 4 (by rfl) T) da_nil)))) (cTupIx_WORDS (by rfl) T (de_var 1))))
 (dss_cons (ds_set (i := 3) sc_tested_truths.nd rfl (by first | exact Or.inl rfl | exact Or.inr rfl) de_int)
 (dss_cons (ds_if (dt_truth (de_andI (de_var 0) (de_var 2)))
 (dss_one (ds_set (i := 3) sc_tested_truths.nd rfl (by first | exact Or.inl rfl | exact Or.inr rfl) (cInt 120 "TRUE" 4 (by rfl) T)))
 dss_nil)
 (dss_cons (ds_if (dt_truth (de_andI (de_var 0) (de_sub (cInt 142 "ALL" 7 (by rfl) T) (de_var 2))))
 (dss_one (ds_set (i := 3) sc_tested_truths.nd rfl (by first | exact Or.inl rfl | exact Or.inr rfl) (de_add (de_var 3) (cInt 122 "FALSE" 1 (by rfl) T))))
 dss_nil)
 (dss_one (ds_ret (de_var 3)))))))⟩) (rd := rd_tested_truths)
theorem sc_least_of : FnScope ["one", "other", "found"] ["one", "other"] (defScope (top 51)) := ⟨rfl, rfl, rfl, by decide +kernel, rfl, by decide +kernel, by decide +kernel⟩
theorem ok_least_of (T : TY w K mg) : FnD P w K mg base 2 (He.ga K "least_of") [] sp_least_of := by
  obtain ⟨fd, F⟩ := tDef T 52
  exact fnD_of (k := 1) (N := ["one", "other", "found"]) (ps := ["one", "other"]) F sc_least_of (F.bindsN fun _ _ _ _ _ _ us hl => match us, hl with | [_, _], _ => rfl) (by decide) (by decide) (by decide) len_least_of (fun cdv A outer s H E hr => ⟨_, show DSs _ _ _ _ b_least_of from
 (dss_cons (ds_set (i := 2) sc_least_of.nd rfl (by first | exact Or.inl rfl | exact Or.inr rfl) (de_andI (de_orI (de_var 0) (de_var 1)) (cInt 122 "FALSE" 1 (by rfl) T)))
 (dss_cons (ds_if (DW.dt (dw_or (DW.dt (dw_and (dt_truth (de_andI (de_var 0) (cInt 121 "UNKNOWN" 2 (by rfl) T))) (dw_and1 (dt_cmp op_gt sim_gt (de_var 1) (cInt 122 "FALSE" 1 (by rfl) T) (nomark _))))) (dw_or1 (DW.dt (dw_and (dt_truth (de_andI (de_var 1) (cInt 121 "UNKNOWN" 2 (by rfl) T))) (dw_and1 (dt_cmp op_gt sim_gt (de_var 0) (cInt 122 "FALSE" 1 (by rfl) T) (nomark _))))))))
 (dss_one (ds_set (i := 2) sc_least_of.nd rfl (by first | exact Or.inl rfl | exact Or.inr rfl) (de_add (de_var 2) (cInt 121 "UNKNOWN" 2 (by rfl) T))))
 dss_nil)
 (dss_one (ds_ret (de_add (de_var 2) (de_andI (de_andI (de_var 0) (de_var 1)) (cInt 120 "TRUE" 4 (by rfl) T)))))))⟩) (rd := rd_least_of)
theorem sc_joined_truths : FnScope ["word", "parts", "found", "part"] ["word", "parts"] (defScope (top 52)) := ⟨rfl, rfl, rfl, by decide +kernel, rfl, by decide +kernel, by decide +kernel⟩
theorem ok_joined_truths_n (T : TY w K mg) : ∀ n : Nat, FnD P w K mg base (2 + n) (He.ga K "joined_truths") [] (sp_joined_truths_n n)
  | 0 => fnD_no
  | n + 1 => by
    have rc := ok_joined_truths_n T n
    obtain ⟨fd, F⟩ := tDef T 53
    exact fnD_of (k := 2 + n) (N := ["word", "parts", "found", "part"]) (ps := ["word", "parts"]) F sc_joined_truths (F.bindsN fun _ _ _ _ _ _ us hl => match us, hl with | [_, _], _ => rfl) (by decide) (by decide) (by decide) (len_joined_truths_n _) (fun cdv A outer s H E hr => ⟨_, show DSs _ _ _ _ (b_joined_truths (sp_joined_truths_n n)) from
 (dss_cons (ds_if (dt_cmp (op_eqX hr.units) sim_eq (de_var 0) de_str (nomark _))
 (dss_one (ds_ret (de_call (ok_mirrored T) (hr.mono (by omega)) (takes_of rfl rfl rfl rfl) (by rfl) (fGlo 127 "mirrored" T) (fKeep 128 "mirrored" T) (da_cons (de_call rc (hr.mono (by omega)) (takes_of rfl rfl rfl rfl) (by rfl) (fGlo 131 "joined_truths" T) (fKeep 132 "joined_truths" T) (da_cons de_str (da_cons (DO.fz (do_lc (own := [("part", 3)]) rfl sc_joined_truths.nd (di_seq (de_var 1)) (blkOk_by (by kernel_rfl)) (own_name (by decide)) (dg_name (i := 3) sc_joined_truths.nd rfl (by first | exact Or.inl rfl | exact Or.inr rfl)) (fun _ _ _ _ _ => (dg_name (i := 3) sc_joined_truths.nd rfl (by first | exact Or.inl rfl | exact Or.inr rfl))) dts_nil (fun _ _ _ _ _ => dts_nil) (de_call (ok_mirrored T) (hr.mono (by omega)) takes0 (by rfl) (fGlo 127 "mirrored" T) (fKeep 128 "mirrored" T) (da_cons (de_var 3) da_nil)) (fun _ _ _ _ _ => (de_call (ok_mirrored T) (hr.mono (by omega)) takes0 (by rfl) (fGlo 127 "mirrored" T) (fKeep 128 "mirrored" T) (da_cons (de_var 3) da_nil))))) da_nil))) da_nil))))
 dss_nil)
 (dss_cons (ds_set (i := 2) sc_joined_truths.nd rfl (by first | exact Or.inl rfl | exact Or.inr rfl) (cInt 120 "TRUE" 4 (by rfl) T))
 (dss_cons (ds_for (passes_of rfl) rfl (di_seq (de_var 1)) (dg_name (i := 3) sc_joined_truths.nd rfl (by first | exact Or.inl rfl | exact Or.inr rfl))
 (dss_one (ds_set (i := 2) sc_joined_truths.nd rfl (by first | exact Or.inl rfl | exact Or.inr rfl) (de_call (ok_least_of T) (hr.mono (by omega)) (takes_of rfl rfl rfl rfl) (by rfl) (fGlo 149 "least_of" T) (fKeep 150 "least_of" T) (da_cons (de_var 2) (da_cons (de_var 3) da_nil))))))
 (dss_one (ds_ret (de_var 2))))))⟩) (rd := rd_joined_truths_n n)
theorem ok_joined_truths (T : TY w K mg) : FnD P w K mg base 5 (He.ga K "joined_truths") [] sp_joined_truths := (ok_joined_truths_n T 2).mono (by decide)
theorem sc_first_open : FnScope ["truths", "parts", "part"] ["truths", "parts"] (defScope (top 54)) := ⟨rfl, rfl, rfl, by decide +kernel, rfl, by decide +kernel, by decide +kernel⟩
theorem ok_first_open (T : TY w K mg) : FnD P w K mg base 2 (He.ga K "first_open") [] sp_first_open := by
  obtain ⟨fd, F⟩ := tDef T 54
  exact fnD_of (k := 1) (N := ["truths", "parts", "part"]) (ps := ["truths", "parts"]) F sc_first_open (F.bindsN fun _ _ _ _ _ _ us hl => match us, hl with | [_, _], _ => rfl) (by decide) (by decide) (by decide) len_first_open (fun cdv A outer s H E hr => ⟨_, show DSs _ _ _ _ b_first_open from
 (dss_cons (ds_if (dt_cmp (op_inX hr.units) sim_in (de_var 0) (de_tup (da_cons (cInt 122 "FALSE" 1 (by rfl) T) (da_cons (cInt 121 "UNKNOWN" 2 (by rfl) T) (da_cons (cInt 120 "TRUE" 4 (by rfl) T) da_nil)))) (by rfl))
 (dss_one (ds_ret (de_neg de_int)))
 dss_nil)
 (dss_cons (ds_for (passes_of rfl) rfl (di_seq (de_var 1)) (dg_name (i := 2) sc_first_open.nd rfl (by first | exact Or.inl rfl | exact Or.inr rfl))
 (dss_one (ds_if (dt_cmp op_ge sim_ge (de_ix hr.units (de_var 2) de_int) de_int (nomark _))
 (dss_one (ds_ret (de_ix hr.units (de_var 2) de_int)))
 dss_nil)))
 (dss_one (ds_ret (de_neg de_int)))))⟩) (rd := rd_first_open)
theorem sc_survey : FnScope ["steps", "answers", "columns", "shifts", "stack", "at", "step", "count", "parts", "truths", "place", "part"] ["steps", "answers"] (defScope (top 55)) := ⟨rfl, rfl, rfl, by decide +kernel, rfl, by decide +kernel, by decide +kernel⟩
theorem ok_survey (T : TY w K mg) : FnD P w K mg base 6 (He.ga K "survey") [] sp_survey := by
  obtain ⟨fd, F⟩ := tDef T 55
  exact fnD_of (k := 5) (N := ["steps", "answers", "columns", "shifts", "stack", "at", "step", "count", "parts", "truths", "place", "part"]) (ps := ["steps", "answers"]) F sc_survey (F.bindsN fun _ _ _ _ _ _ us hl => match us, hl with | [_, _], _ => rfl) (by decide) (by decide) (by decide) len_survey (fun cdv A outer s H E hr => ⟨_, show DSs _ _ _ _ b_survey from
 (dss_cons (ds_asg (de_call (ok_read_answers T) (hr.mono (by decide)) (takes_of rfl rfl rfl rfl) (by rfl) (fGlo 123 "read_answers" T) (fKeep 124 "read_answers" T) (da_cons (de_var 1) da_nil)) (dg_tup (dgs_cons (dg_name (i := 2) sc_survey.nd rfl (by first | exact Or.inl rfl | exact Or.inr rfl)) (dgs_cons (dg_name (i := 3) sc_survey.nd rfl (by first | exact Or.inl rfl | exact Or.inr rfl)) dgs_nil))))
 (dss_cons (ds_setO (i := 4) sc_survey.nd rfl (by first | exact Or.inl rfl | exact Or.inr rfl) (do_lst da_nil))
 (dss_cons (ds_for (passes_of rfl) rfl (di_range1 (by rfl) (fFree 28 "range" T) (da_cons (de_blt call_lenX sim_len (by rfl) (fFree 27 "len" T) PySem.boot_len (da_cons (de_var 0) da_nil)) da_nil)) (dg_name (i := 5) sc_survey.nd rfl (by first | exact Or.inl rfl | exact Or.inr rfl))
 (dss_cons (ds_set (i := 6) sc_survey.nd rfl (by first | exact Or.inl rfl | exact Or.inr rfl) (de_ix hr.units (de_var 0) (de_var 5)))
 (dss_cons (ds_set (i := 7) sc_survey.nd rfl (by first | exact Or.inl rfl | exact Or.inr rfl) de_int)
 (dss_cons (ds_if (dt_cmp (op_inX hr.units) sim_in (de_ix hr.units (de_var 6) de_int) (de_tup (da_cons de_str (da_cons de_str da_nil))) (by rfl))
 (dss_one (ds_set (i := 7) sc_survey.nd rfl (by first | exact Or.inl rfl | exact Or.inr rfl) de_int))
 (dss_one (ds_if (dt_cmp (op_inX hr.units) sim_in (de_ix hr.units (de_var 6) de_int) (de_tup (da_cons de_str (da_cons de_str da_nil))) (by rfl))
 (dss_one (ds_set (i := 7) sc_survey.nd rfl (by first | exact Or.inl rfl | exact Or.inr rfl) (de_ix hr.units (de_var 6) de_int)))
 dss_nil)))
 (dss_cons (ds_set (i := 8) sc_survey.nd rfl (by first | exact Or.inl rfl | exact Or.inr rfl) (DO.fz (do_slV (i := 4) (dp_some (de_sub (de_lenV (i := 4) rfl (by rfl) (fFree 27 "len" T)) (de_var 7))) dp_none)))
 (dss_cons (ds_setO (i := 4) sc_survey.nd rfl (by first | exact Or.inl rfl | exact Or.inr rfl) (do_slV (i := 4) dp_none (dp_some (de_sub (de_lenV (i := 4) rfl (by rfl) (fFree 27 "len" T)) (de_var 7)))))
 (dss_cons (ds_if (dt_cmp (op_eqX hr.units) sim_eq (de_var 7) de_int (nomark _))
 (dss_cons (ds_set (i := 9) sc_survey.nd rfl (by first | exact Or.inl rfl | exact Or.inr rfl) (de_call (ok_leaf_truths T) (hr.mono (by decide)) (takes_of rfl rfl rfl rfl) (by rfl) (fGlo 125 "leaf_truths" T) (fKeep 126 "leaf_truths" T) (da_cons (de_var 6) (da_cons (de_var 2) (da_cons (de_var 3) da_nil)))))
 (dss_cons (ds_set (i := 10) sc_survey.nd rfl (by first | exact Or.inl rfl | exact Or.inr rfl) (de_var 5))
 (dss_cons (ds_if (dt_cmp (op_inX hr.units) sim_in (de_var 9) (de_tup (da_cons (cInt 122 "FALSE" 1 (by rfl) T) (da_cons (cInt 121 "UNKNOWN" 2 (by rfl) T) (da_cons (cInt 120 "TRUE" 4 (by rfl) T) da_nil)))) (by rfl))
 (dss_one (ds_set (i := 10) sc_survey.nd rfl (by first | exact Or.inl rfl | exact Or.inr rfl) (de_neg de_int)))
 dss_nil)
 (dss_cons (ds_expr (de_lm (i := 4) PySem.F.slot_list_append PySem.F.type_list_append mt_append sim_app (da_cons (de_tup (da_cons (de_var 9) (da_cons (de_var 10) da_nil))) da_nil)))
 (dss_one ds_cont)))))
 dss_nil)
 (dss_cons (ds_if (dt_cmp (op_eqX hr.units) sim_eq (de_ix hr.units (de_var 6) de_int) de_str (nomark _))
 (dss_one (ds_set (i := 9) sc_survey.nd rfl (by first | exact Or.inl rfl | exact Or.inr rfl) (de_call (ok_mirrored T) (hr.mono (by decide)) (takes_of rfl rfl rfl rfl) (by rfl) (fGlo 127 "mirrored" T) (fKeep 128 "mirrored" T) (da_cons (de_ix hr.units (de_ix hr.units (de_var 8) de_int) de_int) da_nil))))
 (dss_one (ds_if (dt_cmp (op_eqX hr.units) sim_eq (de_ix hr.units (de_var 6) de_int) de_str (nomark _))
 (dss_one (ds_set (i := 9) sc_survey.nd rfl (by first | exact Or.inl rfl | exact Or.inr rfl) (de_call (ok_tested_truths T) (hr.mono (by decide)) (takes_of rfl rfl rfl rfl) (by rfl) (fGlo 129 "tested_truths" T) (fKeep 130 "tested_truths" T) (da_cons (de_ix hr.units (de_ix hr.units (de_var 8) de_int) de_int) (da_cons (de_ix hr.units (de_var 6) de_int) da_nil)))))
 (dss_one (ds_set (i := 9) sc_survey.nd rfl (by first | exact Or.inl rfl | exact Or.inr rfl) (de_call (ok_joined_truths T) (hr.mono (by decide)) (takes_of rfl rfl rfl rfl) (by rfl) (fGlo 131 "joined_truths" T) (fKeep 132 "joined_truths" T) (da_cons (de_ix hr.units (de_var 6) de_int) (da_cons (DO.fz (do_lc (own := [("part", 11)]) rfl sc_survey.nd (di_seq (de_var 8)) (blkOk_by (by kernel_rfl)) (own_name (by decide)) (dg_name (i := 11) sc_survey.nd rfl (by first | exact Or.inl rfl | exact Or.inr rfl)) (fun _ _ _ _ _ => (dg_name (i := 11) sc_survey.nd rfl (by first | exact Or.inl rfl | exact Or.inr rfl))) dts_nil (fun _ _ _ _ _ => dts_nil) (de_ix hr.units (de_var 11) de_int) (fun _ _ _ _ _ => (de_ix hr.units (de_var 11) de_int)))) da_nil))))))))
 (dss_one (ds_expr (de_lm (i := 4) PySem.F.slot_list_append PySem.F.type_list_append mt_append sim_app (da_cons (de_tup (da_cons (de_var 9) (da_cons (de_call (ok_first_open T) (hr.mono (by decide)) (takes_of rfl rfl rfl rfl) (by rfl) (fGlo 133 "first_open" T) (fKeep 134 "first_open" T) (da_cons (de_var 9) (da_cons (de_var 8) da_nil))) da_nil))) da_nil))))))))))))
 (dss_one (ds_ret (de_ixV hr.units (i := 4) de_int))))))⟩) (rd := rd_survey)
theorem sc_possible_truths : FnScope ["condition", "answers", "truths", "at"] ["condition", "answers"] (defScope (top 56)) := ⟨rfl, rfl, rfl, by decide +kernel, rfl, by decide +kernel, by decide +kernel⟩
theorem ok_possible_truths (T : TY w K mg) : FnD P w K mg base 7 (He.ga K "possible_truths") [] sp_possible_truths := by
  obtain ⟨fd, F⟩ := tDef T 56
  exact fnD_of (k := 6) (N := ["condition", "answers", "truths", "at"]) (ps := ["condition", "answers"]) F sc_possible_truths (F.bindsN fun _ _ _ _ _ _ us hl => match us, hl with | [_, _], _ => rfl) (by decide) (by decide) (by decide) len_possible_truths (fun cdv A outer s H E hr => ⟨_, show DSs _ _ _ _ b_possible_truths from
 (dss_cons (ds_set (i := 2) sc_possible_truths.nd rfl (by first | exact Or.inl rfl | exact Or.inr rfl) (de_ix hr.units (de_call (ok_survey T) (hr.mono (by decide)) (takes_of rfl rfl rfl rfl) (by rfl) (fGlo 118 "survey" T) (fKeep 119 "survey" T) (da_cons (de_fld (cs := ["Condition"]) (f := "steps") (fldOk1 (fCls 71 "Condition" T) (fNoat 72 "Condition" "steps" T)) (de_var 0)) (da_cons (de_var 1) da_nil))) de_int))
 (dss_one (ds_ret (de_bty call_tuple_of sim_tuple (by rfl) (fFree 70 "tuple" T) PyProof.Rows.boot_tuple (da_cons (DO.fz (do_lc (own := [("at", 3)]) rfl sc_possible_truths.nd (di_range1 (by rfl) (fFree 28 "range" T) (da_cons de_int da_nil)) (blkOk_by (by kernel_rfl)) (own_name (by decide)) (dg_name (i := 3) sc_possible_truths.nd rfl (by first | exact Or.inl rfl | exact Or.inr rfl)) (fun _ _ _ _ _ => (dg_name (i := 3) sc_possible_truths.nd rfl (by first | exact Or.inl rfl | exact Or.inr rfl))) (dts_one (dt_truth (de_andI (de_var 2) (de_ix hr.units (de_tup (da_cons (cInt 122 "FALSE" 1 (by rfl) T) (da_cons (cInt 121 "UNKNOWN" 2 (by rfl) T) (da_cons (cInt 120 "TRUE" 4 (by rfl) T) da_nil)))) (de_var 3))))) (fun _ _ _ _ _ => (dts_one (dt_truth (de_andI (de_var 2) (de_ix hr.units (de_tup (da_cons (cInt 122 "FALSE" 1 (by rfl) T) (da_cons (cInt 121 "UNKNOWN" 2 (by rfl) T) (da_cons (cInt 120 "TRUE" 4 (by rfl) T) da_nil)))) (de_var 3)))))) (de_ix hr.units (cTup_WORDS (by rfl) T) (de_var 3)) (fun _ _ _ _ _ => (de_ix hr.units (cTup_WORDS (by rfl) T) (de_var 3))))) da_nil)))))⟩) (rd := rd_possible_truths)
theorem sc_law_near_bound : FnScope ["state", "resting", "sides", "centres", "bound", "shift", "left", "right"] ["state", "resting", "sides", "centres"] (defScope (top 79)) := ⟨rfl, rfl, rfl, by decide +kernel, rfl, by decide +kernel, by decide +kernel⟩
theorem ok_law_near_bound (T : TY w K mg) : FnD P w K mg base 5 (He.ga K "_law_near_bound") [0] sp_law_near_bound := by
  obtain ⟨fd, F⟩ := tDef T 57
  exact fnD_of (k := 4) (N := ["state", "resting", "sides", "centres", "bound", "shift", "left", "right"]) (ps := ["state", "resting", "sides", "centres"]) F sc_law_near_bound (F.bindsN fun _ _ _ _ _ _ us hl => match us, hl with | [_, _, _, _], _ => rfl) (by decide) (by decide) (by decide) len_law_near_bound (fun cdv A outer s H E hr => ⟨_, show DSs _ _ _ _ b_law_near_bound from
 (dss_cons (ds_if (DW.dt (dw_and (dt_cmp op_gt sim_gt (de_blt call_lenX sim_len (by rfl) (fFree 27 "len" T) PySem.boot_len (da_cons (de_var 1) da_nil)) de_int (nomark _)) (dw_and1 (dt_cmp op_lt sim_lt (de_callIO 0 (ok_law_draw T) (hr.mono (by decide)) (takes_of rfl rfl rfl rfl) (by rfl) (fGlo 2 "_law_draw" T) (fKeep 3 "_law_draw" T) (da_cons de_int da_nil)) de_int (nomark _)))))
 (dss_cons (ds_set (i := 4) sc_law_near_bound.nd rfl (by first | exact Or.inl rfl | exact Or.inr rfl) (de_ix hr.units (de_var 1) (de_callIO 0 (ok_law_draw T) (hr.mono (by decide)) (takes_of rfl rfl rfl rfl) (by rfl) (fGlo 2 "_law_draw" T) (fKeep 3 "_law_draw" T) (da_cons (de_blt call_lenX sim_len (by rfl) (fFree 27 "len" T) PySem.boot_len (da_cons (de_var 1) da_nil)) da_nil))))
 (dss_cons (ds_set (i := 5) sc_law_near_bound.nd rfl (by first | exact Or.inl rfl | exact Or.inr rfl) (de_add (de_ix hr.units (de_var 4) de_int) (de_ix hr.units (DO.fz (do_lst (da_cons de_int (da_cons de_int (da_cons (de_neg de_int) (da_cons de_int (da_cons (de_neg de_int) (da_cons de_int da_nil)))))))) (de_callIO 0 (ok_law_draw T) (hr.mono (by decide)) (takes_of rfl rfl rfl rfl) (by rfl) (fGlo 2 "_law_draw" T) (fKeep 3 "_law_draw" T) (da_cons de_int da_nil)))))
 (dss_cons (ds_if (dt_cmp (op_eqX hr.units) sim_eq (de_callIO 0 (ok_law_draw T) (hr.mono (by decide)) (takes_of rfl rfl rfl rfl) (by rfl) (fGlo 2 "_law_draw" T) (fKeep 3 "_law_draw" T) (da_cons de_int da_nil)) de_int (nomark _))
 (dss_one (ds_ret (de_tup (da_cons (de_ix hr.units (de_var 4) de_int) (da_cons (de_ix hr.units (de_var 4) de_int) (da_cons (de_sub (de_sub de_int (de_var 5)) de_int) da_nil))))))
 dss_nil)
 (dss_one (ds_ret (de_tup (da_cons (de_ix hr.units (de_var 4) de_int) (da_cons (de_ix hr.units (de_var 4) de_int) (da_cons (de_var 5) da_nil)))))))))
 dss_nil)
 (dss_cons (ds_set (i := 6) sc_law_near_bound.nd rfl (by first | exact Or.inl rfl | exact Or.inr rfl) (de_callIO 0 (ok_law_draw T) (hr.mono (by decide)) (takes_of rfl rfl rfl rfl) (by rfl) (fGlo 2 "_law_draw" T) (fKeep 3 "_law_draw" T) (da_cons (de_blt call_lenX sim_len (by rfl) (fFree 27 "len" T) PySem.boot_len (da_cons (de_var 2) da_nil)) da_nil)))
 (dss_cons (ds_set (i := 7) sc_law_near_bound.nd rfl (by first | exact Or.inl rfl | exact Or.inr rfl) (de_mod (de_bty call_intV sim_int (by rfl) (fFree 35 "int" T) PyProof.Rows.boot_int (da_cons (de_add (de_add (de_var 6) de_int) (de_callIO 0 (ok_law_draw T) (hr.mono (by decide)) (takes_of rfl rfl rfl rfl) (by rfl) (fGlo 2 "_law_draw" T) (fKeep 3 "_law_draw" T) (da_cons (de_sub (de_blt call_lenX sim_len (by rfl) (fFree 27 "len" T) PySem.boot_len (da_cons (de_var 2) da_nil)) de_int) da_nil))) da_nil)) (de_blt call_lenX sim_len (by rfl) (fFree 27 "len" T) PySem.boot_len (da_cons (de_var 2) da_nil))))
 (dss_one (ds_ret (de_tup (da_cons (de_ix hr.units (de_var 2) (de_var 6)) (da_cons (de_ix hr.units (de_var 2) (de_var 7)) (da_cons (de_callIO 0 (ok_law_near T) (hr.mono (by decide)) (takes_of rfl rfl rfl rfl) (by rfl) (fGlo 38 "_law_near" T) (fKeep 39 "_law_near" T) (da_cons (de_var 3) da_nil)) da_nil)))))))))⟩) (rd := rd_law_near_bound)
theorem sc_law_some : FnScope ["state", "answers", "asked", "found", "answer"] ["state", "answers"] (defScope (top 83)) := ⟨rfl, rfl, rfl, by decide +kernel, rfl, by decide +kernel, by decide +kernel⟩
theorem ok_law_some (T : TY w K mg) : FnD P w K mg base 4 (He.ga K "_law_some") [0] sp_law_some := by
  obtain ⟨fd, F⟩ := tDef T 58
  exact fnD_of (k := 3) (N := ["state", "answers", "asked", "found", "answer"]) (ps := ["state", "answers"]) F sc_law_some (F.bindsN fun _ _ _ _ _ _ us hl => match us, hl with | [_, _], _ => rfl) (by decide) (by decide) (by decide) len_law_some (fun cdv A outer s H E hr => ⟨_, show DSs _ _ _ _ b_law_some from
 (dss_cons (ds_setO (i := 2) sc_law_some.nd rfl (by first | exact Or.inl rfl | exact Or.inr rfl) (do_lst da_nil))
 (dss_cons (ds_setO (i := 3) sc_law_some.nd rfl (by first | exact Or.inl rfl | exact Or.inr rfl) (do_lst da_nil))
 (dss_cons (ds_for (passes_of rfl) rfl (di_seq (de_var 1)) (dg_name (i := 4) sc_law_some.nd rfl (by first | exact Or.inl rfl | exact Or.inr rfl))
 (dss_one (ds_if (dt_cmp (op_neX hr.units) sim_ne (de_callIO 0 (ok_law_draw T) (hr.mono (by decide)) (takes_of rfl rfl rfl rfl) (by rfl) (fGlo 2 "_law_draw" T) (fKeep 3 "_law_draw" T) (da_cons de_int da_nil)) de_int (nomark _))
 (dss_one (ds_if (dt_cmp (op_eqX hr.units) sim_eq (de_ix hr.units (de_var 4) de_int) de_str (nomark _))
 (dss_cons (ds_expr (de_lm (i := 2) PySem.F.slot_list_append PySem.F.type_list_append mt_append sim_app (da_cons (de_ix hr.units (de_var 4) de_int) da_nil)))
 (dss_one (ds_expr (de_lm (i := 3) PySem.F.slot_list_append PySem.F.type_list_append mt_append sim_app (da_cons (de_var 4) da_nil)))))
 (dss_one (ds_if (DW.dt (dw_and (DW.dt (dw_or (dt_cmp op_isC sim_is (de_ix hr.units (de_var 4) de_int) de_non (nomark _)) (dw_or1 (dt_inV hr.units (i := 2) (de_ix hr.units (de_var 4) de_int))))) (dw_and1 (DW.dt (dw_or (dt_cmp op_isC sim_is (de_ix hr.units (de_var 4) de_int) de_non (nomark _)) (dw_or1 (dt_inV hr.units (i := 2) (de_ix hr.units (de_var 4) de_int))))))))
 (dss_one (ds_expr (de_lm (i := 3) PySem.F.slot_list_append PySem.F.type_list_append mt_append sim_app (da_cons (de_var 4) da_nil))))
 dss_nil))))
 dss_nil)))
 (dss_one (ds_ret (de_var 3))))))⟩) (rd := rd_law_some)
theorem sc_law_has : FnScope ["told", "word", "other"] ["told", "word"] (defScope (top 84)) := ⟨rfl, rfl, rfl, by decide +kernel, rfl, by decide +kernel, by decide +kernel⟩
theorem ok_law_has (T : TY w K mg) : FnD P w K mg base 9 (He.ga K "_law_has") [] sp_law_has := by
  obtain ⟨fd, F⟩ := tDef T 59
  exact fnD_of (k := 8) (N := ["told", "word", "other"]) (ps := ["told", "word"]) F sc_law_has (F.bindsN fun _ _ _ _ _ _ us hl => match us, hl with | [_, _], _ => rfl) (by decide) (by decide) (by decide) len_law_has (fun cdv A outer s H E hr => ⟨_, show DSs _ _ _ _ b_law_has from
 (dss_cons (ds_if (DW.dt (dw_or (dt_not (dt_truth (de_isiT (T := "tuple") rfl (isiTup_ok (tFact T 116)) (by rfl) (fFree 89 "isinstance" T) (by rfl) (fFree 70 "tuple" T) (by decide +kernel) (de_var 0)))) (dw_or1 (dt_cmp (op_notInX hr.units) sim_in (de_var 1) (de_var 0) (by rfl)))))
 (dss_one (ds_ret de_bl))
 dss_nil)
 (dss_one (ds_ret (de_call (ok_law_same T) (hr.mono (by decide)) (takes_of rfl rfl rfl rfl) (by rfl) (fGlo 22 "_law_same" T) (fKeep 23 "_law_same" T) (da_cons (de_var 0) (da_cons (de_bty call_tuple_of sim_tuple (by rfl) (fFree 70 "tuple" T) PyProof.Rows.boot_tuple (da_cons (DO.fz (do_lc (own := [("other", 2)]) rfl sc_law_has.nd (di_seq (DO.fz (do_lst (da_cons de_str (da_cons de_str (da_cons de_str da_nil)))))) (blkOk_by (by kernel_rfl)) (own_name (by decide)) (dg_name (i := 2) sc_law_has.nd rfl (by first | exact Or.inl rfl | exact Or.inr rfl)) (fun _ _ _ _ _ => (dg_name (i := 2) sc_law_has.nd rfl (by first | exact Or.inl rfl | exact Or.inr rfl))) (dts_one (dt_cmp (op_inX hr.units) sim_in (de_var 2) (de_var 0) (by rfl))) (fun _ _ _ _ _ => (dts_one (dt_cmp (op_inX hr.units) sim_in (de_var 2) (de_var 0) (by rfl)))) (de_var 2) (fun _ _ _ _ _ => (de_var 2)))) da_nil)) da_nil))))))⟩) (rd := rd_law_has)
theorem sc_law : FnScope ["script", "state", "many", "names", "centres", "values", "steps", "condition", "word", "sides", "resting", "columns", "whole", "mixed", "k", "some", "mosts", "turned", "name", "bound", "answer"] ["script"] (defScope (top 85)) := ⟨rfl, rfl, rfl, by decide +kernel, rfl, by decide +kernel, by decide +kernel⟩
theorem facts_law {h : Heap} {fa : Addr} (X : K.In h) (G : h.Ns mainGlobals mg) (hfa : mg ("law" : Str) = some (.ref fa)) (c : SaysX fx fn ts w K) :
    ∃ fd : FuncData, (∀ (s : Shared) (v : Value), BindsTo s fd ⟨[v], []⟩ [("script", v)]) ∧ ∀ base : Heap, K.In base → base.Ns mainGlobals mg → FnOk P w K mg base (L2.CX P w) 10 fa fd ["script"] (spOf ⟨K, w⟩ [] sp_law) := by
  have T : TY w K mg := ⟨h, X, G, c⟩
  obtain ⟨fd, F⟩ := tDef T 60
  have e := hfa.symm.trans (fGlo 151 "law" T)
  cases e
  have b := FunD.bindsA (ps := ["script"]) F fun _ _ _ _ _ _ us hl => match us, hl with | [_], _ => rfl
  exact ⟨fd, fun s v => b s [v] rfl, fun base _ _ => fnOkD_of (k := 9) (N := ["script", "state", "many", "names", "centres", "values", "steps", "condition", "word", "sides", "resting", "columns", "whole", "mixed", "k", "some", "mosts", "turned", "name", "bound", "answer"]) (ps := ["script"]) F sc_law (by decide) (by decide) (by decide) len_law (fun cdv A outer s H E hr => ⟨_, show DSs _ _ _ _ b_law from
 (dss_cons (ds_setO (i := 1) sc_law.nd rfl (by first | exact Or.inl rfl | exact Or.inr rfl) (do_call (ok_law_start T) (hr.mono (by decide)) (takes_of rfl rfl rfl rfl) (by rfl) (fGlo 0 "_law_start" T) (fKeep 1 "_law_start" T) (da_cons (de_var 0) da_nil)))
 (dss_cons (ds_set (i := 2) sc_law.nd rfl (by first | exact Or.inl rfl | exact Or.inr rfl) (de_add de_int (de_callIO 1 (ok_law_draw T) (hr.mono (by decide)) (takes_of rfl rfl rfl rfl) (by rfl) (fGlo 2 "_law_draw" T) (fKeep 3 "_law_draw" T) (da_cons de_int da_nil))))
 (dss_cons (ds_set (i := 3) sc_law.nd rfl (by first | exact Or.inl rfl | exact Or.inr rfl) (de_callIO 1 (ok_law_names T) (hr.mono (by decide)) (takes_of rfl rfl rfl rfl) (by rfl) (fGlo 4 "_law_names" T) (fKeep 5 "_law_names" T) (da_cons (de_var 2) da_nil)))
 (dss_cons (ds_set (i := 4) sc_law.nd rfl (by first | exact Or.inl rfl | exact Or.inr rfl) (de_callIO 1 (ok_law_centres T) (hr.mono (by decide)) (takes_of rfl rfl rfl rfl) (by rfl) (fGlo 6 "_law_centres" T) (fKeep 7 "_law_centres" T) da_nil))
 (dss_cons (ds_set (i := 5) sc_law.nd rfl (by first | exact Or.inl rfl | exact Or.inr rfl) (de_callIO 1 (ok_law_cells T) (hr.mono (by decide)) (takes_of rfl rfl rfl rfl) (by rfl) (fGlo 8 "_law_cells" T) (fKeep 9 "_law_cells" T) (da_cons (de_var 2) (da_cons (de_var 4) da_nil))))
 (dss_cons (ds_set (i := 6) sc_law.nd rfl (by first | exact Or.inl rfl | exact Or.inr rfl) (de_callIO 1 (ok_law_steps T) (hr.mono (by decide)) (takes_of rfl rfl rfl rfl) (by rfl) (fGlo 10 "_law_steps" T) (fKeep 11 "_law_steps" T) (da_cons (de_var 3) (da_cons (de_var 4) (da_cons de_int da_nil)))))
 (dss_cons (ds_set (i := 7) sc_law.nd rfl (by first | exact Or.inl rfl | exact Or.inr rfl) (de_call (ok_law_made T) (hr.mono (by decide)) (takes_of rfl rfl rfl rfl) (by rfl) (fGlo 12 "_law_made" T) (fKeep 13 "_law_made" T) (da_cons (de_var 6) da_nil)))
 (dss_cons (ds_set (i := 8) sc_law.nd rfl (by first | exact Or.inl rfl | exact Or.inr rfl) (de_ix hr.units (DO.fz (do_lst (da_cons de_str (da_cons de_str (da_cons de_str da_nil))))) (de_call (ok_law_rank T) (hr.mono (by decide)) (takes_of rfl rfl rfl rfl) (by rfl) (fGlo 14 "_law_rank" T) (fKeep 15 "_law_rank" T) (da_cons (de_var 6) (da_cons (de_var 3) (da_cons (de_var 5) da_nil))))))
 (dss_cons (ds_set (i := 9) sc_law.nd rfl (by first | exact Or.inl rfl | exact Or.inr rfl) (de_add (DO.fz (do_lst (da_cons de_non da_nil))) (DO.fz (do_lc (own := [("name", 18)]) rfl sc_law.nd (di_seq (de_var 3)) (blkOk_by (by kernel_rfl)) (own_name (by decide)) (dg_name (i := 18) sc_law.nd rfl (by first | exact Or.inl rfl | exact Or.inr rfl)) (fun _ _ _ _ _ => (dg_name (i := 18) sc_law.nd rfl (by first | exact Or.inl rfl | exact Or.inr rfl))) (dts_one (dt_cmp op_isNC sim_is (de_ix hr.units (de_var 5) (de_lix (de_var 3) (de_var 18))) de_non (nomark _))) (fun _ _ _ _ _ => (dts_one (dt_cmp op_isNC sim_is (de_ix hr.units (de_var 5) (de_lix (de_var 3) (de_var 18))) de_non (nomark _)))) (de_var 18) (fun _ _ _ _ _ => (de_var 18))))))
 (dss_cons (ds_set (i := 10) sc_law.nd rfl (by first | exact Or.inl rfl | exact Or.inr rfl) (de_call (ok_law_resting T) (hr.mono (by decide)) (takes_of rfl rfl rfl rfl) (by rfl) (fGlo 16 "_law_resting" T) (fKeep 17 "_law_resting" T) (da_cons (de_var 6) (da_cons (de_var 9) da_nil))))
 (dss_cons (ds_set (i := 11) sc_law.nd rfl (by first | exact Or.inl rfl | exact Or.inr rfl) (de_call (ok_law_column_answers T) (hr.mono (by decide)) (takes_of rfl rfl rfl rfl) (by rfl) (fGlo 18 "_law_column_answers" T) (fKeep 19 "_law_column_answers" T) (da_cons (de_var 3) (da_cons (de_var 5) da_nil))))
 (dss_cons (ds_set (i := 12) sc_law.nd rfl (by first | exact Or.inl rfl | exact Or.inr rfl) (de_add (de_var 11) (DO.fz (do_lc (own := [("bound", 19)]) rfl sc_law.nd (di_seq (de_var 10)) (blkOk_by (by kernel_rfl)) (own_name (by decide)) (dg_name (i := 19) sc_law.nd rfl (by first | exact Or.inl rfl | exact Or.inr rfl)) (fun _ _ _ _ _ => (dg_name (i := 19) sc_law.nd rfl (by first | exact Or.inl rfl | exact Or.inr rfl))) dts_nil (fun _ _ _ _ _ => dts_nil) (de_callIO 1 (ok_law_answer T) (hr.mono (by decide)) takes0 (by rfl) (fGlo 20 "_law_answer" T) (fKeep 21 "_law_answer" T) (da_cons (de_var 19) (da_cons (de_var 3) (da_cons (de_var 5) da_nil)))) (fun _ _ _ _ _ => (de_callIO 1 (ok_law_answer T) (hr.mono (by decide)) takes0 (by rfl) (fGlo 20 "_law_answer" T) (fKeep 21 "_law_answer" T) (da_cons (de_var 19) (da_cons (de_var 3) (da_cons (de_var 5) da_nil)))))))))
 (dss_cons (ds_if (dt_not (dt_truth (de_call (ok_law_same T) (hr.mono (by decide)) (takes_of rfl rfl rfl rfl) (by rfl) (fGlo 22 "_law_same" T) (fKeep 23 "_law_same" T) (da_cons (de_call (ok_possible_truths T) (hr.mono (by decide)) (takes_of rfl rfl rfl rfl) (by rfl) (fGlo 24 "possible_truths" T) (fKeep 25 "possible_truths" T) (da_cons (de_var 7) (da_cons (DO.fz (do_list rfl (by rfl) (fFree 26 "list" T) (de_var 12))) da_nil))) (da_cons (de_tup (da_cons (de_var 8) da_nil)) da_nil)))))
 (dss_one (ds_ret de_bl))
 dss_nil)
 (dss_cons (ds_setO (i := 13) sc_law.nd rfl (by first | exact Or.inl rfl | exact Or.inr rfl) (do_list rfl (by rfl) (fFree 26 "list" T) (de_var 11)))
 (dss_cons (ds_if (dt_cmp op_gt sim_gt (de_blt call_lenX sim_len (by rfl) (fFree 27 "len" T) PySem.boot_len (da_cons (de_var 9) da_nil)) de_int (nomark _))
 (dss_one (ds_for (passes_of rfl) rfl (di_range1 (by rfl) (fFree 28 "range" T) (da_cons (de_callIO 1 (ok_law_draw T) (hr.mono (by decide)) (takes_of rfl rfl rfl rfl) (by rfl) (fGlo 2 "_law_draw" T) (fKeep 3 "_law_draw" T) (da_cons de_int da_nil)) da_nil)) (dg_name (i := 14) sc_law.nd rfl (by first | exact Or.inl rfl | exact Or.inr rfl))
 (dss_one (ds_expr (de_lm (i := 13) PySem.F.slot_list_append PySem.F.type_list_append mt_append sim_app (da_cons (de_callIO 1 (ok_law_answer T) (hr.mono (by decide)) (takes_of rfl rfl rfl rfl) (by rfl) (fGlo 20 "_law_answer" T) (fKeep 21 "_law_answer" T) (da_cons (de_callIO 1 (ok_law_near_bound T) (hr.mono (by decide)) (takes_of rfl rfl rfl rfl) (by rfl) (fGlo 29 "_law_near_bound" T) (fKeep 30 "_law_near_bound" T) (da_cons (de_var 10) (da_cons (de_var 9) (da_cons (de_var 4) da_nil)))) (da_cons (de_var 3) (da_cons (de_var 5) da_nil)))) da_nil))))))
 dss_nil)
 (dss_cons (ds_set (i := 15) sc_law.nd rfl (by first | exact Or.inl rfl | exact Or.inr rfl) (de_callIO 1 (ok_law_some T) (hr.mono (by decide)) (takes_of rfl rfl rfl rfl) (by rfl) (fGlo 31 "_law_some" T) (fKeep 32 "_law_some" T) (da_cons (de_var 13) da_nil)))
 (dss_cons (ds_for (passes_of rfl) rfl (di_range1 (by rfl) (fFree 28 "range" T) (da_cons (de_add (de_blt call_lenX sim_len (by rfl) (fFree 27 "len" T) PySem.boot_len (da_cons (de_var 15) da_nil)) de_int) da_nil)) (dg_name (i := 14) sc_law.nd rfl (by first | exact Or.inl rfl | exact Or.inr rfl))
 (dss_one (ds_if (dt_not (dt_truth (de_call (ok_law_has T) (hr.mono (by decide)) (takes_of rfl rfl rfl rfl) (by rfl) (fGlo 33 "_law_has" T) (fKeep 34 "_law_has" T) (da_cons (de_call (ok_possible_truths T) (hr.mono (by decide)) (takes_of rfl rfl rfl rfl) (by rfl) (fGlo 24 "possible_truths" T) (fKeep 25 "possible_truths" T) (da_cons (de_var 7) (da_cons (de_sl (de_var 15) dp_none (dp_some (de_var 14))) da_nil))) (da_cons (de_var 8) da_nil)))))
 (dss_one (ds_ret de_bl))
 dss_nil)))
 (dss_cons (ds_set (i := 16) sc_law.nd rfl (by first | exact Or.inl rfl | exact Or.inr rfl) (DO.fz (do_lc (own := [("answer", 20)]) rfl sc_law.nd (di_seq (de_add (de_sl (de_var 12) (dp_some (de_var 2)) dp_none) (de_var 15))) (blkOk_by (by kernel_rfl)) (own_name (by decide)) (dg_name (i := 20) sc_law.nd rfl (by first | exact Or.inl rfl | exact Or.inr rfl)) (fun _ _ _ _ _ => (dg_name (i := 20) sc_law.nd rfl (by first | exact Or.inl rfl | exact Or.inr rfl))) (dts_one (dt_cmp (op_eqX hr.units) sim_eq (de_ix hr.units (de_var 20) de_int) de_str (nomark _))) (fun _ _ _ _ _ => (dts_one (dt_cmp (op_eqX hr.units) sim_eq (de_ix hr.units (de_var 20) de_int) de_str (nomark _)))) (de_var 20) (fun _ _ _ _ _ => (de_var 20)))))
 (dss_cons (ds_lc (ps_lcS (own := [("k", 14)]) (i := 17) rfl sc_law.nd rfl rfl (sw_true rfl rfl rfl (by decide +kernel)) (di_range1 (by rfl) (fFree 28 "range" T) (da_cons (de_blt call_lenX sim_len (by rfl) (fFree 27 "len" T) PySem.boot_len (da_cons (de_var 16) da_nil)) da_nil)) (blkOk_by (by kernel_rfl)) (own_name (by decide)) (dg_name (i := 14) sc_law.nd rfl (by first | exact Or.inl rfl | exact Or.inr rfl)) (fun _ _ _ _ _ => (dg_name (i := 14) sc_law.nd rfl (by first | exact Or.inl rfl | exact Or.inr rfl))) dts_nil (fun _ _ _ _ _ => dts_nil) (de_ix hr.units (de_var 16) (de_sub (de_sub (de_blt call_lenX sim_len (by rfl) (fFree 27 "len" T) PySem.boot_len (da_cons (de_var 16) da_nil)) de_int) (de_var 14))) (fun _ _ _ _ _ => (de_ix hr.units (de_var 16) (de_sub (de_sub (de_blt call_lenX sim_len (by rfl) (fFree 27 "len" T) PySem.boot_len (da_cons (de_var 16) da_nil)) de_int) (de_var 14))))))
 (dss_one (ds_ret (de_call (ok_law_same T) (hr.mono (by decide)) (takes_of rfl rfl rfl rfl) (by rfl) (fGlo 22 "_law_same" T) (fKeep 23 "_law_same" T) (da_cons (de_call (ok_possible_truths T) (hr.mono (by decide)) (takes_of rfl rfl rfl rfl) (by rfl) (fGlo 24 "possible_truths" T) (fKeep 25 "possible_truths" T) (da_cons (de_var 7) (da_cons (de_add (de_var 11) (de_var 17)) da_nil))) (da_cons (de_tup (da_cons (de_var 8) da_nil)) da_nil))))))))))))))))))))))))⟩) (rd := rd_law)⟩
abbrev lawLevel : Nat := 10
end
end DL

namespace DL
open PySem L2

end DL
open PySem PySem.W PySem.Calls PyProof.Rows
theorem PySem.Challenge.cw_totalsbeside_k06_whole_possible_truths_h_holds : PySem.Challenge.rw_totalsbeside_k06_whole_possible_truths_h.Holds := by
  w_on; o_law
  refine HandSHeadRun.head_any (r := OpenLaw.row PySem.Challenge.rw_totalsbeside_k06_whole_possible_truths_h) (q := view (OpenLaw.row PySem.Challenge.rw_totalsbeside_k06_whole_possible_truths_h).prog [85]) (H := DL.hk) (ob := DL.ob) (M := 30000) (loose := DL.looseN) (d := HandSHeadRun.topDef (OpenLaw.row PySem.Challenge.rw_totalsbeside_k06_whole_possible_truths_h).prog 85) (kwd := []) DL.ob_eq
    (by kernel_rfl) (fun s => by kernel_rfl) DL.run (by kernel_rfl) (by kernel_rfl) (by kernel_rfl) (by rfl) (by first | assumption | decide +kernel) (by decide +kernel) ⟨rfl, rfl, rfl, rfl, rfl, by decide +kernel⟩ ?hw ?hc
  case hw => w_witness2
  case hc =>
    refine DL.walk_law (l := PySem.Challenge.rw_totalsbeside_k06_whole_possible_truths_h) (n := 63) (k := DL.lawLevel) (sd := DL.sp_law) (x := "script") rfl (by decide) (by kernel_rfl) ⟨rfl, by decide, by decide⟩ DL.law_asked ?F
    intro w mg fa h Y G hmg0
    obtain ⟨K, KX, c⟩ := Y
    have hmg : mg ("law" : PySem.Str) = some (.ref fa) := by
      have e : (HandSHeadRun.topDef (OpenLaw.row PySem.Challenge.rw_totalsbeside_k06_whole_possible_truths_h).prog 85).name = ("law" : PySem.Str) := by kernel_rfl
      rw [← e]
      exact hmg0
    obtain ⟨fd, hb, hF⟩ := DL.facts_law (P := (PySem.Challenge.rw_totalsbeside_k06_whole_possible_truths_h).prog) (w := w) KX G hmg c
    exact ⟨K, fd, KX, hb, hF⟩
