import PyProof.Rows.All
import HandS.ForMost
import HandS.Exc
import HandS.ExcOwn
import HandS.TryOnly
import HandS.TryMany
import HandS.WordsExc
import HandS.Flow
import HandS.IsInst
import HandS.Property
import HandS.ClsMeth
import HandS.Wide
import HandS.HeadHook2
import HandS.Defaults
import KE.KOpsOwn
import KE.KDictKeyed
import KE.KDictWalk
import HandS.ExcCtx
import HandS.TupAny
import HandS.TupLe
import HandS.Strs
import HandS.Star
import HandS.CallSlots
import HandS.Head0
import HandS.Head1
import HandS.Head2
import HandS.HeadEnd
import HandS.HeadHook3
import HandS.EndBits
import HandS.Text
import HandS.RaiseMore
import HandS.Style
import HandS.ExcInit
import HandS.ExcField
import HandS.ExcIs
import KE.KExcSuper
import KE.KExcIs
import HandS.MakeKwOnly
import HandS.DictComp
import HandS.SortInts
import HandS.SetFor
import HandS.Conv
import PyProof.TupleOps
import HandS.HotCalls
import PySem.Challenge.RW_totalsbeside_k07_whole_cycle_or_model
set_option Elab.async false
set_option linter.all false
set_option maxRecDepth 100000
set_option maxHeartbeats 2000000
set_option autoImplicit false
/-! The D layer, part 1: plain data, the frozen part of the heap, slots. -/
namespace DL
open PySem L2

abbrev Fg := PySem.W.Frag
/-- the known part and the world -/
structure KW where
  k : Fg
  w : World
instance : Coe KW Fg := ⟨KW.k⟩
abbrev kk (X : Cx) : KW := ⟨X.K, X.w⟩

/-- plain data; lck: a list that is read alone (the script, the module's own) -/
inductive D where
  | non | bl (b : Bool) | int (i : Int) | str (s : Str)
  | tup (xs : List D) | lst (xs : List D) | lck (xs : List D)
  | dct (ks vs : List D)
  | obj (C : String) (ns : List String) (vs : List D)
  deriving Inhabited

/-! ### keys of dicts -/
mutual
def nkD : D → Option PySem.NestedKey
  | .non => some .none
  | .int i => some (.num i)
  | .str s => some (.text s)
  | .tup ds => (nkL ds).map .tup
  | _ => none
def nkL : List D → Option (List PySem.NestedKey)
  | [] => some []
  | d :: ds => match nkD d, nkL ds with
    | some k, some l => some (k :: l)
    | _, _ => none
end
inductive Ents (w : World) : List DictEntry → List NestedKey → List V → List V → Prop
  | nil : Ents w [] [] [] []
  | cons {e : DictEntry} {es : List DictEntry} {k : NestedKey} {ks : List NestedKey} {kv v : V} {kvs vs : List V} : e.hash = k.hash w → RelV kv e.key → RelV v e.val → Ents w es ks kvs vs → Ents w (e :: es) (k :: ks) (kv :: kvs) (v :: vs)
/-- the object o is a dict with these keys and values -/
def DictObj (w : World) (o : Obj) (ks : List NestedKey) (kvs vs : List V) : Prop := o.ExactDict ∧ (∃ es ep, o.data = .dict es ep ∧ Ents w es.toList ks kvs vs) ∧ ks.Nodup
def DkΦ (w : World) (a : Addr) (ks : List NestedKey) (kvs vs : List V) : Heap → Prop := fun h => ∃ o, h.get? a = some o ∧ DictObj w o ks kvs vs
def KeysOk (ds : List D) (ks : List NestedKey) : Prop := nkL ds = some ks ∧ ks.length ≤ sizeLine

def fieldsV (ns : List String) (vs : List V) : List (Str × V) := (ns.map Str.ofString).zip vs

mutual
/-- the value v stands for the datum, by the frozen heap F -/
def Is (K : KW) (F : Hp) : D → V → Prop
  | .non, v => v = .non
  | .bl b, v => v = .bl b
  | .int i, v => v = .int i
  | .str s, v => v = .str s
  | .tup ds, v => ∃ a vs, v = .ref a ∧ SqT K F a vs ∧ IsL K F ds vs
  | .lst ds, v => ∃ a vs, v = .ref a ∧ F a = some (.lst vs) ∧ IsL K F ds vs
  | .lck ds, v => ∃ a vs, v = .ref a ∧ SqL K F a vs ∧ IsL K F ds vs
  | .dct ds es, v => ∃ a o u ks kvs us, v = .ref a ∧ F a = some (.frz o u) ∧ (a == sysModules) = false ∧ DictObj K.w o ks kvs us ∧ KeysOk ds ks ∧ IsL K F ds kvs ∧ IsL K F es us
  | .obj C ns ds, v => ∃ a dx vs, v = .ref a ∧ F a = some (.ins (He.ga K C) dx (fieldsV ns vs)) ∧ ns.length = ds.length ∧ IsL K F ds vs
def IsL (K : KW) (F : Hp) : List D → List V → Prop
  | [], vs => vs = []
  | d :: ds, vs => ∃ v r, vs = v :: r ∧ Is K F d v ∧ IsL K F ds r
end

section
variable {K : KW} {F F' : Hp}
theorem Rd.same {a : Addr} {u : HO} (e : Same F F') (h : Rd F a u) : Rd F' a u := by
  rcases h with h | ⟨o, h⟩
  · exact .inl (e _ _ h)
  · exact .inr ⟨o, e _ _ h⟩
theorem SqT.same {a : Addr} {xs : List V} (e : Same F F') (h : SqT K F a xs) : SqT K F' a xs := h.imp (Rd.same e) id
theorem SqL.same {a : Addr} {xs : List V} (e : Same F F') (h : SqL K F a xs) : SqL K F' a xs := h.imp (Rd.same e) id
mutual
theorem Is.mono (e : Same F F') : ∀ (d : D) (v : V), Is K F d v → Is K F' d v
  | .non, _, h => h
  | .bl _, _, h => h
  | .int _, _, h => h
  | .str _, _, h => h
  | .tup ds, _, ⟨a, vs, q, s, l⟩ => ⟨a, vs, q, SqT.same e s, IsL.mono e ds vs l⟩
  | .lst ds, _, ⟨a, vs, q, s, l⟩ => ⟨a, vs, q, e _ _ s, IsL.mono e ds vs l⟩
  | .lck ds, _, ⟨a, vs, q, s, l⟩ => ⟨a, vs, q, SqL.same e s, IsL.mono e ds vs l⟩
  | .dct ds es, _, ⟨a, o, u, ks, kvs, us, q, s, n, h, k, l, m⟩ => ⟨a, o, u, ks, kvs, us, q, e _ _ s, n, h, k, IsL.mono e ds kvs l, IsL.mono e es us m⟩
  | .obj _ _ ds, _, ⟨a, dx, vs, q, s, n, l⟩ => ⟨a, dx, vs, q, e _ _ s, n, IsL.mono e ds vs l⟩
theorem IsL.mono (e : Same F F') : ∀ (ds : List D) (vs : List V), IsL K F ds vs → IsL K F' ds vs
  | [], _, h => h
  | d :: ds, _, ⟨v, r, q, h, l⟩ => ⟨v, r, q, Is.mono e d v h, IsL.mono e ds r l⟩
end
theorem IsL.length : ∀ {ds : List D} {vs : List V}, IsL K F ds vs → vs.length = ds.length
  | [], _, h => by cases h; rfl
  | _ :: _, _, ⟨_, _, q, _, l⟩ => by subst q; simp [IsL.length l]
theorem IsL.get : ∀ {ds : List D} {vs : List V} {i : Nat} {d : D}, IsL K F ds vs → ds[i]? = some d → ∃ v, vs[i]? = some v ∧ Is K F d v
  | [], _, _, _, _, e => by simp at e
  | _ :: _, _, 0, _, ⟨v, r, q, h, _⟩, e => by subst q; simp at e; subst e; exact ⟨v, rfl, h⟩
  | _ :: _, _, i + 1, _, ⟨v, r, q, _, l⟩, e => by
    subst q
    obtain ⟨v', h1, h2⟩ := IsL.get (i := i) l (by simpa using e)
    exact ⟨v', by simpa using h1, h2⟩
theorem IsL.append : ∀ {ds es : List D} {vs ws : List V}, IsL K F ds vs → IsL K F es ws → IsL K F (ds ++ es) (vs ++ ws)
  | [], _, _, _, h, k => by cases h; exact k
  | _ :: _, _, _, _, ⟨v, r, q, h, l⟩, k => by subst q; exact ⟨v, _, rfl, h, IsL.append l k⟩
theorem IsL.take : ∀ {ds : List D} {vs : List V} (n : Nat), IsL K F ds vs → IsL K F (ds.take n) (vs.take n)
  | [], _, _, h => by cases h; simp [IsL]
  | _ :: _, _, 0, _ => by simp [IsL]
  | _ :: _, _, n + 1, ⟨v, r, q, h, l⟩ => by subst q; exact ⟨v, _, rfl, h, IsL.take n l⟩
theorem IsL.drop : ∀ {ds : List D} {vs : List V} (n : Nat), IsL K F ds vs → IsL K F (ds.drop n) (vs.drop n)
  | [], _, _, h => by cases h; simp [IsL]
  | _ :: _, _, 0, h => h
  | _ :: _, _, n + 1, ⟨v, r, q, _, l⟩ => by subst q; simpa using IsL.drop n l
theorem IsL.set : ∀ {ds : List D} {vs : List V} {d : D} {v : V} (i : Nat), IsL K F ds vs → Is K F d v → IsL K F (ds.set i d) (vs.set i v)
  | [], _, _, _, _, h, _ => by cases h; simp [IsL]
  | _ :: _, _, _, _, 0, ⟨v, r, q, _, l⟩, k => by subst q; exact ⟨_, _, rfl, k, l⟩
  | _ :: _, _, _, _, i + 1, ⟨v, r, q, h, l⟩, k => by subst q; exact ⟨_, _, rfl, h, IsL.set i l k⟩
theorem IsL.single {d : D} {v : V} (h : Is K F d v) : IsL K F [d] [v] := ⟨v, [], rfl, h, rfl⟩
theorem IsL.reverse {ds : List D} {vs : List V} (h : IsL K F ds vs) : IsL K F ds.reverse vs.reverse := by
  induction ds generalizing vs with
  | nil => cases h; exact rfl
  | cons d ds ih => obtain ⟨v, r, q, k, l⟩ := h; subst q; simpa using IsL.append (ih l) (IsL.single k)
end

/-! ### slots -/
/-- an exception as data -/
structure Exn where
  C : String
  ns : List String
  vs : List D
def ExR (K : KW) (F : Hp) (x : Exn) (cls : Value) (d : Option Addr) : Prop :=
  cls = .ref (He.ga K x.C) ∧ ((d = none ∧ x.ns = [] ∧ x.vs = []) ∨ ∃ a vs, d = some a ∧ F a = some (.xd (fieldsV x.ns vs)) ∧ x.ns.length = x.vs.length ∧ IsL K F x.vs vs)
theorem ExR.mono {K : KW} {F F' : Hp} {x : Exn} {cls : Value} {d : Option Addr} (e : Same F F') (h : ExR K F x cls d) : ExR K F' x cls d := by
  obtain ⟨h1, h2 | ⟨a, vs, h2, h3, h4, h5⟩⟩ := h
  · exact ⟨h1, .inl h2⟩
  · exact ⟨h1, .inr ⟨a, vs, h2, e _ _ h3, h4, IsL.mono e _ _ h5⟩⟩
/-- a slot: frozen data, or an object of one's own that may change (its parts are frozen); io: it was handed in; xc: the exception at a (its class cls, its dict at d) that the suite handles -/
inductive Ent where
  | fz (d : D) | ow (io : Bool) (d : D) | xc (a : Addr) (cls : Value) (d : Option Addr) (x : Exn)
abbrev En := List (Option Ent)

/-- the object at a holds d, its parts frozen -/
def OwAt (K : KW) (F H : Hp) (a : Addr) : D → Prop
  | .lst ds => ∃ vs, H a = some (.lst vs) ∧ IsL K F ds vs
  | .obj C ns ds => ∃ dx vs, H a = some (.ins (He.ga K C) dx (fieldsV ns vs)) ∧ ns.length = ds.length ∧ IsL K F ds vs
  | .dct ds es => ∃ ks kvs us, H a = some (.ext (DkΦ K.w a ks kvs us)) ∧ (a == sysModules) = false ∧ KeysOk ds ks ∧ IsL K F ds kvs ∧ IsL K F es us
  | _ => False

/-- the ghost: the frozen part and the heap at the entry; what must stay as it was (P); the objects handed in to be changed: slot, address -/
structure Gh where
  F0 : Hp
  H0 : Hp
  P : Addr → Prop
  io : List (Nat × Addr)
  /-- the slot of the exception that the suite handles -/
  xi : List Nat := []

structure Rel (K : KW) (G : Gh) (F H : Hp) (σ : L2.St) (en : En) : Prop where
  le : Same F H
  f0 : Same G.F0 F
  pr : ∀ a, G.P a → H a = G.H0 a ∧ G.H0 a ≠ none ∧ (G.F0 a = none → F a = none)
  io : ∀ p ∈ G.io, H p.2 ≠ none ∧ F p.2 = none
  len : σ.length = en.length
  fz : ∀ (i : Nat) d, en[i]? = some (some (Ent.fz d)) → ∃ v, σ[i]? = some (some v) ∧ Is K F d v
  ow : ∀ (i : Nat) b d, en[i]? = some (some (Ent.ow b d)) → ∃ a, σ[i]? = some (some (V.ref a)) ∧ F a = none ∧ OwAt K F H a d ∧ ¬ G.P a ∧ (b = false → ∀ p ∈ G.io, p.2 ≠ a) ∧ (b = true → (i, a) ∈ G.io)
  sep : ∀ (i j : Nat) b c d e a, en[i]? = some (some (Ent.ow b d)) → en[j]? = some (some (Ent.ow c e)) → σ[i]? = some (some (V.ref a)) → σ[j]? = some (some (V.ref a)) → i = j
  xc : ∀ (i : Nat) a cls d x, en[i]? = some (some (Ent.xc a cls d x)) → i ∈ G.xi ∧ σ[i]? = some (some (V.ref a)) ∧ ExR K F x cls d

theorem OwAt.there {K : KW} {F H : Hp} {a : Addr} : ∀ {d : D}, OwAt K F H a d → H a ≠ none
  | .lst _, ⟨_, e, _⟩ => by rw [e]; simp
  | .obj _ _ _, ⟨_, _, e, _⟩ => by rw [e]; simp
  | .dct _ _, ⟨_, _, _, e, _⟩ => by rw [e]; simp
  | .non, h => h.elim
  | .bl _, h => h.elim
  | .int _, h => h.elim
  | .str _, h => h.elim
  | .tup _, h => h.elim
  | .lck _, h => h.elim
theorem OwAt.move {K : KW} {F H F' H' : Hp} {a : Addr} (e : Same F F') (h : H' a = H a) : ∀ {d : D}, OwAt K F H a d → OwAt K F' H' a d
  | .lst _, ⟨vs, k, l⟩ => ⟨vs, h.trans k, IsL.mono e _ _ l⟩
  | .obj _ _ _, ⟨dx, vs, k, n, l⟩ => ⟨dx, vs, h.trans k, n, IsL.mono e _ _ l⟩
  | .dct _ _, ⟨ks, kvs, us, k, n, ok, l, m⟩ => ⟨ks, kvs, us, h.trans k, n, ok, IsL.mono e _ _ l, IsL.mono e _ _ m⟩
  | .non, h => h.elim
  | .bl _, h => h.elim
  | .int _, h => h.elim
  | .str _, h => h.elim
  | .tup _, h => h.elim
  | .lck _, h => h.elim
/-! ### dicts are locked when they are frozen -/
inductive Lk (Φ : Hp → Prop) : Hp → Prop
  | done {H : Hp} : Φ H → Lk Φ H
  | lock {H : Hp} {a : Addr} {φ : Heap → Prop} : H a = some (.ext φ) → (∀ o, (∃ h : Heap, h.get? a = some o ∧ φ h) → Lk Φ (upd H a (.frz o (.ext φ)))) → Lk Φ H
theorem Lk.mono {Φ Ψ : Hp → Prop} {H : Hp} (h : Lk Φ H) (k : ∀ H, Φ H → Ψ H) : Lk Ψ H := by
  induction h with
  | done h => exact .done (k _ h)
  | lock e _ ih => exact .lock e ih
def tG (te : TE) : TE := fun σ H Q => te σ H fun v H' => Lk (Q v) H'
theorem lk_inv {X : Cx} {pins : List (Addr × Obj)} {σ : L2.St} {s : Shared} {Φ : Hp → Prop} {H : Hp} (h : Lk Φ H) : L2.Inv X pins σ H s → ∃ H', L2.Inv X pins σ H' s ∧ Φ H' := by
  induction h with
  | done h => exact fun I => ⟨_, I, h⟩
  | @lock H a φ e k ih =>
    intro I
    obtain ⟨p, ⟨o, g⟩, st⟩ := I.hok a _ e
    obtain ⟨od, I2⟩ := I.lock e trivial
    have g2 := (I2.hok a _ upd_same).1
    rw [g] at g2
    cases g2
    exact ih o ⟨_, g, p⟩ I2
theorem pe_G {X : Cx} {e : Expr} {te : TE} (h : PE X e te) : PE X e (tG te) := ⟨fun pins s σ H Q I q => thn (h.run pins s σ H _ I q) fun u s1 ⟨v, H1, I1, r, q1⟩ => by
  obtain ⟨H2, I2, q2⟩ := lk_inv q1 I1
  exact ⟨v, H2, I2, r, q2⟩⟩
/-- what an own object holds, frozen -/
theorem OwAt.freeze {K : KW} {F H : Hp} {a : Addr} {Φ : Hp → Prop} : ∀ {d : D}, F a = none → OwAt K F H a d → (∀ H2 u, (∀ b, b ≠ a → H2 b = H b) → H2 a = some u → Is K (upd F a u) d (.ref a) → Φ H2) → Lk Φ H
  | .lst ds, n, ⟨vs, k, l⟩, g => .done (g H _ (fun _ _ => rfl) k ⟨a, vs, rfl, upd_same, IsL.mono (fun b o e => by rw [upd_ne (ne_of_none e n)]; exact e) _ _ l⟩)
  | .obj C ns ds, n, ⟨dx, vs, k, m, l⟩, g => .done (g H _ (fun _ _ => rfl) k ⟨a, dx, vs, rfl, upd_same, m, IsL.mono (fun b o e => by rw [upd_ne (ne_of_none e n)]; exact e) _ _ l⟩)
  | .dct ds es, n, ⟨ks, kvs, us, k, m, ok, l, l2⟩, g => .lock k fun o ho => .done (g _ _ (fun b hb => upd_ne hb) upd_same (by
      obtain ⟨h, e1, o2, e2, d2⟩ := ho
      rw [e1] at e2
      cases e2
      have hs : Same F (upd F a (.frz o (.ext (DkΦ K.w a ks kvs us)))) := fun b o e => by rw [upd_ne (ne_of_none e n)]; exact e
      exact ⟨a, o, _, ks, kvs, us, rfl, upd_same, m, d2, ok, IsL.mono hs _ _ l, IsL.mono hs _ _ l2⟩))
  | .non, _, h, _ => h.elim
  | .bl _, _, h, _ => h.elim
  | .int _, _, h, _ => h.elim
  | .str _, _, h, _ => h.elim
  | .tup _, _, h, _ => h.elim
  | .lck _, _, h, _ => h.elim

section
variable {K : KW} {G : Gh} {F F' H H' : Hp} {σ : L2.St} {en en' : En} {i : Nat} {d : D}
theorem same_upd {F : Hp} {p : Addr} {o : HO} (h : F p = none) : Same F (upd F p o) := fun b u e => by rw [upd_ne (ne_of_none e h)]; exact e
theorem upd_mono {F H : Hp} {p : Addr} {o : HO} (e : Same F H) : Same (upd F p o) (upd H p o) := fun b u k => by
  by_cases h : b = p
  · subst h; rw [upd_same] at k ⊢; exact k
  · rw [upd_ne h] at k ⊢; exact e _ _ k
theorem Rel.free (R : Rel K G F H σ en) {p : Addr} (h : H p = none) : F p = none := R.le.free h
theorem Rel.free0 (R : Rel K G F H σ en) {p : Addr} (h : H p = none) : ¬ G.P p ∧ ∀ q ∈ G.io, q.2 ≠ p :=
  ⟨fun z => by
    obtain ⟨h1, h2, _⟩ := R.pr p z
    rw [h] at h1
    exact h2 h1.symm, fun q hq e => (R.io q hq).1 (by rw [e]; exact h)⟩
theorem xc_set {en : En} {i j : Nat} {e : Option Ent} {a : Addr} {cls : Value} {d : Option Addr} {x : Exn} (h : (en.set i e)[j]? = some (some (Ent.xc a cls d x))) (n : e ≠ some (Ent.xc a cls d x)) : en[j]? = some (some (Ent.xc a cls d x)) := by
  by_cases z : j = i
  · subst z
    have hlt := (List.getElem?_eq_some_iff.mp h).1
    rw [List.length_set] at hlt
    rw [List.getElem?_set_self hlt] at h
    exact absurd (Option.some.inj h) n
  · rw [List.getElem?_set_ne (fun q => z q.symm)] at h
    exact h
/-- THE STEP: the frozen part grows by what is new, all but the own objects at M stays; the slots go to en' -/
theorem Rel.step (R : Rel K G F H σ en) (M : Addr → Prop) (hF : Same F F') (hL : Same F' H') (hN : ∀ a, F a = none → F' a ≠ none → H a = none ∨ (¬ G.P a ∧ (∀ p ∈ G.io, p.2 ≠ a) ∧ ∀ (j : Nat) b e, en'[j]? = some (some (Ent.ow b e)) → σ[j]? ≠ some (some (V.ref a))))
    (hK : ∀ a o, H a = some o → ¬ M a → H' a = some o) (hM : ∀ a, M a → ¬ G.P a ∧ H' a ≠ none) (hlen : en'.length = en.length)
    (hfz : ∀ (i : Nat) d, en'[i]? = some (some (Ent.fz d)) → en[i]? = some (some (Ent.fz d)) ∨ ∃ v, σ[i]? = some (some v) ∧ Is K F' d v)
    (how : ∀ (i : Nat) b d, en'[i]? = some (some (Ent.ow b d)) → ∃ a e, σ[i]? = some (some (V.ref a)) ∧ en[i]? = some (some (Ent.ow b e)) ∧ OwAt K F' H' a d)
    (hxc : ∀ (i : Nat) a c d x, en'[i]? = some (some (Ent.xc a c d x)) → en[i]? = some (some (Ent.xc a c d x)) := by intro i a c d x h; first | exact h | exact xc_set h (fun q => nomatch q)) : Rel K G F' H' σ en' where
  le := hL
  f0 := fun a o e => hF a o (R.f0 a o e)
  pr := fun a z => by
    obtain ⟨h1, h2, h3⟩ := R.pr a z
    refine ⟨?_, h2, fun h0 => ?_⟩
    · cases q : G.H0 a with
      | none => exact absurd q h2
      | some o => exact hK a o (by rw [h1, q]) fun m => (hM a m).1 z
    · cases q : F' a with
      | none => rfl
      | some o =>
        rcases hN a (h3 h0) (by rw [q]; simp) with y | ⟨y, _⟩
        · exact absurd z (R.free0 y).1
        · exact absurd z y
  io := fun p hp => by
    obtain ⟨h1, h2⟩ := R.io p hp
    constructor
    · by_cases m : M p.2
      · exact (hM _ m).2
      · cases q : H p.2 with
        | none => exact absurd q h1
        | some o => rw [hK _ _ q m]; simp
    · cases q : F' p.2 with
      | none => rfl
      | some o =>
        rcases hN p.2 h2 (by rw [q]; simp) with z | ⟨_, z, _⟩
        · exact absurd z h1
        · exact absurd rfl (z p hp)
  len := by rw [hlen]; exact R.len
  fz := fun i d e => by
    rcases hfz i d e with e | e
    · obtain ⟨v, h1, h2⟩ := R.fz i d e
      exact ⟨v, h1, Is.mono hF _ _ h2⟩
    · exact e
  ow := fun i b d e => by
    obtain ⟨a, e0, h1, h2, h3⟩ := how i b d e
    obtain ⟨a', k1, k2, k3, k4, k5⟩ := R.ow i b e0 h2
    rw [h1] at k1
    cases k1
    refine ⟨a, h1, ?_, h3, k4, k5⟩
    cases q : F' a with
    | none => rfl
    | some o =>
      rcases hN a k2 (by rw [q]; simp) with z | ⟨_, _, z⟩
      · exact absurd z k3.there
      · exact absurd h1 (z i b d e)
  sep := fun i j b c d e a h1 h2 h3 h4 => by
    obtain ⟨_, d0, _, k1, _⟩ := how i b d h1
    obtain ⟨_, e0, _, k2, _⟩ := how j c e h2
    exact R.sep i j b c d0 e0 a k1 k2 h3 h4
  xc := fun i a c d x e => by
    obtain ⟨h1, h2, h3⟩ := R.xc i a c d x (hxc i a c d x e)
    exact ⟨h1, h2, h3.mono hF⟩
/-- from here on what is frozen now stays so -/
theorem Rel.fwd {F1 H1 : Hp} {σ1 : L2.St} {en1 : En} (R1 : Rel K G F1 H1 σ1 en1) (R : Rel K G F H σ en) (e : Same F1 F) : Rel K { G with F0 := F1 } F H σ en :=
  { R with
    f0 := e
    pr := fun a z => ⟨(R.pr a z).1, (R.pr a z).2.1, fun h => (R.pr a z).2.2 (R1.f0.free h)⟩ }
theorem Rel.bwd {F1 H1 : Hp} {σ1 : L2.St} {en1 : En} (R1 : Rel K G F1 H1 σ1 en1) (R : Rel K { G with F0 := F1 } F H σ en) : Rel K G F H σ en :=
  { R with
    f0 := R1.f0.trans R.f0
    pr := fun a z => ⟨(R.pr a z).1, (R.pr a z).2.1, fun h => (R.pr a z).2.2 ((R1.pr a z).2.2 h)⟩ }
theorem OwAt.new (h : Same F F') (k : ∀ a o, H a = some o → H' a = some o) {a : Addr} (x : OwAt K F H a d) : OwAt K F' H' a d :=
  x.move h (by
    cases q : H a with
    | none => exact absurd q x.there
    | some u => exact k _ _ q)
/-- a new object, frozen at once -/
theorem Rel.laid (R : Rel K G F H σ en) {p : Addr} {o : HO} (h : H p = none) : Rel K G (upd F p o) (upd H p o) σ en := by
  have hF := R.free h
  refine R.step (fun _ => False) (same_upd hF) (upd_mono R.le) (fun a h1 h2 => ?_) (fun a u e _ => same_upd h a u e) (fun _ z => z.elim) rfl (fun i d e => .inl e) fun i b d e => ?_
  · by_cases q : a = p
    · subst q; exact .inl h
    · rw [upd_ne q] at h2; exact absurd h1 h2
  · obtain ⟨a, h1, h2, h3, _⟩ := R.ow i b d e
    exact ⟨a, d, h1, e, h3.new (same_upd hF) (same_upd h)⟩
/-- the heap has grown -/
theorem Rel.grow (R : Rel K G F H σ en) (h : Same H H') : Rel K G F H' σ en := by
  refine R.step (fun _ => False) (Same.refl F) (R.le.trans h) (fun a h1 h2 => absurd h1 h2) (fun a u e _ => h _ _ e) (fun _ z => z.elim) rfl (fun i d e => .inl e) fun i b d e => ?_
  obtain ⟨a, h1, h2, h3, _⟩ := R.ow i b d e
  exact ⟨a, d, h1, e, h3.new (Same.refl F) h⟩
/-- a new object that is not frozen -/
theorem Rel.fresh (R : Rel K G F H σ en) {p : Addr} {o : HO} (h : H p = none) : Rel K G F (upd H p o) σ en := R.grow (same_upd h)

/-- an object of one's own that no slot holds yet -/
structure Tmp (K : KW) (G : Gh) (F H : Hp) (σ : L2.St) (en : En) (a : Addr) (d : D) : Prop where
  nf : F a = none
  at_ : OwAt K F H a d
  n0 : ¬ G.P a ∧ ∀ p ∈ G.io, p.2 ≠ a
  ns : ∀ (i : Nat) b e, en[i]? = some (some (Ent.ow b e)) → σ[i]? ≠ some (some (V.ref a))
theorem Tmp.of (R : Rel K G F H σ en) {p : Addr} {o : HO} (h : H p = none) (k : OwAt K F (upd H p o) p d) : Tmp K G F (upd H p o) σ en p d where
  nf := R.free h
  at_ := k
  n0 := R.free0 h
  ns := fun i b e h1 h2 => by
    obtain ⟨a, k1, _, k3, _⟩ := R.ow i b e h1
    rw [h2] at k1
    cases k1
    exact k3.there h
/-- such an object is frozen -/
theorem Tmp.freeze {a : Addr} {Φ : Hp → Prop} (R : Rel K G F H σ en) (T : Tmp K G F H σ en a d) (g : ∀ F2 H2, Same F F2 → Rel K G F2 H2 σ en → Is K F2 d (.ref a) → Φ H2) : Lk Φ H := by
  refine T.at_.freeze T.nf fun H2 u e1 e2 h7 => g _ H2 (same_upd T.nf) ?_ h7
  refine R.step (fun z => z = a) (same_upd T.nf) (fun b u' e => ?_) (fun b k1 k2 => ?_) (fun b u' e m => (e1 b m).trans e) (fun b z => by subst z; exact ⟨T.n0.1, by rw [e2]; simp⟩) rfl (fun j e k => .inl k) fun j b e k => ?_
  · by_cases q : b = a
    · subst q; rw [upd_same] at e; cases e; exact e2
    · rw [upd_ne q] at e; rw [e1 b q]; exact R.le _ _ e
  · by_cases q : b = a
    · subst q; exact .inr ⟨T.n0.1, T.n0.2, T.ns⟩
    · rw [upd_ne q] at k2; exact absurd k1 k2
  · obtain ⟨b', k1, k2, k3, _⟩ := R.ow j b e k
    exact ⟨b', e, k1, k, OwAt.move (same_upd T.nf) (e1 _ fun z => by subst z; exact T.ns j b e k k1) k3⟩
theorem get_lt {α : Type} {l : List α} {i : Nat} {x : α} (h : l[i]? = some x) : i < l.length := (List.getElem?_eq_some_iff.mp h).1
/-- an own slot given up -/
theorem Rel.drop (R : Rel K G F H σ en) (x : Option Ent) (hx : ∀ b e, x ≠ some (Ent.ow b e)) (hz : ∀ e, x = some (Ent.fz e) → ∃ v, σ[i]? = some (some v) ∧ Is K F e v) (hc : ∀ a c d y, x ≠ some (Ent.xc a c d y) := by exact fun _ _ _ _ q => nomatch q) : Rel K G F H σ (en.set i x) := by
  refine R.step (fun _ => False) (Same.refl F) R.le (fun b k1 k2 => absurd k1 k2) (fun b u e _ => e) (fun _ z => z.elim) (by simp) (fun j e k => ?_) (fun j b e k => ?_) (fun j a c d y h => xc_set h (hc a c d y))
  · by_cases z : j = i
    · subst z
      have hlt := get_lt k
      rw [List.length_set] at hlt
      rw [List.getElem?_set_self hlt] at k
      exact .inr (hz e (Option.some.inj k))
    · rw [List.getElem?_set_ne (fun q => z q.symm)] at k
      exact .inl k
  · by_cases z : j = i
    · subst z
      have hlt := get_lt k
      rw [List.length_set] at hlt
      rw [List.getElem?_set_self hlt] at k
      exact absurd (Option.some.inj k) (hx b e)
    · rw [List.getElem?_set_ne (fun q => z q.symm)] at k
      obtain ⟨b', k1, k2, k3, _⟩ := R.ow j b e k
      exact ⟨b', e, k1, k, k3⟩
/-- an own slot is frozen -/
theorem Rel.freeze {Φ : Hp → Prop} (R : Rel K G F H σ en) (h : en[i]? = some (some (Ent.ow false d))) (g : ∀ a F2 H2, σ[i]? = some (some (V.ref a)) → Same F F2 → Rel K G F2 H2 σ (en.set i (some (Ent.fz d))) → Is K F2 d (.ref a) → Φ H2) : Lk Φ H := by
  obtain ⟨a, h1, h2, h3, h4, h5, _⟩ := R.ow i false d h
  have hlt := get_lt h
  have R1 : Rel K G F H σ (en.set i none) := R.drop none (fun _ _ q => nomatch q) fun _ q => nomatch q
  have T : Tmp K G F H σ (en.set i none) a d := ⟨h2, h3, ⟨h4, h5 rfl⟩, fun j b e k1 k2 => by
    by_cases z : j = i
    · subst z
      rw [List.getElem?_set_self hlt] at k1
      cases k1
    · rw [List.getElem?_set_ne (fun q => z q.symm)] at k1
      exact z (R.sep j i b false e d a k1 h k2 h1)⟩
  refine T.freeze R1 fun F2 H2 k2 R2 k1 => g a F2 H2 h1 k2 ?_ k1
  have R3 := R2.drop (i := i) (some (Ent.fz d)) (fun _ _ q => nomatch q) fun e q => by
    cases q
    exact ⟨_, h1, k1⟩
  rwa [List.set_set] at R3
/-- an own object changes -/
theorem Rel.write (R : Rel K G F H σ en) {b : Bool} {a : Addr} {o : HO} {e : D} (h : en[i]? = some (some (Ent.ow b d))) (hs : σ[i]? = some (some (V.ref a))) (k : OwAt K F (upd H a o) a e) : Rel K G F (upd H a o) σ (en.set i (some (Ent.ow b e))) := by
  obtain ⟨a', h1, h2, h3, h4, _⟩ := R.ow i b d h
  rw [hs] at h1
  cases h1
  have hlt := get_lt h
  refine R.step (fun z => z = a) (Same.refl F) (fun c u q => ?_) (fun c k1 k2 => absurd k1 k2) (fun c u q m => by rw [upd_ne m]; exact q) (fun c z => by subst z; exact ⟨h4, by rw [upd_same]; simp⟩) (by simp) (fun j f q => ?_) fun j c f q => ?_
  · by_cases z : c = a
    · subst z; rw [h2] at q; cases q
    · rw [upd_ne z]; exact R.le _ _ q
  · by_cases z : j = i
    · subst z; rw [List.getElem?_set_self hlt] at q; cases q
    · rw [List.getElem?_set_ne (fun q => z q.symm)] at q; exact .inl q
  · by_cases z : j = i
    · subst z
      rw [List.getElem?_set_self hlt] at q
      cases q
      exact ⟨a, d, hs, h, k⟩
    · rw [List.getElem?_set_ne (fun q => z q.symm)] at q
      obtain ⟨a2, q1, q2, q3, _⟩ := R.ow j c f q
      refine ⟨a2, f, q1, q, q3.move (Same.refl F) (upd_ne fun z2 => ?_)⟩
      subst z2
      exact z (R.sep j i c b f d a2 q h q1 hs)
/-- a value goes into a slot -/
theorem Rel.put (R : Rel K G F H σ en) {v : V} (hv : Is K F d v) : Rel K G F H (σ.set i (some v)) (en.set i (some (Ent.fz d))) where
  le := R.le
  f0 := R.f0
  pr := R.pr
  io := R.io
  len := by rw [List.length_set, List.length_set]; exact R.len
  fz := fun j e k => by
    have hlt := get_lt k
    rw [List.length_set] at hlt
    by_cases z : j = i
    · subst z
      rw [List.getElem?_set_self hlt] at k
      cases k
      exact ⟨v, List.getElem?_set_self (by rw [R.len]; exact hlt), hv⟩
    · rw [List.getElem?_set_ne (fun q => z q.symm)] at k
      rw [List.getElem?_set_ne (fun q => z q.symm)]
      exact R.fz j e k
  ow := fun j b e k => by
    have hlt := get_lt k
    rw [List.length_set] at hlt
    by_cases z : j = i
    · subst z
      rw [List.getElem?_set_self hlt] at k
      cases k
    · rw [List.getElem?_set_ne (fun q => z q.symm)] at k
      rw [List.getElem?_set_ne (fun q => z q.symm)]
      exact R.ow j b e k
  sep := fun j l b c e f a k1 k2 k3 k4 => by
    have hlt := get_lt k1
    have hlt2 := get_lt k2
    rw [List.length_set] at hlt hlt2
    by_cases z : j = i
    · subst z; rw [List.getElem?_set_self hlt] at k1; cases k1
    · by_cases z2 : l = i
      · subst z2; rw [List.getElem?_set_self hlt2] at k2; cases k2
      · rw [List.getElem?_set_ne (fun q => z q.symm)] at k1 k3
        rw [List.getElem?_set_ne (fun q => z2 q.symm)] at k2 k4
        exact R.sep j l b c e f a k1 k2 k3 k4
  xc := fun j a c d x k => by
    have k0 := xc_set k (fun q => nomatch q)
    obtain ⟨h1, h2, h3⟩ := R.xc j a c d x k0
    refine ⟨h1, ?_, h3⟩
    by_cases z : j = i
    · subst z
      rw [List.getElem?_set_self (get_lt k0)] at k
      cases k
    · rw [List.getElem?_set_ne (fun q => z q.symm)]
      exact h2
/-- an object of one's own goes into a slot -/
theorem Rel.putO (R : Rel K G F H σ en) {a : Addr} (T : Tmp K G F H σ en a d) : Rel K G F H (σ.set i (some (.ref a))) (en.set i (some (Ent.ow false d))) where
  le := R.le
  f0 := R.f0
  pr := R.pr
  io := R.io
  len := by rw [List.length_set, List.length_set]; exact R.len
  fz := fun j e k => by
    have hlt := get_lt k
    rw [List.length_set] at hlt
    by_cases z : j = i
    · subst z
      rw [List.getElem?_set_self hlt] at k
      cases k
    · rw [List.getElem?_set_ne (fun q => z q.symm)] at k
      rw [List.getElem?_set_ne (fun q => z q.symm)]
      exact R.fz j e k
  ow := fun j b e k => by
    have hlt := get_lt k
    rw [List.length_set] at hlt
    by_cases z : j = i
    · subst z
      rw [List.getElem?_set_self hlt] at k
      cases k
      exact ⟨a, List.getElem?_set_self (by rw [R.len]; exact hlt), T.nf, T.at_, T.n0.1, fun _ => T.n0.2, fun q => nomatch q⟩
    · rw [List.getElem?_set_ne (fun q => z q.symm)] at k
      rw [List.getElem?_set_ne (fun q => z q.symm)]
      exact R.ow j b e k
  sep := fun j l b c e f a2 k1 k2 k3 k4 => by
    have hlt := get_lt k1
    have hlt2 := get_lt k2
    rw [List.length_set] at hlt hlt2
    by_cases z : j = i
    · by_cases z2 : l = i
      · rw [z, z2]
      · subst z
        rw [List.getElem?_set_self (by rw [R.len]; exact hlt)] at k3
        rw [List.getElem?_set_ne (fun q => z2 q.symm)] at k2 k4
        cases k3
        exact absurd k4 (T.ns l c f k2)
    · by_cases z2 : l = i
      · subst z2
        rw [List.getElem?_set_self (by rw [R.len]; exact hlt2)] at k4
        rw [List.getElem?_set_ne (fun q => z q.symm)] at k1 k3
        cases k4
        exact absurd k3 (T.ns j b e k1)
      · rw [List.getElem?_set_ne (fun q => z q.symm)] at k1 k3
        rw [List.getElem?_set_ne (fun q => z2 q.symm)] at k2 k4
        exact R.sep j l b c e f a2 k1 k2 k3 k4
  xc := fun j a c d x k => by
    have k0 := xc_set k (fun q => nomatch q)
    obtain ⟨h1, h2, h3⟩ := R.xc j a c d x k0
    refine ⟨h1, ?_, h3⟩
    by_cases z : j = i
    · subst z
      rw [List.getElem?_set_self (get_lt k0)] at k
      cases k
    · rw [List.getElem?_set_ne (fun q => z q.symm)]
      exact h2
end
end DL

/-! The D layer: dicts with keys of any plain kind. -/
namespace DL
open PySem L2

/-! ### lists of keys and of values -/
def lkp {α : Type} : List NestedKey → List α → NestedKey → Option α
  | k' :: ks, v :: vs, k => if k' = k then some v else lkp ks vs k
  | _, _, _ => none
def putL {α : Type} : List NestedKey → List α → NestedKey → α → List α
  | k' :: ks, v :: vs, k, x => if k' = k then x :: vs else v :: putL ks vs k x
  | _, vs, _, x => vs ++ [x]
def putN (ks : List NestedKey) (k : NestedKey) : List NestedKey := if k ∈ ks then ks else ks ++ [k]
def putV {α : Type} (ks : List NestedKey) (kvs : List α) (k : NestedKey) (kv : α) : List α := if k ∈ ks then kvs else kvs ++ [kv]

/-- a kind of keys told by value -/
structure FK {P : Program} {w : World} {κ : Type} [DecidableEq κ] (knd : KeyKind P w κ) where
  nk : κ → NestedKey
  kv : κ → V
  good : κ → Prop
  inj : ∀ {a b}, nk a = nk b → a = b
  rel : ∀ {k u}, good k → (knd.is k u = true ↔ RelV (kv k) u)
  hash : ∀ k, knd.hash k = (nk k).hash w

section
variable {P : Program} {w : World} {κ : Type} [DecidableEq κ] {knd : KeyKind P w κ}
theorem ents_to (f : FK knd) : ∀ {es : List DictEntry} {ks : List NestedKey} {kvs us : List V}, Ents w es ks kvs us → ∀ xs : List κ, ks = xs.map f.nk → kvs = xs.map f.kv → (∀ x ∈ xs, f.good x) →
    ∃ vs : List (κ × Value), Pairs knd es vs ∧ vs.map (·.1) = xs ∧ Vals us (vs.map (·.2)) ∧ ∀ e ∈ es, ∃ k, knd.is k e.key = true ∧ e.hash = knd.hash k := by
  intro es ks kvs us h
  induction h with
  | nil =>
    intro xs e1 e2 g
    have : xs = [] := by
      cases xs with
      | nil => rfl
      | cons _ _ => cases e1
    subst this
    exact ⟨[], .nil, rfl, .nil, fun e h => nomatch h⟩
  | @cons e es k ks kv v kvs vs h1 h2 h3 _ ih =>
    intro xs e1 e2 g
    cases xs with
    | nil => cases e1
    | cons x xs =>
      rw [List.map_cons] at e1 e2
      injection e1 with e1 e1'
      injection e2 with e2 e2'
      subst e1 e2
      obtain ⟨vs', a1, a2, a3, a4⟩ := ih xs e1' e2' fun y hy => g y (List.mem_cons_of_mem _ hy)
      have hx := (f.rel (g x (List.mem_cons_self ..))).mpr h2
      refine ⟨(x, e.val) :: vs', .cons hx rfl a1, by simp [a2], .cons h3 a3, fun e' he => ?_⟩
      rcases List.mem_cons.mp he with rfl | he
      · exact ⟨x, hx, by rw [h1, f.hash]⟩
      · exact a4 e' he
theorem FK.dictOf (f : FK knd) {h : Heap} {a : Addr} {o : Obj} {ks : List NestedKey} {kvs us : List V} (ho : h.get? a = some o) (d : DictObj w o ks kvs us) (xs : List κ) (e1 : ks = xs.map f.nk) (e2 : kvs = xs.map f.kv) (g : ∀ x ∈ xs, f.good x) :
    ∃ vs : List (κ × Value), h.DictOf knd a vs ∧ vs.map (·.1) = xs ∧ Vals us (vs.map (·.2)) := by
  obtain ⟨hx, ⟨es, ep, hd, en⟩, nd⟩ := d
  obtain ⟨vs, a1, a2, a3, a4⟩ := ents_to f en xs e1 e2 g
  refine ⟨vs, ⟨o, es, ep, ho, hx, hd, fun e he => a4 e (by simpa using he), a1, ?_⟩, a2, a3⟩
  rw [a2]
  rw [e1] at nd
  exact List.Pairwise.of_map f.nk (fun a b hab e => hab (by rw [e])) nd
theorem ents_of (f : FK knd) : ∀ {es : List DictEntry} {vs : List (κ × Value)}, Pairs knd es vs → (∀ e ∈ es, ∃ k, knd.is k e.key = true ∧ e.hash = knd.hash k) → (∀ x ∈ vs.map (·.1), f.good x) → ∀ us, Vals us (vs.map (·.2)) → Ents w es (vs.map fun v => f.nk v.1) (vs.map fun v => f.kv v.1) us := by
  intro es vs h
  induction h with
  | nil => intro _ _ us hu; cases hu; exact .nil
  | @cons e kv es kvs h1 h2 _ ih =>
    intro hk g us hu
    rw [List.map_cons] at hu
    cases hu with
    | cons r rs =>
      obtain ⟨k, k1, k2⟩ := hk e (List.mem_cons_self ..)
      have := knd.inj _ _ _ k1 h1
      subst this
      refine .cons (by rw [k2, f.hash]) ((f.rel (g _ (by simp))).mp h1) (by rw [h2]; exact r) (ih (fun e he => hk e (List.mem_cons_of_mem _ he)) (fun x hx => g x (by rw [List.map_cons]; exact List.mem_cons_of_mem _ hx)) _ rs)
theorem FK.back (f : FK knd) {h : Heap} {a : Addr} {vs : List (κ × Value)} (d : h.DictOf knd a vs) (g : ∀ x ∈ vs.map (·.1), f.good x) {us : List V} (r : Vals us (vs.map (·.2))) : DkΦ w a (vs.map fun v => f.nk v.1) (vs.map fun v => f.kv v.1) us h := by
  obtain ⟨o, es, ep, ho, hx, hd, hk, hp, nd⟩ := d
  refine ⟨o, ho, hx, ⟨es, ep, hd, ents_of f hp (fun e he => hk e (by simpa using he)) g us r⟩, ?_⟩
  have e : (vs.map fun v => f.nk v.1) = (vs.map (·.1)).map f.nk := by rw [List.map_map]; rfl
  rw [e]
  exact List.Pairwise.map f.nk (fun a b hab e => hab (f.inj e)) nd
theorem FK.lkp (f : FK knd) (k : κ) : ∀ (vs : List (κ × Value)) (us : List V), Vals us (vs.map (·.2)) → RelO (lkp (vs.map fun v => f.nk v.1) us (f.nk k)) (valueAt vs k)
  | [], us, r => by cases r; exact True.intro
  | v :: vs, us, r => by
    rw [List.map_cons] at r
    cases r with
    | cons r rs =>
      have ih := FK.lkp f k vs _ rs
      by_cases e : v.1 = k
      · have e2 : valueAt (v :: vs) k = some v.2 := by simp [valueAt, e]
        rw [e2, List.map_cons, DL.lkp, if_pos (by rw [e])]
        exact r
      · have e2 : valueAt (v :: vs) k = valueAt vs k := by simp [valueAt, e]
        rw [e2, List.map_cons, DL.lkp, if_neg (fun z => e (f.inj z))]
        exact ih
theorem FK.mem (f : FK knd) {vs : List (κ × Value)} {k : κ} : f.nk k ∈ (vs.map fun v => f.nk v.1) ↔ (vs.any fun kv => decide (kv.1 = k)) = true := by
  rw [List.any_eq_true, List.mem_map]
  constructor
  · rintro ⟨x, h1, h2⟩; exact ⟨x, h1, decide_eq_true (f.inj h2)⟩
  · rintro ⟨x, h1, h2⟩; exact ⟨x, h1, by rw [of_decide_eq_true h2]⟩
theorem putL_new {α : Type} {k : NestedKey} {x : α} : ∀ {ks : List NestedKey} {vs : List α}, k ∉ ks → putL ks vs k x = vs ++ [x]
  | [], vs, _ => by cases vs <;> rfl
  | _ :: _, [], _ => rfl
  | k' :: ks, v :: vs, h => by
    rw [List.mem_cons, not_or] at h
    rw [putL, if_neg (fun e => h.1 e.symm), putL_new h.2]
    rfl
theorem FK.put (f : FK knd) {k : κ} {v : Value} {x : V} (rx : RelV x v) (vs : List (κ × Value)) (us : List V) (r : Vals us (vs.map (·.2))) (nd : (vs.map (·.1)).Nodup) :
    ((stored vs k v).map fun v => f.nk v.1) = putN (vs.map fun v => f.nk v.1) (f.nk k) ∧ ((stored vs k v).map fun v => f.kv v.1) = putV (vs.map fun v => f.nk v.1) (vs.map fun v => f.kv v.1) (f.nk k) (f.kv k) ∧
    Vals (putL (vs.map fun v => f.nk v.1) us (f.nk k) x) ((stored vs k v).map (·.2)) ∧ ∀ y ∈ (stored vs k v).map (·.1), y = k ∨ y ∈ vs.map (·.1) := by
  unfold stored putN putV
  by_cases hm : (vs.any fun kv => decide (kv.1 = k)) = true
  · have hm' := f.mem.mpr hm
    rw [if_pos hm, if_pos hm', if_pos hm']
    refine ⟨?_, ?_, ?_, ?_⟩
    · rw [List.map_map]
      refine List.map_congr_left fun y _ => ?_
      by_cases e : y.1 = k <;> simp [e]
    · rw [List.map_map]
      refine List.map_congr_left fun y _ => ?_
      by_cases e : y.1 = k <;> simp [e]
    · clear hm'
      induction vs generalizing us with
      | nil => simp at hm
      | cons y vs ih =>
        rw [List.map_cons] at r
        rw [List.map_cons, List.nodup_cons] at nd
        cases r with
        | @cons u _ us _ r rs =>
          rw [List.map_cons]
          by_cases e : y.1 = k
          · have e2 : (vs.map fun kv => if kv.1 = k then (kv.1, v) else kv) = vs := map_store_of_not_mem vs k v (by rw [← e]; exact nd.1)
            rw [putL, if_pos (by rw [e]), List.map_cons, List.map_cons, if_pos e, e2]
            exact .cons rx rs
          · rw [putL, if_neg (fun z => e (f.inj z)), List.map_cons, List.map_cons, if_neg e]
            refine .cons r (ih us rs nd.2 ?_)
            simpa [e] using hm
    · intro y hy
      rw [List.map_map] at hy
      obtain ⟨z, h1, h2⟩ := List.mem_map.mp hy
      right
      refine List.mem_map.mpr ⟨z, h1, ?_⟩
      rw [← h2]
      by_cases e : z.1 = k <;> simp [e]
  · have hm' : f.nk k ∉ (vs.map fun v => f.nk v.1) := fun z => hm (f.mem.mp z)
    rw [if_neg hm, if_neg hm', if_neg hm', putL_new hm']
    refine ⟨by simp, by simp, ?_, fun y hy => ?_⟩
    · rw [List.map_append]
      exact r.append (.cons rx .nil)
    · rw [List.map_append, List.mem_append] at hy
      rcases hy with hy | hy
      · exact .inr hy
      · exact .inl (by simpa using hy)
end

/-- ints and texts -/
def nkM : Key → NestedKey
  | .inl i => .num i
  | .inr x => .text x
def fkM (P : Program) (w : World) : FK (mixKind P w) where
  nk := nkM
  kv := kV
  good := fun _ => True
  inj := fun {a b} e => by cases a <;> cases b <;> cases e <;> rfl
  rel := fun {k u} _ => ⟨fun h => relV_key h, fun h => kV_is (P := P) (w := w) h⟩
  hash := fun k => by cases k <;> rfl
/-- None and texts -/
def kvLf : Leaf → V
  | .none => .non
  | .num i => .int i
  | .text x => .str x
def fkL (P : Program) (w : World) : FK (leafKind P w) where
  nk := Leaf.key
  kv := kvLf
  good := fun k => match k with
    | .num _ => False
    | _ => True
  inj := fun {a b} e => by cases a <;> cases b <;> cases e <;> rfl
  rel := fun {k u} g => by
    cases k with
    | none => exact ⟨fun h => by cases u <;> first | rfl | exact absurd h Bool.false_ne_true, fun h => by cases h; rfl⟩
    | num i => exact g.elim
    | text x => exact ⟨fun h => by
        obtain ⟨t, e⟩ := Value.isStrOf_shape (show Value.isStrOf x u = true from h)
        exact ⟨t, e⟩, fun h => by
        obtain ⟨t, rfl⟩ := h
        show Value.isStrOf x (.str x t) = true
        simp [Value.isStrOf]⟩
  hash := fun k => rfl

/-! ### tuples as keys -/
section
variable {P : Program} {w : World}
theorem ents_toH : ∀ {es : List DictEntry} {ks : List NestedKey} {kvs us : List V}, Ents w es ks kvs us → ∀ as : List Addr, kvs = as.map V.ref → ∃ xs : List (NestedKey × Addr × Value), es = xs.map (entryOfKey (nestedKind P w)) ∧ xs.map (·.1) = ks ∧ xs.map (·.2.1) = as ∧ Vals us (xs.map (·.2.2)) := by
  intro es ks kvs us h
  induction h with
  | nil =>
    intro as e
    cases as with
    | nil => exact ⟨[], rfl, rfl, rfl, .nil⟩
    | cons _ _ => cases e
  | @cons e es k ks kv v kvs vs h1 h2 h3 _ ih =>
    intro as e1
    cases as with
    | nil => cases e1
    | cons a as =>
      rw [List.map_cons] at e1
      injection e1 with e1 e2
      subst e1
      obtain ⟨xs, a1, a2, a3, a4⟩ := ih as e2
      refine ⟨(k, a, e.val) :: xs, ?_, by simp [a2], by simp [a3], .cons h3 a4⟩
      rw [List.map_cons, ← a1]
      congr 1
      have : e.key = .ref a := h2
      cases e
      simp only at h1 this
      subst h1 this
      rfl
theorem ents_ofH : ∀ {xs : List (NestedKey × Addr × Value)} {us : List V}, Vals us (xs.map (·.2.2)) → Ents w (xs.map (entryOfKey (nestedKind P w))) (xs.map (·.1)) (xs.map fun x => V.ref x.2.1) us
  | [], us, r => by cases r; exact .nil
  | x :: xs, us, r => by
    rw [List.map_cons] at r
    cases r with
    | cons r rs => exact .cons rfl rfl r (ents_ofH rs)
theorem lkpH (k : NestedKey) : ∀ (xs : List (NestedKey × Addr × Value)) (us : List V), Vals us (xs.map (·.2.2)) → RelO (lkp (xs.map (·.1)) us k) ((atKey xs k).map (·.2))
  | [], us, r => by cases r; exact True.intro
  | x :: xs, us, r => by
    rw [List.map_cons] at r
    cases r with
    | cons r rs =>
      have ih := lkpH k xs _ rs
      by_cases e : x.1 = k
      · have e2 : atKey (x :: xs) k = some x.2 := by simp [atKey, e]
        rw [e2, List.map_cons, DL.lkp, if_pos e]
        exact r
      · have e2 : atKey (x :: xs) k = atKey xs k := by simp [atKey, e]
        rw [e2, List.map_cons, DL.lkp, if_neg e]
        exact ih
theorem memH {xs : List (NestedKey × Addr × Value)} {k : NestedKey} : k ∈ xs.map (·.1) ↔ (atKey xs k).isSome = true := by
  induction xs with
  | nil => simp [atKey]
  | cons x xs ih =>
    by_cases e : x.1 = k
    · simp [atKey, e]
    · have e2 : atKey (x :: xs) k = atKey xs k := by simp [atKey, e]
      rw [e2, List.map_cons, List.mem_cons, ← ih]
      constructor
      · rintro (h | h)
        · exact absurd h.symm e
        · exact h
      · exact .inr
theorem putH {k : NestedKey} {b : Addr} {v : Value} {x : V} (rx : RelV x v) (xs : List (NestedKey × Addr × Value)) (us : List V) (r : Vals us (xs.map (·.2.2))) (nd : (xs.map (·.1)).Nodup) :
    (storedH xs k b v).map (·.1) = putN (xs.map (·.1)) k ∧ ((storedH xs k b v).map fun x => V.ref x.2.1) = putV (xs.map (·.1)) (xs.map fun x => V.ref x.2.1) k (.ref b) ∧
    Vals (putL (xs.map (·.1)) us k x) ((storedH xs k b v).map (·.2.2)) := by
  unfold storedH putN putV
  by_cases hm : (atKey xs k).isSome = true
  · have hm' := memH.mpr hm
    rw [if_pos hm, if_pos hm', if_pos hm']
    refine ⟨keys_map_putAt xs k v, ?_, ?_⟩
    · rw [List.map_map]
      refine List.map_congr_left fun y _ => ?_
      by_cases e : y.1 = k <;> simp [putAt, e]
    · clear hm'
      induction xs generalizing us with
      | nil => simp [atKey] at hm
      | cons y xs ih =>
        rw [List.map_cons] at r
        rw [List.map_cons, List.nodup_cons] at nd
        cases r with
        | @cons u _ us _ r rs =>
          rw [List.map_cons]
          by_cases e : y.1 = k
          · rw [putL, if_pos e, List.map_cons, List.map_cons, map_putAt_of_not_mem xs k v (by rw [← e]; exact nd.1), putAt, if_pos e]
            exact .cons rx rs
          · rw [putL, if_neg e, List.map_cons, List.map_cons, putAt, if_neg e]
            refine .cons r (ih us rs nd.2 ?_)
            simpa [atKey, e] using hm
  · have hm' : k ∉ xs.map (·.1) := fun z => hm (memH.mp z)
    rw [if_neg hm, if_neg hm', if_neg hm', putL_new hm']
    refine ⟨by simp, by simp, ?_⟩
    rw [List.map_append]
    exact r.append (.cons rx .nil)
end

/-! ### keys as the heap has them -/
mutual
def KeyV (K : Fg) (H : Hp) : NestedKey → V → Prop
  | .none, v => v = .non
  | .num i, v => v = .int i
  | .text s, v => v = .str s
  | .tup ks, v => ∃ a vs, v = .ref a ∧ SqT K H a vs ∧ KeyVs K H ks vs
def KeyVs (K : Fg) (H : Hp) : List NestedKey → List V → Prop
  | [], vs => vs = []
  | k :: ks, vs => ∃ v r, vs = v :: r ∧ KeyV K H k v ∧ KeyVs K H ks r
end
mutual
theorem keyV_of {K : KW} {F H : Hp} (e : Same F H) : ∀ (d : D) (k : NestedKey) (v : V), nkD d = some k → Is K F d v → KeyV K H k v
  | .non, _, _, h, i => by cases h; cases i; exact rfl
  | .int _, _, _, h, i => by cases h; cases i; exact rfl
  | .str _, _, _, h, i => by cases h; cases i; exact rfl
  | .tup ds, _, _, h, ⟨a, vs, q, s, l⟩ => by
    unfold nkD at h
    cases hk : nkL ds with
    | none => rw [hk] at h; cases h
    | some ks =>
      rw [hk] at h
      cases h
      exact ⟨a, vs, q, SqT.same e s, keyVs_of e ds ks vs hk l⟩
  | .bl _, _, _, h, _ => nomatch h
  | .lst _, _, _, h, _ => nomatch h
  | .lck _, _, _, h, _ => nomatch h
  | .dct _ _, _, _, h, _ => nomatch h
  | .obj _ _ _, _, _, h, _ => nomatch h
theorem keyVs_of {K : KW} {F H : Hp} (e : Same F H) : ∀ (ds : List D) (ks : List NestedKey) (vs : List V), nkL ds = some ks → IsL K F ds vs → KeyVs K H ks vs
  | [], _, _, h, i => by cases h; cases i; exact rfl
  | d :: ds, _, _, h, ⟨v, r, q, i, l⟩ => by
    unfold nkL at h
    cases hk : nkD d with
    | none => rw [hk] at h; cases h
    | some k =>
      cases hl : nkL ds with
      | none => rw [hk, hl] at h; cases h
      | some ks =>
        rw [hk, hl] at h
        cases h
        exact ⟨v, r, q, keyV_of e d k v hk i, keyVs_of e ds ks r hl l⟩
end
section
variable {X : Cx} {pins : List (Addr × Obj)} {σ : L2.St} {H : Hp} {s : Shared}
mutual
theorem nested_of (I : L2.Inv X pins σ H s) : ∀ (k : NestedKey) (v : V) (u : Value), KeyV X.K H k v → RelV v u → NestedIs s.heap k u
  | .none, _, _, h, r => by cases h; cases r; exact .none
  | .num _, _, _, h, r => by cases h; obtain ⟨t, rfl⟩ := r; exact .int _ _
  | .text _, _, _, h, r => by cases h; obtain ⟨t, rfl⟩ := r; exact .text _ _
  | .tup ks, _, _, ⟨a, vs, q, s1, l⟩, r => by
    subst q
    cases r
    obtain ⟨its, rv, ⟨o, h1, h2, n, h3⟩, z⟩ := I.tuple s1
    exact .tup h1 h2 h3 (nesteds_of I ks vs its l rv)
theorem nesteds_of (I : L2.Inv X pins σ H s) : ∀ (ks : List NestedKey) (vs : List V) (us : List Value), KeyVs X.K H ks vs → Vals vs us → NestedAll s.heap ks us
  | [], _, _, h, r => by cases h; cases r; exact .nil
  | k :: ks, _, _, ⟨v, r, q, h, l⟩, rv => by
    subst q
    cases rv with
    | cons r1 rs => exact .cons (nested_of I k v _ h r1) (nesteds_of I ks r _ l rs)
end
end
def tupNK : NestedKey → Bool
  | .tup l => decide ((NestedKey.tup l).depth ≤ 8)
  | _ => false
/-- the key k, carried by kv, goes with the keys ks, carried by kvs -/
def Kfit (K : Fg) (H : Hp) (ks : List NestedKey) (kvs : List V) (k : NestedKey) (kv : V) : Prop :=
  (∃ (xs : List Key) (x : Key), ks = xs.map nkM ∧ kvs = xs.map kV ∧ k = nkM x ∧ kv = kV x) ∨
  (∃ (xs : List Leaf) (x : Leaf), (∀ y ∈ xs, ∀ i, y ≠ .num i) ∧ (∀ i, x ≠ .num i) ∧ ks = xs.map Leaf.key ∧ kvs = xs.map kvLf ∧ k = x.key ∧ kv = kvLf x) ∨
  (KeyVs K H ks kvs ∧ ks.all tupNK = true ∧ KeyV K H k kv ∧ tupNK k = true)
/-- at a stands a dict -/
def DAt (w : World) (H : Hp) (a : Addr) (ks : List NestedKey) (kvs us : List V) : Prop := (a == sysModules) = false ∧ ((∃ o u, H a = some (.frz o u) ∧ DictObj w o ks kvs us) ∨ H a = some (.ext (DkΦ w a ks kvs us)))
theorem DAt.obj {X : Cx} {pins : List (Addr × Obj)} {σ : L2.St} {H : Hp} {s : Shared} {a : Addr} {ks : List NestedKey} {kvs us : List V} (I : L2.Inv X pins σ H s) (h : DAt X.w H a ks kvs us) : ∃ o, s.heap.get? a = some o ∧ DictObj X.w o ks kvs us := by
  rcases h.2 with ⟨o, u, e, d⟩ | e
  · exact ⟨o, (I.hok a _ e).1, d⟩
  · exact (I.hok a _ e).1
theorem goodL {xs : List Leaf} (h : ∀ y ∈ xs, ∀ i, y ≠ .num i) (P : Program) (w : World) : ∀ y ∈ xs, (fkL P w).good y := fun y hy => by
  have := h y hy
  cases y with
  | num i => exact absurd rfl (this i)
  | _ => trivial
theorem keyAddr {K : Fg} {H : Hp} : ∀ {ks : List NestedKey} {kvs : List V}, KeyVs K H ks kvs → ks.all tupNK = true → ∃ as : List Addr, kvs = as.map V.ref
  | [], _, h, _ => by cases h; exact ⟨[], rfl⟩
  | k :: ks, _, ⟨v, r, q, h, l⟩, t => by
    subst q
    rw [List.all_cons, Bool.and_eq_true] at t
    obtain ⟨as, rfl⟩ := keyAddr l t.2
    cases k with
    | tup l =>
      obtain ⟨a, vs, rfl, _⟩ := h
      exact ⟨a :: as, rfl⟩
    | _ => exact absurd t.1 Bool.false_ne_true
theorem nested_at {h : Heap} : ∀ {xs : List (NestedKey × Addr × Value)}, NestedAll h (xs.map (·.1)) (xs.map fun x => Value.ref x.2.1) → (xs.map (·.1)).all tupNK = true → ∀ x ∈ xs, NestedIs h x.1 (.ref x.2.1) ∧ x.1.depth ≤ 8
  | [], _, _, x, hx => nomatch hx
  | y :: ys, n, t, x, hx => by
    rw [List.map_cons, List.map_cons] at n
    rw [List.map_cons, List.all_cons, Bool.and_eq_true] at t
    cases n with
    | cons n1 n2 =>
      rcases List.mem_cons.mp hx with rfl | hx
      · refine ⟨n1, ?_⟩
        have := t.1
        cases hk : x.1 with
        | tup l => rw [hk] at this; exact of_decide_eq_true this
        | _ => rw [hk] at this; exact absurd this Bool.false_ne_true
      · exact nested_at n2 t.2 x hx
theorem depth_of {k : NestedKey} (h : tupNK k = true) : k.depth ≤ 8 := by
  cases k with
  | tup l => exact of_decide_eq_true h
  | _ => exact absurd h Bool.false_ne_true
section
variable {X : Cx} {pins : List (Addr × Obj)} {σ : L2.St} {H : Hp} {s : Shared} {a : Addr} {ks : List NestedKey} {kvs us : List V} {k : NestedKey} {kv : V} {u : Value}
theorem dictH (I : L2.Inv X pins σ H s) (hd : DAt X.w H a ks kvs us) (h1 : KeyVs X.K H ks kvs) (h2 : ks.all tupNK = true) : ∃ xs, s.heap.DictOfH (nestedKind X.prog X.w) a xs ∧ xs.map (·.1) = ks ∧ (xs.map fun x => V.ref x.2.1) = kvs ∧ Vals us (xs.map (·.2.2)) := by
  obtain ⟨o, ho, hx, ⟨es, ep, hdt, en⟩, nd⟩ := hd.obj I
  obtain ⟨as, rfl⟩ := keyAddr h1 h2
  obtain ⟨xs, a1, a2, a3, a4⟩ := ents_toH (P := X.prog) en as rfl
  refine ⟨xs, ⟨o, es, ep, ho, hx, hdt, a1, ?_, by rw [a2]; exact nd⟩, a2, by rw [← a3, List.map_map]; rfl, a4⟩
  refine nested_at ?_ (by rw [a2]; exact h2)
  rw [a2]
  refine nesteds_of I ks _ _ h1 ?_
  rw [← a3]
  have : ∀ l : List (NestedKey × Addr × Value), Vals ((l.map (·.2.1)).map V.ref) (l.map fun x => Value.ref x.2.1) := fun l => by
    induction l with
    | nil => exact .nil
    | cons y l ih => exact .cons rfl ih
  exact this xs
theorem keyH_of (I : L2.Inv X pins σ H s) (h : KeyV X.K H k kv) (t : tupNK k = true) (r : RelV kv u) : ∃ b, kv = .ref b ∧ u = .ref b ∧ (nestedKind X.prog X.w).is s.heap k b := by
  have n := nested_of I k kv u h r
  have hd := depth_of t
  cases k with
  | tup l =>
    obtain ⟨b, vs, rfl, _⟩ := h
    cases r
    exact ⟨b, rfl, rfl, n, hd⟩
  | _ => exact absurd t Bool.false_ne_true
variable {A : Around} {E : Value → Shared → Prop}
/-- d[y], there -/
theorem dd_getItem {v : V} {Q : Value → Shared → Prop} (hu : A.units + 64 < cLine) (I : L2.Inv X pins σ H s) (hd : DAt X.w H a ks kvs us) (hf : Kfit X.K H ks kvs k kv) (hl : lkp ks us k = some v) (ry : RelV kv u) (h : ∀ w' s', L2.Inv X pins σ H s' → RelV v w' → Q w' s') :
    wpAny (model X.prog X.w) A (getItem (.ref a) u) Q E s := by
  rcases hf with ⟨xs, x, e1, e2, e3, e4⟩ | ⟨xs, x, g1, g2, e1, e2, e3, e4⟩ | ⟨h1, h2, h3, h4⟩
  · obtain ⟨o, ho, d⟩ := hd.obj I
    obtain ⟨vs, dd, a2, a3⟩ := (fkM X.prog X.w).dictOf ho d xs e1 e2 fun _ _ => trivial
    have rl := (fkM X.prog X.w).lkp x vs us a3
    have e5 : (vs.map fun v => (fkM X.prog X.w).nk v.1) = ks := by rw [e1, ← a2, List.map_map]; rfl
    rw [e5, show (fkM X.prog X.w).nk x = k from e3.symm, hl] at rl
    obtain ⟨w', hw, rw'⟩ := RelO.some_of (v := v) (o := valueAt vs x) rl
    subst e4
    exact wpAny_getItem_of (kV_is (P := X.prog) (w := X.w) ry) dd.mapOf hw (h w' _ (I.tok _) rw')
  · obtain ⟨o, ho, d⟩ := hd.obj I
    obtain ⟨vs, dd, a2, a3⟩ := (fkL X.prog X.w).dictOf ho d xs e1 e2 (goodL g1 _ _)
    have rl := (fkL X.prog X.w).lkp x vs us a3
    have e5 : (vs.map fun v => (fkL X.prog X.w).nk v.1) = ks := by rw [e1, ← a2, List.map_map]; rfl
    rw [e5, show (fkL X.prog X.w).nk x = k from e3.symm, hl] at rl
    obtain ⟨w', hw, rw'⟩ := RelO.some_of (v := v) (o := valueAt vs x) rl
    subst e4
    exact wpAny_getItem_of (((fkL X.prog X.w).rel (goodL (xs := [x]) (by simpa using g2) _ _ x (by simp))).mpr ry) dd.mapOf hw (h w' _ (I.tok _) rw')
  · obtain ⟨xs, dd, a2, a3, a4⟩ := dictH I hd h1 h2
    obtain ⟨b, rfl, rfl, kb⟩ := keyH_of I h3 h4 ry
    have rl := lkpH k xs us a4
    rw [a2, hl] at rl
    obtain ⟨w', hw, rw'⟩ := RelO.some_of (v := v) (o := (atKey xs k).map (·.2)) rl
    obtain ⟨p, hp, hp2⟩ := Option.map_eq_some_iff.mp hw
    refine wpAny_getItem_heap (show A.in1.units + 8 < cLine by show A.units + 1 + 8 < cLine; omega) kb dd hp ?_
    rw [hp2]
    exact h w' _ (I.tok _) rw'

/-- the flat kinds, in one -/
theorem flat_cases (I : L2.Inv X pins σ H s) (hd : DAt X.w H a ks kvs us) (hf : Kfit X.K H ks kvs k kv) (ry : RelV kv u) {R : Prop}
    (flat : ∀ {κ : Type} [DecidableEq κ] (knd : KeyKind X.prog X.w κ) (f : FK knd) (vs : List (κ × Value)) (x : κ), s.heap.DictOf knd a vs → Vals us (vs.map (·.2)) → (vs.map fun v => f.nk v.1) = ks → (vs.map fun v => f.kv v.1) = kvs → (∀ y ∈ vs.map (·.1), f.good y) → f.good x → k = f.nk x → kv = f.kv x → knd.is x u = true → (keyPart u).isSome = true ∨ kv = .non → R)
    (tup : ∀ (xs : List (NestedKey × Addr × Value)) (b : Addr), s.heap.DictOfH (nestedKind X.prog X.w) a xs → xs.map (·.1) = ks → (xs.map fun x => V.ref x.2.1) = kvs → Vals us (xs.map (·.2.2)) → kv = .ref b → u = .ref b → (nestedKind X.prog X.w).is s.heap k b → R) : R := by
  rcases hf with ⟨xs, x, e1, e2, e3, e4⟩ | ⟨xs, x, g1, g2, e1, e2, e3, e4⟩ | ⟨h1, h2, h3, h4⟩
  · obtain ⟨o, ho, d⟩ := hd.obj I
    obtain ⟨vs, dd, a2, a3⟩ := (fkM X.prog X.w).dictOf ho d xs e1 e2 fun _ _ => trivial
    refine flat _ (fkM X.prog X.w) vs x dd a3 (by rw [e1, ← a2, List.map_map]; rfl) (by rw [e2, ← a2, List.map_map]; rfl) (fun _ _ => trivial) trivial e3 e4 (((fkM X.prog X.w).rel trivial).mpr (by rw [e4] at ry; exact ry)) (.inl ?_)
    subst e4
    cases x with
    | inl i => obtain ⟨t, rfl⟩ := ry; rfl
    | inr i => obtain ⟨t, rfl⟩ := ry; rfl
  · obtain ⟨o, ho, d⟩ := hd.obj I
    obtain ⟨vs, dd, a2, a3⟩ := (fkL X.prog X.w).dictOf ho d xs e1 e2 (goodL g1 _ _)
    have gx := goodL (xs := [x]) (by simpa using g2) X.prog X.w x (by simp)
    refine flat _ (fkL X.prog X.w) vs x dd a3 (by rw [e1, ← a2, List.map_map]; rfl) (by rw [e2, ← a2, List.map_map]; rfl) (by rw [a2]; exact goodL g1 _ _) gx e3 e4 (((fkL X.prog X.w).rel gx).mpr (by rw [e4] at ry; exact ry)) ?_
    subst e4
    cases x with
    | none => exact .inr rfl
    | num i => exact absurd rfl (g2 i)
    | text i => obtain ⟨t, rfl⟩ := ry; exact .inl rfl
  · obtain ⟨xs, dd, a2, a3, a4⟩ := dictH I hd h1 h2
    obtain ⟨b, e1, e2, kb⟩ := keyH_of I h3 h4 ry
    exact tup xs b dd a2 a3 a4 e1 e2 kb
theorem room8 (hu : A.units + 64 < cLine) : (nestedKind X.prog X.w).room A.in1 := show A.in1.units + 8 < cLine by show A.units + 1 + 8 < cLine; omega
/-- y in d -/
theorem dd_in {Q : Value → Shared → Prop} (hu : A.units + 64 < cLine) (I : L2.Inv X pins σ H s) (hd : DAt X.w H a ks kvs us) (hf : Kfit X.K H ks kvs k kv) (ry : RelV kv u) (h : ∀ s', L2.Inv X pins σ H s' → Q (.bool (lkp ks us k).isSome) s') :
    wpAny (model X.prog X.w) A (compareOp .In u (.ref a)) Q E s := by
  refine flat_cases I hd hf ry (fun knd f vs x dd r e1 e2 g gx ek ev hi _ => ?_) fun xs b dd e1 e2 r ev eu kb => ?_
  · refine wpAny_in_of hi hd.1 dd.mapOf ?_
    have rl := f.lkp x vs us r
    rw [e1, ← ek] at rl
    rw [← RelO.isSome_eq rl]
    exact h _ (I.tok _)
  · subst eu
    refine wpAny_in_heap (room8 hu) kb hd.1 dd ?_
    have rl := RelO.isSome_eq (lkpH k xs us r)
    rw [Option.isSome_map, e1] at rl
    rw [← rl]
    exact h _ (I.tok _)
theorem dd_notIn {Q : Value → Shared → Prop} (hu : A.units + 64 < cLine) (I : L2.Inv X pins σ H s) (hd : DAt X.w H a ks kvs us) (hf : Kfit X.K H ks kvs k kv) (ry : RelV kv u) (h : ∀ s', L2.Inv X pins σ H s' → Q (.bool (!(lkp ks us k).isSome)) s') :
    wpAny (model X.prog X.w) A (compareOp .NotIn u (.ref a)) Q E s := by
  refine flat_cases I hd hf ry (fun knd f vs x dd r e1 e2 g gx ek ev hi _ => ?_) fun xs b dd e1 e2 r ev eu kb => ?_
  · refine wpAny_notIn_of hi hd.1 dd.mapOf ?_
    have rl := f.lkp x vs us r
    rw [e1, ← ek] at rl
    rw [← RelO.isSome_eq rl]
    exact h _ (I.tok _)
  · subst eu
    refine PyProof.Rows.wpAny_notIn_heap (room8 hu) kb hd.1 dd ?_
    have rl := RelO.isSome_eq (lkpH k xs us r)
    rw [Option.isSome_map, e1] at rl
    rw [← rl]
    exact h _ (I.tok _)
/-- d.get(y), d.get(y, x) -/
theorem dd_get1 {Q : Value → Shared → Prop} (hu : A.units + 64 < cLine) (I : L2.Inv X pins σ H s) (hd : DAt X.w H a ks kvs us) (hf : Kfit X.K H ks kvs k kv) (ry : RelV kv u) (h : ∀ w' s', L2.Inv X pins σ H s' → RelV ((lkp ks us k).getD .non) w' → Q w' s') :
    wpAny (model X.prog X.w) A (call (.builtin "dict.get") [.ref a, u]) Q E s := by
  refine flat_cases I hd hf ry (fun knd f vs x dd r e1 e2 g gx ek ev hi _ => ?_) fun xs b dd e1 e2 r ev eu kb => ?_
  · have rl := f.lkp x vs us r
    rw [e1, ← ek] at rl
    exact call_meetsIn PySem.F.slot_dict_get dd.typeIs PySem.F.entry_dict_get (PySem.F.args_dict_get_2 _ _) (meets_dict_get knd a hi hd.1) ⟨_, dd.mapOf, h _ _ (I.tok _) (rl.getD rfl)⟩
  · subst eu
    have rl := lkpH k xs us r
    rw [e1] at rl
    exact call_meetsIn PySem.F.slot_dict_get dd.typeIs PySem.F.entry_dict_get (PySem.F.args_dict_get_2 _ _) (meetsH_dict_get (nestedKind X.prog X.w) a b hd.1) ⟨room8 hu, k, xs, kb, dd, h _ _ (I.tok _) (rl.getD rfl)⟩
theorem dd_get2 {d : V} {r' : Value} {Q : Value → Shared → Prop} (hu : A.units + 64 < cLine) (I : L2.Inv X pins σ H s) (hd : DAt X.w H a ks kvs us) (hf : Kfit X.K H ks kvs k kv) (ry : RelV kv u) (rd : RelV d r') (h : ∀ w' s', L2.Inv X pins σ H s' → RelV ((lkp ks us k).getD d) w' → Q w' s') :
    wpAny (model X.prog X.w) A (call (.builtin "dict.get") [.ref a, u, r']) Q E s := by
  refine flat_cases I hd hf ry (fun knd f vs x dd r e1 e2 g gx ek ev hi _ => ?_) fun xs b dd e1 e2 r ev eu kb => ?_
  · have rl := f.lkp x vs us r
    rw [e1, ← ek] at rl
    exact call_meetsIn PySem.F.slot_dict_get dd.typeIs PySem.F.entry_dict_get (PySem.F.args_dict_get_3 _ _ _) (meets_dict_get_default knd a hi hd.1 r') ⟨_, dd.mapOf, h _ _ (I.tok _) (rl.getD rd)⟩
  · subst eu
    have rl := lkpH k xs us r
    rw [e1] at rl
    exact call_meetsIn PySem.F.slot_dict_get dd.typeIs PySem.F.entry_dict_get (PySem.F.args_dict_get_3 _ _ _) (meetsH_dict_get_default (nestedKind X.prog X.w) a b hd.1 r') ⟨room8 hu, k, xs, kb, dd, h _ _ (I.tok _) (rl.getD rd)⟩
theorem ents_len {w : World} {es : List DictEntry} {ks : List NestedKey} {kvs us : List V} (h : Ents w es ks kvs us) : es.length = ks.length ∧ kvs.length = ks.length ∧ us.length = ks.length := by
  induction h with
  | nil => exact ⟨rfl, rfl, rfl⟩
  | cons _ _ _ _ ih => exact ⟨by simp [ih.1], by simp [ih.2.1], by simp [ih.2.2]⟩
theorem dkφ_ext {w : World} {a : Addr} {ks : List NestedKey} {kvs us : List V} {P : Program} {H : Hp} {h : Heap} (x : DkΦ w a ks kvs us h) : ObjOk P w H h a (.ext (DkΦ w a ks kvs us)) :=
  ⟨x, x.imp fun _ y => y.1, fun h1 h2 ⟨o, e, d⟩ k => ⟨o, k o e, d⟩⟩
/-- d[y] = v -/
theorem dd_setItem {v : V} {r' : Value} {Q : Unit → Shared → Prop} (hu : A.units + 64 < cLine) (I : L2.Inv X pins σ H s) (hs : (a == sysModules) = false) (he : H a = some (.ext (DkΦ X.w a ks kvs us))) (hz : ks.length < sizeLine) (hf : Kfit X.K H ks kvs k kv) (ry : RelV kv u) (rv : RelV v r')
    (h : ∀ s', L2.Inv X pins σ (upd H a (.ext (DkΦ X.w a (putN ks k) (putV ks kvs k kv) (putL ks us k v)))) s' → Q () s') : wpAny (model X.prog X.w) A (setItem (.ref a) u r') Q E s := by
  have hd : DAt X.w H a ks kvs us := ⟨hs, .inr he⟩
  refine flat_cases I hd hf ry (fun knd f vs x dd r e1 e2 g gx ek ev hi _ => ?_) fun xs b dd e1 e2 r ev eu kb => ?_
  · have hl : vs.length = ks.length := by rw [← e1, List.length_map]
    refine wpAny_setItem_pairs (hsz := by omega) hi dd fun h' dd' hs => h _ ?_
    have ho : ∃ q, h'.get? a = some q := let ⟨q, _, _, hq, _⟩ := dd'; ⟨q, hq⟩
    have nd : (vs.map (·.1)).Nodup := let ⟨_, _, _, _, _, _, _, _, n⟩ := dd; n
    obtain ⟨p1, p2, p3, p4⟩ := f.put (k := x) rv vs us r nd
    have bk := f.back dd' (fun y hy => by
      rcases p4 y hy with rfl | hy
      · exact gx
      · exact g y hy) p3
    rw [p1, p2, e1, e2, ← ek, ← ev] at bk
    exact I.write (x := a) (e := a) (by rw [he]; exact True.intro) (.inl rfl) (fun b q hb z => (hs.2 b hb).trans z) ho (dkφ_ext bk)
  · subst eu
    have hl : xs.length = ks.length := by rw [← e1, List.length_map]
    refine wpAny_setItem_heap (hsz := by omega) (room8 hu) kb dd fun h' dd' hs => h _ ?_
    obtain ⟨o, es, ep, q1, q2, q3, q4, q5, q6⟩ := dd'
    have nd : (xs.map (·.1)).Nodup := let ⟨_, _, _, _, _, _, _, _, n⟩ := dd; n
    obtain ⟨p1, p2, p3⟩ := putH (b := b) rv xs us r nd
    have en := ents_ofH (P := X.prog) (w := X.w) p3
    rw [← q4, p1, p2, e1, e2, ← ev] at en
    have bk : DkΦ X.w a (putN ks k) (putV ks kvs k kv) (putL ks us k v) h' := ⟨o, q1, q2, ⟨es, ep, q3, en⟩, by rw [← e1, ← p1]; exact q6⟩
    exact I.write (x := a) (e := a) (by rw [he]; exact True.intro) (.inl rfl) (fun b q hb z => (hs.2 b hb).trans z) ⟨o, q1⟩ (dkφ_ext bk)
/-- the dict as it stands -/
theorem DAt.raw (I : L2.Inv X pins σ H s) (hd : DAt X.w H a ks kvs us) : ∃ es ep, s.heap.DictRaw a es ep ∧ Ents X.w es.toList ks kvs us := by
  obtain ⟨o, ho, hx, ⟨es, ep, h1, h2⟩, _⟩ := hd.obj I
  exact ⟨es, ep, ⟨o, ho, hx, h1⟩, h2⟩
end
end DL

/-! The D layer: dicts as data. -/
namespace DL
open PySem L2

def mixD : D → Bool
  | .int _ => true
  | .str _ => true
  | _ => false
def leafD : D → Bool
  | .non => true
  | .str _ => true
  | _ => false
def tupD : D → Bool
  | .tup l => match nkL l with
    | some ks => decide ((NestedKey.tup ks).depth ≤ 8)
    | none => false
  | _ => false
/-- the key d goes with the keys ds -/
def fitD (ds : List D) (d : D) : Bool := (mixD d && ds.all mixD) || (leafD d && ds.all leafD) || (tupD d && ds.all tupD)
def lkD : List D → List D → D → Option D
  | d' :: ds, e :: es, d => if nkD d' = nkD d then some e else lkD ds es d
  | _, _, _ => none
def putDv : List D → List D → D → D → List D
  | d' :: ds, e :: es, d, x => if nkD d' = nkD d then x :: es else e :: putDv ds es d x
  | _, es, _, x => es ++ [x]
def hasD (ds : List D) (d : D) : Bool := ds.any fun d' => decide (nkD d' = nkD d)
def putDk (ds : List D) (d : D) : List D := if hasD ds d = true then ds else ds ++ [d]
theorem nkL_len : ∀ {ds : List D} {ks : List NestedKey}, nkL ds = some ks → ks.length = ds.length
  | [], _, h => by cases h; rfl
  | d :: ds, _, h => by
    unfold nkL at h
    cases hk : nkD d with
    | none => rw [hk] at h; cases h
    | some k =>
      cases hl : nkL ds with
      | none => rw [hk, hl] at h; cases h
      | some ks => rw [hk, hl] at h; cases h; simp [nkL_len hl]
theorem nkL_cons {d : D} {ds : List D} {ks : List NestedKey} (h : nkL (d :: ds) = some ks) : ∃ k r, nkD d = some k ∧ nkL ds = some r ∧ ks = k :: r := by
  unfold nkL at h
  cases hk : nkD d with
  | none => rw [hk] at h; cases h
  | some k =>
    cases hl : nkL ds with
    | none => rw [hk, hl] at h; cases h
    | some r => rw [hk, hl] at h; cases h; exact ⟨k, r, rfl, rfl, rfl⟩
theorem nkL_cons' {d : D} {ds : List D} {k : NestedKey} {r : List NestedKey} (h1 : nkD d = some k) (h2 : nkL ds = some r) : nkL (d :: ds) = some (k :: r) := by
  unfold nkL; rw [h1, h2]
theorem nkL_append : ∀ {ds es : List D} {ks js : List NestedKey}, nkL ds = some ks → nkL es = some js → nkL (ds ++ es) = some (ks ++ js)
  | [], _, _, _, h, h' => by cases h; exact h'
  | d :: ds, _, _, _, h, h' => by
    obtain ⟨k, r, h1, h2, rfl⟩ := nkL_cons h
    exact nkL_cons' h1 (nkL_append h2 h')
theorem hasD_iff {d : D} {k : NestedKey} (hd : nkD d = some k) : ∀ {ds : List D} {ks : List NestedKey}, nkL ds = some ks → (hasD ds d = true ↔ k ∈ ks)
  | [], _, h => by cases h; simp [hasD]
  | x :: ds, _, h => by
    obtain ⟨j, r, h1, h2, rfl⟩ := nkL_cons h
    have ih := hasD_iff hd h2
    unfold hasD at ih ⊢
    rw [List.any_cons, Bool.or_eq_true, ih, List.mem_cons, decide_eq_true_iff, h1, hd, Option.some.injEq]
    exact ⟨fun q => q.imp Eq.symm id, fun q => q.imp Eq.symm id⟩
section
variable {K : KW} {F : Hp}
theorem lk_of {d : D} {k : NestedKey} (hd : nkD d = some k) : ∀ {ds es : List D} {ks : List NestedKey} {us : List V}, nkL ds = some ks → IsL K F es us → (∀ e, lkD ds es d = some e → ∃ v, lkp ks us k = some v ∧ Is K F e v) ∧ (lkD ds es d = none → lkp ks us k = none)
  | [], es, _, us, h, l => by
    cases h
    refine ⟨fun e q => ?_, fun _ => ?_⟩
    · unfold lkD at q; cases q
    · cases us <;> rfl
  | x :: ds, [], _, us, h, l => by
    obtain ⟨j, r, h1, h2, rfl⟩ := nkL_cons h
    cases l
    exact ⟨fun e q => (nomatch q), fun _ => rfl⟩
  | x :: ds, y :: es, _, us, h, ⟨v, r', q, i, l⟩ => by
    obtain ⟨j, r, h1, h2, rfl⟩ := nkL_cons h
    subst q
    have ih := lk_of hd h2 l
    by_cases e : j = k
    · have e' : nkD x = nkD d := by rw [h1, hd, e]
      rw [lkD, if_pos e', lkp, if_pos e]
      exact ⟨fun e2 q => by cases q; exact ⟨v, rfl, i⟩, fun q => nomatch q⟩
    · have e' : ¬ nkD x = nkD d := by rw [h1, hd]; exact fun z => e (Option.some.inj z)
      rw [lkD, if_neg e', lkp, if_neg e]
      exact ih
theorem put_of {d x : D} {k : NestedKey} {v : V} (hd : nkD d = some k) (i : Is K F x v) : ∀ {ds es : List D} {ks : List NestedKey} {us : List V}, nkL ds = some ks → IsL K F es us → IsL K F (putDv ds es d x) (putL ks us k v)
  | [], es, _, us, h, l => by
    cases h
    have e1 : putDv [] es d x = es ++ [x] := by cases es <;> rfl
    have e2 : putL [] us k v = us ++ [v] := by cases us <;> rfl
    rw [e1, e2]
    exact l.append (IsL.single i)
  | y :: ds, [], _, us, h, l => by
    obtain ⟨j, r, h1, h2, rfl⟩ := nkL_cons h
    cases l
    exact IsL.single i
  | y :: ds, z :: es, _, us, h, ⟨w, r', q, i', l⟩ => by
    obtain ⟨j, r, h1, h2, rfl⟩ := nkL_cons h
    subst q
    by_cases e : j = k
    · have e' : nkD y = nkD d := by rw [h1, hd, e]
      rw [putDv, if_pos e', putL, if_pos e]
      exact ⟨v, _, rfl, i, l⟩
    · have e' : ¬ nkD y = nkD d := by rw [h1, hd]; exact fun z => e (Option.some.inj z)
      rw [putDv, if_neg e', putL, if_neg e]
      exact ⟨w, _, rfl, i', put_of hd i h2 l⟩
theorem putK_of {d : D} {k : NestedKey} {kv : V} (hd : nkD d = some k) (i : Is K F d kv) {ds : List D} {ks : List NestedKey} {kvs : List V} (h : nkL ds = some ks) (l : IsL K F ds kvs) : nkL (putDk ds d) = some (putN ks k) ∧ IsL K F (putDk ds d) (putV ks kvs k kv) := by
  unfold putDk putN putV
  by_cases m : k ∈ ks
  · rw [if_pos ((hasD_iff hd h).mpr m), if_pos m, if_pos m]
    exact ⟨h, l⟩
  · rw [if_neg (fun z => m ((hasD_iff hd h).mp z)), if_neg m, if_neg m]
    exact ⟨nkL_append h (nkL_cons' hd rfl), l.append (IsL.single i)⟩
theorem mix_of : ∀ {ds : List D} {ks : List NestedKey} {kvs : List V}, nkL ds = some ks → IsL K F ds kvs → ds.all mixD = true → ∃ xs : List Key, ks = xs.map nkM ∧ kvs = xs.map kV
  | [], _, _, h, l, _ => by cases h; cases l; exact ⟨[], rfl, rfl⟩
  | d :: ds, _, _, h, ⟨v, r, q, i, l⟩, m => by
    obtain ⟨j, r', h1, h2, rfl⟩ := nkL_cons h
    subst q
    rw [List.all_cons, Bool.and_eq_true] at m
    obtain ⟨xs, rfl, rfl⟩ := mix_of h2 l m.2
    cases d with
    | int n => cases h1; cases i; exact ⟨.inl n :: xs, rfl, rfl⟩
    | str n => cases h1; cases i; exact ⟨.inr n :: xs, rfl, rfl⟩
    | _ => exact absurd m.1 Bool.false_ne_true
theorem leaf_of : ∀ {ds : List D} {ks : List NestedKey} {kvs : List V}, nkL ds = some ks → IsL K F ds kvs → ds.all leafD = true → ∃ xs : List Leaf, (∀ y ∈ xs, ∀ i, y ≠ .num i) ∧ ks = xs.map Leaf.key ∧ kvs = xs.map kvLf
  | [], _, _, h, l, _ => by cases h; cases l; exact ⟨[], (fun y h => nomatch h), rfl, rfl⟩
  | d :: ds, _, _, h, ⟨v, r, q, i, l⟩, m => by
    obtain ⟨j, r', h1, h2, rfl⟩ := nkL_cons h
    subst q
    rw [List.all_cons, Bool.and_eq_true] at m
    obtain ⟨xs, g, rfl, rfl⟩ := leaf_of h2 l m.2
    cases d with
    | non => cases h1; cases i; exact ⟨.none :: xs, fun y hy i => by
        rcases List.mem_cons.mp hy with rfl | hy
        · exact fun z => nomatch z
        · exact g y hy i, rfl, rfl⟩
    | str n => cases h1; cases i; exact ⟨.text n :: xs, fun y hy i => by
        rcases List.mem_cons.mp hy with rfl | hy
        · exact fun z => nomatch z
        · exact g y hy i, rfl, rfl⟩
    | _ => exact absurd m.1 Bool.false_ne_true
theorem tupNK_of {d : D} {k : NestedKey} (h : nkD d = some k) (t : tupD d = true) : tupNK k = true := by
  cases d with
  | tup l =>
    unfold nkD at h
    simp only [tupD] at t
    cases hk : nkL l with
    | none => rw [hk] at h; cases h
    | some ks => rw [hk] at h t; cases h; exact t
  | _ => exact absurd t Bool.false_ne_true
theorem tups_of : ∀ {ds : List D} {ks : List NestedKey}, nkL ds = some ks → ds.all tupD = true → ks.all tupNK = true
  | [], _, h, _ => by cases h; rfl
  | d :: ds, _, h, m => by
    obtain ⟨j, r', h1, h2, rfl⟩ := nkL_cons h
    rw [List.all_cons, Bool.and_eq_true] at m ⊢
    exact ⟨tupNK_of h1 m.1, tups_of h2 m.2⟩
theorem fit_some {ds : List D} {d : D} (f : fitD ds d = true) : ∃ k, nkD d = some k := by
  cases d with
  | non => exact ⟨_, rfl⟩
  | int i => exact ⟨_, rfl⟩
  | str i => exact ⟨_, rfl⟩
  | tup l =>
    cases hk : nkL l with
    | none => simp [fitD, mixD, leafD, tupD, hk] at f
    | some ks => exact ⟨.tup ks, by unfold nkD; rw [hk]; rfl⟩
  | _ => simp [fitD, mixD, leafD, tupD] at f
theorem kfit_of {H : Hp} (e : Same F H) {ds : List D} {d : D} {ks : List NestedKey} {kvs : List V} {k : NestedKey} {kv : V} (hk : nkL ds = some ks) (l : IsL K F ds kvs) (hd : nkD d = some k) (i : Is K F d kv) (f : fitD ds d = true) : Kfit K H ks kvs k kv := by
  unfold fitD at f
  rw [Bool.or_eq_true, Bool.or_eq_true, Bool.and_eq_true, Bool.and_eq_true, Bool.and_eq_true] at f
  rcases f with (⟨f1, f2⟩ | ⟨f1, f2⟩) | ⟨f1, f2⟩
  · obtain ⟨xs, rfl, rfl⟩ := mix_of hk l f2
    obtain ⟨ys, e1, e2⟩ := mix_of (ds := [d]) (nkL_cons' hd rfl) (IsL.single i) (by simp [f1])
    cases ys with
    | nil => cases e1
    | cons y ys =>
      injection e1 with e1 _
      injection e2 with e2 _
      exact .inl ⟨xs, y, rfl, rfl, e1, e2⟩
  · obtain ⟨xs, g, rfl, rfl⟩ := leaf_of hk l f2
    obtain ⟨ys, g', e1, e2⟩ := leaf_of (ds := [d]) (nkL_cons' hd rfl) (IsL.single i) (by simp [f1])
    cases ys with
    | nil => cases e1
    | cons y ys =>
      injection e1 with e1 _
      injection e2 with e2 _
      exact .inr (.inl ⟨xs, y, g, g' y (by simp), rfl, rfl, e1, e2⟩)
  · exact .inr (.inr ⟨keyVs_of e ds ks kvs hk l, tups_of hk f2, keyV_of e d k kv hd i, tupNK_of hd f1⟩)
end
/-- a dict by its data, wherever it stands -/
structure DHas (K : KW) (F H : Hp) (a : Addr) (ds es : List D) (ks : List NestedKey) (kvs us : List V) : Prop where
  at_ : DAt K.w H a ks kvs us
  hk : nkL ds = some ks
  hz : ks.length ≤ sizeLine
  lk : IsL K F ds kvs
  lv : IsL K F es us
theorem dhas_fz {K : KW} {F H : Hp} (e : Same F H) {ds es : List D} {v : V} (h : Is K F (.dct ds es) v) : ∃ a ks kvs us, v = .ref a ∧ DHas K F H a ds es ks kvs us := by
  obtain ⟨a, o, u, ks, kvs, us, q, s, n, d, ⟨k1, k2⟩, l, m⟩ := h
  exact ⟨a, ks, kvs, us, q, ⟨n, .inl ⟨o, u, e _ _ s, d⟩⟩, k1, k2, l, m⟩
theorem dhas_ow {K : KW} {F H : Hp} {ds es : List D} {a : Addr} (h : OwAt K F H a (.dct ds es)) : ∃ ks kvs us, DHas K F H a ds es ks kvs us := by
  obtain ⟨ks, kvs, us, s, n, ⟨k1, k2⟩, l, m⟩ := h
  exact ⟨ks, kvs, us, ⟨n, .inr s⟩, k1, k2, l, m⟩
end DL

/-! The D layer, part 2: readings over plain data, and what it is to follow them. -/
namespace DL
open PySem L2
/-- the exceptions' air is that of ExcCtx: their context is None -/
abbrev Takes (X : Cx) (W : WX) : Prop := L2N.Takes X W
theorem passAt {X : Cx} {W : WX} (tk : Takes X W) (σ : L2.St) : PassesAt (L2N.CX X.prog X.w) X σ (WE W σ) := L2N.passAt tk σ
theorem takes_of {X : Cx} {E : XK} (hs : X.stack = X.env :: X.outer) (hf : X.env.frame = some X.env.locals) (hex : X.ex = []) {E₁ : Value → Shared → Prop}
    (hx : X.xe = fun e s' => wpAny (model X.prog X.w) X.A (leaving X.env e) (fun _ s'' => L2N.CX X.prog X.w X.outer X.H_0 X.s_0 E e s'') E₁ s') : Takes X (fun cls d _ H => E cls d H) := L2N.takes_of hs hf hex hx
theorem takes0 {X : Cx} : Takes X (fun _ _ _ _ => False) := fun _ _ x => by
  obtain ⟨_, _, _, _, _, _, _, _, _, _, _, _, _, _, _, _, z⟩ := x
  exact z.elim

abbrev Qx := Exn → En → Prop
abbrev TDE := En → (D → En → Prop) → Qx → Prop
abbrev TDT := En → (Bool → En → Prop) → Qx → Prop
abbrev TDA := En → (List D → En → Prop) → Qx → Prop
structure DEnds where
  nx : En → Prop
  rt : D → En → Prop
  bk : En → Prop
  ct : En → Prop
  ex : Qx
  /-- what is returned is an object of one's own -/
  fr : Bool := false
abbrev TDS := DEnds → En → Prop

section
variable (K : KW) (W : WX)
/-- what is wished of exceptions goes over -/
def XR (G : Gh) (Qe : Qx) : Prop := ∀ x F H σ en cls d, Rel K G F H σ en → ExR K F x cls d → Qe x en → W cls d σ H
def Sim (te : TE) (td : TDE) : Prop := ∀ G F H σ en (Q : VK) Qd Qe, Rel K G F H σ en → td en Qd Qe → XR K W G Qe →
  (∀ v d F' H' en', Same F F' → Rel K G F' H' σ en' → Is K F' d v → Qd d en' → Q v H') → te σ H Q
def SimO (te : TE) (td : TDE) : Prop := ∀ G F H σ en (Q : VK) Qd Qe, Rel K G F H σ en → td en Qd Qe → XR K W G Qe →
  (∀ a d F' H' en', Same F F' → Rel K G F' H' σ en' → Tmp K G F' H' σ en' a d → Qd d en' → Q (.ref a) H') → te σ H Q
def SimT (tt : TT) (td : TDT) : Prop := ∀ G F H σ en (Q : Bool → Hp → Prop) Qd Qe, Rel K G F H σ en → td en Qd Qe → XR K W G Qe →
  (∀ b F' H' en', Same F F' → Rel K G F' H' σ en' → Qd b en' → Q b H') → tt σ H Q
def SimA (ta : TA) (td : TDA) : Prop := ∀ G F H σ en (Q : List V → Hp → Prop) Qd Qe, Rel K G F H σ en → td en Qd Qe → XR K W G Qe →
  (∀ vs ds F' H' en', Same F F' → Rel K G F' H' σ en' → IsL K F' ds vs → Qd ds en' → Q vs H') → ta σ H Q
structure EndsR (G : Gh) (D' : Ends) (B : DEnds) : Prop where
  nx : ∀ F H σ en, Rel K G F H σ en → B.nx en → D'.nx σ H
  rt : ∀ v d F H σ en, B.fr = false → Rel K G F H σ en → Is K F d v → B.rt d en → D'.rt v H
  bk : ∀ F H σ en, Rel K G F H σ en → B.bk en → D'.bk σ H
  ct : ∀ F H σ en, Rel K G F H σ en → B.ct en → D'.ct σ H
  ex : XR K W G B.ex
  rtO : ∀ a d F H σ en, B.fr = true → Rel K G F H σ en → Tmp K G F H σ en a d → B.rt d en → D'.rt (.ref a) H
def SimS (ts : TS) (td : TDS) : Prop := ∀ G F H σ en (D' : Ends) B, Rel K G F H σ en → td B en → EndsR K W G D' B → ts D' σ H
end

structure DE (X : Cx) (W : WX) (e : Expr) (te : TE) (td : TDE) : Prop where
  pe : PE X e te
  sim : Sim (kk X) W te td
structure DO (X : Cx) (W : WX) (e : Expr) (te : TE) (td : TDE) : Prop where
  pe : PE X e te
  sim : SimO (kk X) W te td
structure DT (X : Cx) (W : WX) (e : Expr) (tt : TT) (td : TDT) : Prop where
  pt : PT X e tt
  sim : SimT (kk X) W tt td
structure DW (X : Cx) (W : WX) (e : Expr) (tt : TT) (td : TDT) : Prop where
  pw : PW X e tt
  sim : SimT (kk X) W tt td
structure DA (X : Cx) (W : WX) (es : List Expr) (ta : TA) (td : TDA) : Prop where
  pa : PA X es ta
  sim : SimA (kk X) W ta td
structure DS (X : Cx) (W : WX) (st : Stmt) (ts : TS) (td : TDS) : Prop where
  ps : PS X st ts
  sim : SimS (kk X) W ts td
structure DSs (X : Cx) (W : WX) (st : List Stmt) (ts : TS) (td : TDS) : Prop where
  ps : PSs X st ts
  sim : SimS (kk X) W ts td

theorem SimO.fz {K : KW} {W : WX} {te : TE} {td : TDE} (h : SimO K W te td) : Sim K W (tG te) td := fun G F H σ en Q Qd Qe R q x k =>
  h G F H σ en _ Qd Qe R q x fun a d F' H' en' e R' T q' => T.freeze R' fun F2 H2 e2 R2 i2 => k _ d F2 H2 en' (e.trans e2) R2 i2 q'
theorem DO.fz {X : Cx} {W : WX} {e : Expr} {te : TE} {td : TDE} (h : DO X W e te td) : DE X W e (tG te) td := ⟨pe_G h.pe, h.sim.fz⟩

/-! ### names, constants -/
def dVar (i : Nat) : TDE := fun en Q _ => match en[i]? with
  | some (some (.fz d)) => Q d en
  | some (some (.ow false d)) => Q d (en.set i (some (.fz d)))
  | _ => False
def dC (d : D) : TDE := fun en Q _ => Q d en
/-- what a slot holds, without freezing it -/
def peek (en : En) (i : Nat) : Option D := match en[i]? with
  | some (some (.fz d)) => some d
  | some (some (.ow _ d)) => some d
  | _ => none

section
variable {X : Cx} {W : WX} {K : KW}
theorem sim_var (i : Nat) : Sim K W (tG (tVar i)) (dVar i) := fun G F H σ en Q Qd Qe R q x k => by
  unfold dVar at q
  split at q
  · rename_i d h
    obtain ⟨v, h1, h2⟩ := R.fz i d h
    exact ⟨v, h1, .done (k v d F H en (Same.refl F) R h2 q)⟩
  · rename_i d h
    obtain ⟨a, h1, _⟩ := R.ow i false d h
    refine ⟨_, h1, R.freeze h fun a' F2 H2 h1' h3 h4 h2 => ?_⟩
    rw [h1] at h1'
    cases h1'
    exact k _ d F2 H2 _ h3 h4 h2 q
  · exact q.elim
theorem de_var (i : Nat) {x : Str} {pos : Pos} (hN : X.N[i]? = some x := by rfl) (hv : Vis X.env.scope x := by first | exact Or.inl rfl | exact Or.inr (Or.inl rfl) | exact Or.inr (Or.inr rfl)) (hd : (x == ("__debug__" : Str)) = false := by decide)
    (hcd : (x == ("__classdict__" : Str)) = false := by decide) : DE X W (.Name x pos) (tG (tVar i)) (dVar i) := ⟨pe_G (pe_var hN hv hd hcd), sim_var i⟩
theorem sim_c {v : V} {d : D} (h : ∀ F, Is K F d v) : Sim K W (tC v) (dC d) := fun G F H σ en Q Qd Qe R q x k => k v d F H en (Same.refl F) R (h F) q
theorem de_int {i : Int} {j pos} : DE X W (.Constant (.int i) j pos) (tC (.int i)) (dC (.int i)) := ⟨pe_int, sim_c fun _ => rfl⟩
theorem de_bl {b : Bool} {j pos} : DE X W (.Constant (.bool b) j pos) (tC (.bl b)) (dC (.bl b)) := ⟨pe_bl, sim_c fun _ => rfl⟩
theorem de_non {j pos} : DE X W (.Constant .none j pos) (tC .non) (dC .non) := ⟨pe_non, sim_c fun _ => rfl⟩
theorem de_str {s : Str} {j pos} : DE X W (.Constant (.str s) j pos) (tC (.str s)) (dC (.str s)) := ⟨pe_str, sim_c fun _ => rfl⟩

/-- a name's own object, given away -/
def dGive (i : Nat) : TDE := fun en Q _ => match en[i]? with
  | some (some (.ow false d)) => Q d (en.set i none)
  | _ => False
theorem do_give (i : Nat) {x : Str} {pos : Pos} (hN : X.N[i]? = some x := by rfl) (hv : Vis X.env.scope x := by first | exact Or.inl rfl | exact Or.inr (Or.inl rfl) | exact Or.inr (Or.inr rfl)) (hd : (x == ("__debug__" : Str)) = false := by decide)
    (hcd : (x == ("__classdict__" : Str)) = false := by decide) : DO X W (.Name x pos) (tVar i) (dGive i) := ⟨pe_var hN hv hd hcd, fun G F H σ en Q Qd Qe R q x k => by
  unfold dGive at q
  split at q
  · rename_i d h
    obtain ⟨a, h1, h2, h3, h4, h5, _⟩ := R.ow i false d h
    have R1 : Rel (kk X) G F H σ (en.set i none) := R.drop none (fun _ _ q => nomatch q) fun _ q => nomatch q
    refine ⟨_, h1, k a d F H _ (Same.refl F) R1 ⟨h2, h3, ⟨h4, h5 rfl⟩, fun j b e k1 k2 => ?_⟩ q⟩
    by_cases z : j = i
    · subst z
      rw [List.getElem?_set_self (get_lt h)] at k1
      cases k1
    · rw [List.getElem?_set_ne (fun q => z q.symm)] at k1
      exact z (R.sep j i b false e d a k1 h k2 h1)
  · exact q.elim⟩

/-! ### operators -/
/-- an operation on two values, on two data -/
abbrev RD := D → D → (D → Prop) → Prop
def SimR (K : KW) (r : R2) (rd : RD) : Prop := ∀ G F H σ en x y dx dy (Q : VK) Qd, Rel K G F H σ en → Is K F dx x → Is K F dy y → rd dx dy Qd →
  (∀ z dz F' H', Same F F' → Rel K G F' H' σ en → Is K F' dz z → Qd dz → Q z H') → r x y H Q
def dOp (rd : RD) (da db : TDE) : TDE := fun en Q Qe => da en (fun x en1 => db en1 (fun y en2 => rd x y fun z => Q z en2) Qe) Qe
theorem sim_op {r : R2} {rd : RD} {ta tb : TE} {da db : TDE} (hr : SimR K r rd) (ha : Sim K W ta da) (hb : Sim K W tb db) : Sim K W (tOp r ta tb) (dOp rd da db) := fun G F H σ en Q Qd Qe R q x k =>
  ha G F H σ en _ _ Qe R q x fun v d F1 H1 en1 e1 R1 i1 q1 => hb G F1 H1 σ en1 _ _ Qe R1 q1 x fun u d2 F2 H2 en2 e2 R2 i2 q2 =>
    hr G F2 H2 σ en2 v u d d2 Q _ R2 (Is.mono e2 _ _ i1) i2 q2 fun z dz F3 H3 e3 R3 i3 q3 => k z dz F3 H3 en2 ((e1.trans e2).trans e3) R3 i3 q3
theorem de_op {a b : Expr} {op : Operator} {pos : Pos} {r : R2} {rd : RD} {ta tb : TE} {da db : TDE} (ho : OpR X (binaryOp op) r) (hr : SimR (kk X) r rd) (ha : DE X W a ta da) (hb : DE X W b tb db) : DE X W (.BinOp a op b pos) (tOp r ta tb) (dOp rd da db) :=
  ⟨pe_op ho ha.pe hb.pe, sim_op hr ha.sim hb.sim⟩
theorem de_cmp {a b : Expr} {op : CmpOp} {pos : Pos} {r : R2} {rd : RD} {ta tb : TE} {da db : TDE} (ho : OpR X (compareOp op) r) (hr : SimR (kk X) r rd) (ha : DE X W a ta da) (hb : DE X W b tb db) (hm : behindInMarks op b = false) :
    DE X W (.Compare a [op] [b] pos) (tOp r ta tb) (dOp rd da db) := ⟨pe_cmpR ho ha.pe hb.pe hm, sim_op hr ha.sim hb.sim⟩
/-- a value that is True or False, as a test -/
def dTest (td : TDE) : TDT := fun en Q Qe => td en (fun d en1 => match d with
  | .bl b => Q b en1
  | _ => False) Qe
theorem sim_test {te : TE} {td : TDE} (h : Sim K W te td) : SimT K W (tTest te) (dTest td) := fun G F H σ en Q Qd Qe R q x k =>
  h G F H σ en _ _ Qe R q x fun v d F1 H1 en1 e1 R1 i1 q1 => by
    cases d with
    | bl b => cases i1; exact ⟨b, rfl, k b F1 H1 en1 e1 R1 q1⟩
    | _ => exact q1.elim
theorem dt_cmp {a b : Expr} {op : CmpOp} {pos : Pos} {r : R2} {rd : RD} {ta tb : TE} {da db : TDE} (ho : OpR X (compareOp op) r) (hr : SimR (kk X) r rd) (ha : DE X W a ta da) (hb : DE X W b tb db) (hm : behindInMarks op b = false) :
    DT X W (.Compare a [op] [b] pos) (tTest (tOp r ta tb)) (dTest (dOp rd da db)) := ⟨pt_cmpR ho ha.pe hb.pe hm, sim_test (sim_op hr ha.sim hb.sim)⟩

/-- a op1 b op2 c -/
def dChain (rd rd' : RD) (da db dc : TDE) : TDE := fun en Q Qe => da en (fun x en1 => db en1 (fun y en2 => rd x y fun z => match z with
  | .bl true => dc en2 (fun w en3 => rd' y w fun u => Q u en3) Qe
  | .bl false => Q (.bl false) en2
  | _ => False) Qe) Qe
theorem sim_chain {r r' : R2} {rd rd' : RD} {ta tb tc : TE} {da db dc : TDE} (hr : SimR K r rd) (hr' : SimR K r' rd') (ha : Sim K W ta da) (hb : Sim K W tb db) (hc : Sim K W tc dc) : Sim K W (tChain r r' ta tb tc) (dChain rd rd' da db dc) := fun G F H σ en Q Qd Qe R q x k =>
  ha G F H σ en _ _ Qe R q x fun v d F1 H1 en1 e1 R1 i1 q1 => hb G F1 H1 σ en1 _ _ Qe R1 q1 x fun u d2 F2 H2 en2 e2 R2 i2 q2 =>
    hr G F2 H2 σ en2 v u d d2 _ _ R2 (Is.mono e2 _ _ i1) i2 q2 fun z dz F3 H3 e3 R3 i3 q3 => by
      cases dz with
      | bl b =>
        cases i3
        cases b with
        | false => exact ⟨false, rfl, by rw [if_neg Bool.false_ne_true]; exact k _ (.bl false) F3 H3 en2 ((e1.trans e2).trans e3) R3 rfl q3⟩
        | true =>
          refine ⟨true, rfl, ?_⟩
          rw [if_pos rfl]
          exact hc G F3 H3 σ en2 _ _ Qe R3 q3 x fun u2 d3 F4 H4 en4 e4 R4 i4 q4 => hr' G F4 H4 σ en4 u u2 d2 d3 Q _ R4 (Is.mono (e3.trans e4) _ _ i2) i4 q4 fun z' dz' F5 H5 e5 R5 i5 q5 =>
            k z' dz' F5 H5 en4 ((((e1.trans e2).trans e3).trans e4).trans e5) R5 i5 q5
      | _ => exact q3.elim
theorem de_chain {a b c : Expr} {op op' : CmpOp} {pos : Pos} {r r' : R2} {rd rd' : RD} {ta tb tc : TE} {da db dc : TDE} (ho : OpR X (compareOp op) r) (ho' : OpR X (compareOp op') r') (hr : SimR (kk X) r rd) (hr' : SimR (kk X) r' rd') (ha : DE X W a ta da) (hb : DE X W b tb db) (hc : DE X W c tc dc)
    (hm : lastMarks [op, op'] [b, c] = false := by with_unfolding_all rfl) : DE X W (.Compare a [op, op'] [b, c] pos) (tChain r r' ta tb tc) (dChain rd rd' da db dc) := ⟨pe_chain ho ho' ha.pe hb.pe hc.pe hm, sim_chain hr hr' ha.sim hb.sim hc.sim⟩
theorem dt_chain {a b c : Expr} {op op' : CmpOp} {pos : Pos} {r r' : R2} {rd rd' : RD} {ta tb tc : TE} {da db dc : TDE} (ho : OpR X (compareOp op) r) (ho' : OpR X (compareOp op') r') (hr : SimR (kk X) r rd) (hr' : SimR (kk X) r' rd') (ha : DE X W a ta da) (hb : DE X W b tb db) (hc : DE X W c tc dc)
    (hm : lastMarks [op, op'] [b, c] = false := by with_unfolding_all rfl) : DT X W (.Compare a [op, op'] [b, c] pos) (tTest (tChain r r' ta tb tc)) (dTest (dChain rd rd' da db dc)) := ⟨pt_chain ho ho' ha.pe hb.pe hc.pe hm, sim_test (sim_chain hr hr' ha.sim hb.sim hc.sim)⟩

/-- an operation on one value -/
abbrev UD := D → (D → Prop) → Prop
def SimU (K : KW) (r : V → Hp → VK → Prop) (rd : UD) : Prop := ∀ G F H σ en x dx (Q : VK) Qd, Rel K G F H σ en → Is K F dx x → rd dx Qd →
  (∀ z dz F' H', Same F F' → Rel K G F' H' σ en → Is K F' dz z → Qd dz → Q z H') → r x H Q
def dUn (rd : UD) (da : TDE) : TDE := fun en Q Qe => da en (fun x en1 => rd x fun z => Q z en1) Qe
theorem de_un {a : Expr} {op : UnaryOp} {pos : Pos} {r : V → Hp → VK → Prop} {rd : UD} {ta : TE} {da : TDE} (ho : UnR X (unaryOp op) r) (hr : SimU (kk X) r rd) (ha : DE X W a ta da) : DE X W (.UnaryOp op a pos) (tUn r ta) (dUn rd da) :=
  ⟨pe_un ho ha.pe, fun G F H σ en Q Qd Qe R q x k => ha.sim G F H σ en _ _ Qe R q x fun v d F1 H1 en1 e1 R1 i1 q1 =>
    hr G F1 H1 σ en1 v d Q _ R1 i1 q1 fun z dz F3 H3 e3 R3 i3 q3 => k z dz F3 H3 en1 (e1.trans e3) R3 i3 q3⟩

/-! ### tests -/
/-- a datum's truth -/
def truD : D → Option Bool
  | .non => some false
  | .bl b => some b
  | .int i => some (i != 0)
  | .str s => if s.length ≤ sizeLine then some ((s.length : Int) != 0) else none
  | .lst ds => some (!ds.isEmpty)
  | .lck ds => some (!ds.isEmpty)
  | .tup ds => some (!ds.isEmpty)
  | _ => none
theorem truV_of {F H : Hp} (e : Same F H) : ∀ {d : D} {v : V} {b : Bool}, Is K F d v → truD d = some b → TruV K v H b
  | .non, _, _, h, t => by cases h; cases t; rfl
  | .bl _, _, _, h, t => by cases h; cases t; rfl
  | .int _, _, _, h, t => by cases h; cases t; rfl
  | .str s, _, _, h, t => by
    cases h
    by_cases hs : s.length ≤ sizeLine
    · have t' : (if s.length ≤ sizeLine then some ((s.length : Int) != 0) else none) = some _ := t
      rw [if_pos hs] at t'
      cases t'
      exact ⟨hs, rfl⟩
    · have t' : (if s.length ≤ sizeLine then some ((s.length : Int) != 0) else none) = some _ := t
      rw [if_neg hs] at t'
      cases t'
  | .lst ds, _, _, ⟨a, vs, q, s, l⟩, t => by
    subst q; cases t
    refine .inl ⟨vs, SqL.of (e _ _ s), ?_⟩
    have := l.length
    cases ds <;> cases vs <;> simp at this <;> rfl
  | .lck ds, _, _, ⟨a, vs, q, s, l⟩, t => by
    subst q; cases t
    refine .inl ⟨vs, SqL.same e s, ?_⟩
    have := l.length
    cases ds <;> cases vs <;> simp at this <;> rfl
  | .tup ds, _, _, ⟨a, vs, q, s, l⟩, t => by
    subst q; cases t
    refine .inr (.inl ⟨vs, SqT.same e s, ?_⟩)
    have := l.length
    cases ds <;> cases vs <;> simp at this <;> rfl
  | .dct _ _, _, _, _, t => nomatch t
  | .obj _ _ _, _, _, _, t => nomatch t
def dTru (td : TDE) : TDT := fun en Q Qe => td en (fun d en1 => match truD d with
  | some b => Q b en1
  | none => False) Qe
theorem dt_truth {e : Expr} {te : TE} {td : TDE} (h : DE X W e te td) (hp : ∀ whole, isTrue e X.env whole = (do let v ← whole; standAt e.pos; holding [v] (truthy v)) := by intro _; rfl) :
    DT X W e (fun σ H Q => te σ H fun x H' => ∃ k, TruV X.K x H' k ∧ Q k H') (dTru td) := ⟨pt_truth h.pe hp, fun G F H σ en Q Qd Qe R q x k =>
  h.sim G F H σ en _ _ Qe R q x fun v d F1 H1 en1 e1 R1 i1 q1 => by
    split at q1
    · rename_i b ht
      exact ⟨b, truV_of R1.le i1 ht, k b F1 H1 en1 e1 R1 q1⟩
    · exact q1.elim⟩
def dAnd (t u : TDT) : TDT := fun en Q Qe => t en (fun b en1 => if b = true then u en1 Q Qe else Q false en1) Qe
def dOr (t u : TDT) : TDT := fun en Q Qe => t en (fun b en1 => if b = true then Q true en1 else u en1 Q Qe) Qe
def dNot (t : TDT) : TDT := fun en Q Qe => t en (fun b en1 => Q (!b) en1) Qe
theorem dw_and1 {a : Expr} {pos : Pos} {t : TT} {d : TDT} (h : DT X W a t d) : DW X W (.BoolOp .And [a] pos) t d := ⟨pw_and1 h.pt, h.sim⟩
theorem dw_or1 {a : Expr} {pos : Pos} {t : TT} {d : TDT} (h : DT X W a t d) : DW X W (.BoolOp .Or [a] pos) t d := ⟨pw_or1 h.pt, h.sim⟩
theorem sim_and {t u : TT} {d d' : TDT} (h : SimT K W t d) (h' : SimT K W u d') : SimT K W (tAnd t u) (dAnd d d') := fun G F H σ en Q Qd Qe R q x k =>
  h G F H σ en _ _ Qe R q x fun b F1 H1 en1 e1 R1 q1 => by
    cases b with
    | true => exact h' G F1 H1 σ en1 _ _ Qe R1 q1 x fun b F2 H2 en2 e2 R2 q2 => k b F2 H2 en2 (e1.trans e2) R2 q2
    | false => exact k false F1 H1 en1 e1 R1 q1
theorem sim_or {t u : TT} {d d' : TDT} (h : SimT K W t d) (h' : SimT K W u d') : SimT K W (tOr t u) (dOr d d') := fun G F H σ en Q Qd Qe R q x k =>
  h G F H σ en _ _ Qe R q x fun b F1 H1 en1 e1 R1 q1 => by
    cases b with
    | true => exact k true F1 H1 en1 e1 R1 q1
    | false => exact h' G F1 H1 σ en1 _ _ Qe R1 q1 x fun b F2 H2 en2 e2 R2 q2 => k b F2 H2 en2 (e1.trans e2) R2 q2
theorem dw_and {a b : Expr} {rest : List Expr} {pos : Pos} {t u : TT} {d d' : TDT} (h : DT X W a t d) (h' : DW X W (.BoolOp .And (b :: rest) pos) u d') : DW X W (.BoolOp .And (a :: b :: rest) pos) (tAnd t u) (dAnd d d') := ⟨pw_and h.pt h'.pw, sim_and h.sim h'.sim⟩
theorem dw_or {a b : Expr} {rest : List Expr} {pos : Pos} {t u : TT} {d d' : TDT} (h : DT X W a t d) (h' : DW X W (.BoolOp .Or (b :: rest) pos) u d') : DW X W (.BoolOp .Or (a :: b :: rest) pos) (tOr t u) (dOr d d') := ⟨pw_or h.pt h'.pw, sim_or h.sim h'.sim⟩
theorem DW.dt {e : Expr} {t : TT} {d : TDT} (h : DW X W e t d) : DT X W e t d := ⟨h.pw.pt, h.sim⟩
theorem dt_not {a : Expr} {pos : Pos} {t : TT} {d : TDT} (h : DT X W a t d) : DT X W (.UnaryOp .Not a pos) (tNot t) (dNot d) := ⟨pt_not h.pt, fun G F H σ en Q Qd Qe R q x k =>
  h.sim G F H σ en _ _ Qe R q x fun b F1 H1 en1 e1 R1 q1 => k (!b) F1 H1 en1 e1 R1 q1⟩
/-- a if t else b -/
def dIf (t : TDT) (a b : TDE) : TDE := fun en Q Qe => t en (fun c en1 => if c = true then a en1 Q Qe else b en1 Q Qe) Qe
theorem de_if {c a b : Expr} {pos : Pos} {tc : TT} {ta tb : TE} {dc : TDT} {da db : TDE} (hc : DT X W c tc dc) (ha : DE X W a ta da) (hb : DE X W b tb db) : DE X W (.IfExp c a b pos) (tIf tc ta tb) (dIf dc da db) :=
  ⟨pe_ifExp hc.pt ha.pe hb.pe, fun G F H σ en Q Qd Qe R q x k => hc.sim G F H σ en _ _ Qe R q x fun b F1 H1 en1 e1 R1 q1 => by
    cases b with
    | true => exact ha.sim G F1 H1 σ en1 _ _ Qe R1 q1 x fun v d F2 H2 en2 e2 R2 i2 q2 => k v d F2 H2 en2 (e1.trans e2) R2 i2 q2
    | false => exact hb.sim G F1 H1 σ en1 _ _ Qe R1 q1 x fun v d F2 H2 en2 e2 R2 i2 q2 => k v d F2 H2 en2 (e1.trans e2) R2 i2 q2⟩
/-- and, or as values, by truth -/
def dAndV (a b : TDE) : TDE := fun en Q Qe => a en (fun d en1 => match truD d with
  | some true => b en1 Q Qe
  | some false => Q d en1
  | none => False) Qe
def dOrV (a b : TDE) : TDE := fun en Q Qe => a en (fun d en1 => match truD d with
  | some true => Q d en1
  | some false => b en1 Q Qe
  | none => False) Qe
theorem de_and {a b : Expr} {rest : List Expr} {pos : Pos} {ta tb : TE} {da db : TDE} (ha : DE X W a ta da) (hb : DE X W (.BoolOp .And (b :: rest) pos) tb db) : DE X W (.BoolOp .And (a :: b :: rest) pos) (tAndT X.K ta tb) (dAndV da db) :=
  ⟨pe_andT ha.pe hb.pe, fun G F H σ en Q Qd Qe R q x k => ha.sim G F H σ en _ _ Qe R q x fun v d F1 H1 en1 e1 R1 i1 q1 => by
    split at q1
    · rename_i ht
      refine ⟨true, truV_of R1.le i1 ht, ?_⟩
      rw [if_pos rfl]
      exact hb.sim G F1 H1 σ en1 _ _ Qe R1 q1 x fun v d F2 H2 en2 e2 R2 i2 q2 => k v d F2 H2 en2 (e1.trans e2) R2 i2 q2
    · rename_i ht
      refine ⟨false, truV_of R1.le i1 ht, ?_⟩
      rw [if_neg Bool.false_ne_true]
      exact k v d F1 H1 en1 e1 R1 i1 q1
    · exact q1.elim⟩
theorem de_or {a b : Expr} {rest : List Expr} {pos : Pos} {ta tb : TE} {da db : TDE} (ha : DE X W a ta da) (hb : DE X W (.BoolOp .Or (b :: rest) pos) tb db) : DE X W (.BoolOp .Or (a :: b :: rest) pos) (tOrT X.K ta tb) (dOrV da db) :=
  ⟨pe_orT ha.pe hb.pe, fun G F H σ en Q Qd Qe R q x k => ha.sim G F H σ en _ _ Qe R q x fun v d F1 H1 en1 e1 R1 i1 q1 => by
    split at q1
    · rename_i ht
      refine ⟨true, truV_of R1.le i1 ht, ?_⟩
      rw [if_pos rfl]
      exact k v d F1 H1 en1 e1 R1 i1 q1
    · rename_i ht
      refine ⟨false, truV_of R1.le i1 ht, ?_⟩
      rw [if_neg Bool.false_ne_true]
      exact hb.sim G F1 H1 σ en1 _ _ Qe R1 q1 x fun v d F2 H2 en2 e2 R2 i2 q2 => k v d F2 H2 en2 (e1.trans e2) R2 i2 q2
    · exact q1.elim⟩
theorem de_one {a : Expr} {op : BoolOp} {pos : Pos} {ta : TE} {da : TDE} (ha : DE X W a ta da) : DE X W (.BoolOp op [a] pos) ta da := ⟨pe_one ha.pe, ha.sim⟩
def dNotV (a : TDE) : TDE := fun en Q Qe => a en (fun d en1 => match truD d with
  | some b => Q (.bl (!b)) en1
  | none => False) Qe
theorem de_not {a : Expr} {pos : Pos} {ta : TE} {da : TDE} (ha : DE X W a ta da) : DE X W (.UnaryOp .Not a pos) (tNotT X.K ta) (dNotV da) :=
  ⟨pe_notT ha.pe, fun G F H σ en Q Qd Qe R q x k => ha.sim G F H σ en _ _ Qe R q x fun v d F1 H1 en1 e1 R1 i1 q1 => by
    split at q1
    · rename_i b ht
      exact ⟨b, truV_of R1.le i1 ht, k _ (.bl (!b)) F1 H1 en1 e1 R1 rfl q1⟩
    · exact q1.elim⟩

/-! ### argument lists, displays -/
def dNil : TDA := fun en Q _ => Q [] en
def dCons (a : TDE) (r : TDA) : TDA := fun en Q Qe => a en (fun d en1 => r en1 (fun ds en2 => Q (d :: ds) en2) Qe) Qe
theorem da_nil : DA X W [] tNil dNil := ⟨pa_nil, fun G F H σ en Q Qd Qe R q x k => k [] [] F H en (Same.refl F) R rfl q⟩
theorem da_cons {e : Expr} {es : List Expr} {te : TE} {t : TA} {td : TDE} {d : TDA} (h : DE X W e te td) (hr : DA X W es t d) (hs : starEach (e :: es) X.env = (false, eval e X.env) :: starEach es X.env := by rfl) : DA X W (e :: es) (tCons te t) (dCons td d) :=
  ⟨pa_cons h.pe hr.pa hs, fun G F H σ en Q Qd Qe R q x k => h.sim G F H σ en _ _ Qe R q x fun v d F1 H1 en1 e1 R1 i1 q1 => hr.sim G F1 H1 σ en1 _ _ Qe R1 q1 x fun vs ds F2 H2 en2 e2 R2 i2 q2 =>
    k (v :: vs) (d :: ds) F2 H2 en2 (e1.trans e2) R2 ⟨v, vs, rfl, Is.mono e2 _ _ i1, i2⟩ q2⟩
def dTup (a : TDA) : TDE := fun en Q Qe => a en (fun ds en1 => ds.length ≤ sizeLine ∧ Q (.tup ds) en1) Qe
def dLst (a : TDA) : TDE := fun en Q Qe => a en (fun ds en1 => ds.length ≤ sizeLine ∧ Q (.lst ds) en1) Qe
theorem new_tup {G : Gh} {F H : Hp} {σ : L2.St} {en : En} {ds : List D} {vs : List V} {p : Addr} (R : Rel K G F H σ en) (i : IsL K F ds vs) (hp : H p = none) :
    Same F (upd F p (.tup vs)) ∧ Rel K G (upd F p (.tup vs)) (upd H p (.tup vs)) σ en ∧ Is K (upd F p (.tup vs)) (.tup ds) (.ref p) :=
  ⟨same_upd (R.free hp), R.laid hp, p, vs, rfl, .inl (.inl upd_same), IsL.mono (same_upd (R.free hp)) _ _ i⟩
theorem new_lst {G : Gh} {F H : Hp} {σ : L2.St} {en : En} {ds : List D} {vs : List V} {p : Addr} (R : Rel K G F H σ en) (i : IsL K F ds vs) (hp : H p = none) :
    Rel K G F (upd H p (.lst vs)) σ en ∧ Tmp K G F (upd H p (.lst vs)) σ en p (.lst ds) := ⟨R.fresh hp, Tmp.of R hp ⟨vs, upd_same, i⟩⟩
theorem de_tup {es : List Expr} {x1} {pos : Pos} {t : TA} {d : TDA} (h : DA X W es t d) : DE X W (.Tuple es x1 pos) (tTup t) (dTup d) :=
  ⟨pe_tup h.pa, fun G F H σ en Q Qd Qe R q x k => h.sim G F H σ en _ _ Qe R q x fun vs ds F1 H1 en1 e1 R1 i1 q1 => ⟨by rw [i1.length]; exact q1.1, fun p hp => by
    obtain ⟨h1, h2, h3⟩ := new_tup R1 i1 hp
    exact k _ _ _ _ en1 (e1.trans h1) h2 h3 q1.2⟩⟩
theorem do_lst {es : List Expr} {pos : Pos} {t : TA} {d : TDA} (h : DA X W es t d) : DO X W (.List es pos) (tLst t) (dLst d) :=
  ⟨pe_lst h.pa, fun G F H σ en Q Qd Qe R q x k => h.sim G F H σ en _ _ Qe R q x fun vs ds F1 H1 en1 e1 R1 i1 q1 => ⟨by rw [i1.length]; exact q1.1, fun p hp => by
    obtain ⟨h1, h2⟩ := new_lst R1 i1 hp
    exact k _ _ _ _ en1 e1 h1 h2 q1.2⟩⟩

/-! ### statements -/
def dNext : TDS := fun B en => B.nx en
def dSeq (t u : TDS) : TDS := fun B en => t { B with nx := u B } en
def dIfS (c : TDT) (t u : TDS) : TDS := fun B en => c en (fun b en1 => if b = true then t B en1 else u B en1) B.ex
def dRet (e : TDE) : TDS := fun B en => B.fr = false ∧ e en B.rt B.ex
def dRetO (e : TDE) : TDS := fun B en => B.fr = true ∧ e en B.rt B.ex
def dRetN : TDS := fun B en => B.fr = false ∧ B.rt .non en
def dDrop (e : TDE) : TDS := fun B en => e en (fun _ en1 => B.nx en1) B.ex
def dBreak : TDS := fun B en => B.bk en
def dCont : TDS := fun B en => B.ct en
def dNever : TDS := fun _ _ => False
/-- x = e, the value frozen; an object of one's own -/
def dSet (i : Nat) (e : TDE) : TDS := fun B en => e en (fun d en1 => B.nx (en1.set i (some (.fz d)))) B.ex
def dSetO (i : Nat) (e : TDE) : TDS := fun B en => e en (fun d en1 => B.nx (en1.set i (some (.ow false d)))) B.ex
theorem EndsR.seq {G : Gh} {D' : Ends} {B : DEnds} {u : TS} {du : TDS} (h : EndsR K W G D' B) (hu : SimS K W u du) : EndsR K W G { D' with nx := u D' } { B with nx := du B } :=
  ⟨fun F H σ en R q => hu G F H σ en D' B R q h, h.rt, h.bk, h.ct, h.ex, h.rtO⟩
theorem dss_nil : DSs X W [] tNext dNext := ⟨pss_nil, fun G F H σ en D' B R q h => h.nx F H σ en R q⟩
theorem dss_one {s : Stmt} {t : TS} {d : TDS} (h : DS X W s t d) : DSs X W [s] t d := ⟨pss_one h.ps, h.sim⟩
theorem dss_cons {s : Stmt} {ss : List Stmt} {t u : TS} {d d' : TDS} (h : DS X W s t d) (h' : DSs X W ss u d') : DSs X W (s :: ss) (tSeq t u) (dSeq d d') :=
  ⟨pss_cons h.ps h'.ps, fun G F H σ en D' B R q k => h.sim G F H σ en _ _ R q (k.seq h'.sim)⟩
theorem ds_if {c : Expr} {p r : List Stmt} {pos : Pos} {tc : TT} {t u : TS} {dc : TDT} {d d' : TDS} (hc : DT X W c tc dc) (h : DSs X W p t d) (h' : DSs X W r u d') : DS X W (.If c p r pos) (tIfS tc t u) (dIfS dc d d') :=
  ⟨ps_if hc.pt h.ps h'.ps, fun G F H σ en D' B R q k => hc.sim G F H σ en _ _ _ R q k.ex fun b F1 H1 en1 e1 R1 q1 => by
    cases b with
    | true => exact h.sim G F1 H1 σ en1 D' B R1 q1 k
    | false => exact h'.sim G F1 H1 σ en1 D' B R1 q1 k⟩
theorem ds_ret {e : Expr} {pos : Pos} {te : TE} {td : TDE} (h : DE X W e te td) : DS X W (.Return (some e) pos) (tRet te) (dRet td) :=
  ⟨ps_ret h.pe, fun G F H σ en D' B R q k => h.sim G F H σ en _ _ _ R q.2 k.ex fun v d F1 H1 en1 e1 R1 i1 q1 => k.rt v d F1 H1 σ en1 q.1 R1 i1 q1⟩
theorem ds_retO {e : Expr} {pos : Pos} {te : TE} {td : TDE} (h : DO X W e te td) : DS X W (.Return (some e) pos) (tRet te) (dRetO td) :=
  ⟨ps_ret h.pe, fun G F H σ en D' B R q k => h.sim G F H σ en _ _ _ R q.2 k.ex fun a d F1 H1 en1 e1 R1 T1 q1 => k.rtO a d F1 H1 σ en1 q.1 R1 T1 q1⟩
theorem ds_retN {pos : Pos} : DS X W (.Return none pos) tRetN dRetN := ⟨ps_retN, fun G F H σ en D' B R q k => k.rt .non .non F H σ en q.1 R rfl q.2⟩
theorem ds_expr {e : Expr} {pos : Pos} {te : TE} {td : TDE} (h : DE X W e te td) (hs : swapsWith e none pos.line X.env = pure false := by rfl) : DS X W (.Expr e pos) (tDrop te) (dDrop td) :=
  ⟨ps_expr h.pe hs, fun G F H σ en D' B R q k => h.sim G F H σ en _ _ _ R q k.ex fun v d F1 H1 en1 e1 R1 i1 q1 => k.nx F1 H1 σ en1 R1 q1⟩
theorem ds_pass {pos : Pos} : DS X W (.Pass pos) tNext dNext := ⟨ps_pass, fun G F H σ en D' B R q h => h.nx F H σ en R q⟩
theorem ds_break {pos : Pos} : DS X W (.Break pos) tBreak dBreak := ⟨ps_break, fun G F H σ en D' B R q h => h.bk F H σ en R q⟩
theorem ds_cont {pos : Pos} : DS X W (.Continue pos) tCont dCont := ⟨ps_continue, fun G F H σ en D' B R q h => h.ct F H σ en R q⟩
theorem ds_never {s : Stmt} : DS X W s tNever dNever := ⟨ps_never, fun G F H σ en D' B R q h => q.elim⟩
theorem ds_set {i : Nat} {y : Str} {py spos : Pos} {e : Expr} {te : TE} {td : TDE} (hN : X.N.Nodup) (hy : X.N[i]? = some y) (hl : Loc X.env.scope y) (h : DE X W e te td)
    (hs : swapsWith e (some (.Name y py)) spos.line X.env = pure false := by rfl) (hf : X.fn y = true ∨ X.env.scope.names.lookup y = some .local := by first | exact .inl rfl | exact .inr rfl | assumption) : DS X W (.Assign [.Name y py] e spos) (tAsg te (gName i)) (dSet i td) :=
  ⟨ps_asg h.pe (pg_name hN hy hl hf) hs, fun G F H σ en D' B R q k => h.sim G F H σ en _ _ _ R q k.ex fun v d F1 H1 en1 e1 R1 i1 q1 => k.nx F1 H1 _ _ (R1.put i1) q1⟩
theorem ds_setO {i : Nat} {y : Str} {py spos : Pos} {e : Expr} {te : TE} {td : TDE} (hN : X.N.Nodup) (hy : X.N[i]? = some y) (hl : Loc X.env.scope y) (h : DO X W e te td)
    (hs : swapsWith e (some (.Name y py)) spos.line X.env = pure false := by rfl) (hf : X.fn y = true ∨ X.env.scope.names.lookup y = some .local := by first | exact .inl rfl | exact .inr rfl | assumption) : DS X W (.Assign [.Name y py] e spos) (tAsg te (gName i)) (dSetO i td) :=
  ⟨ps_asg h.pe (pg_name hN hy hl hf) hs, fun G F H σ en D' B R q k => h.sim G F H σ en _ _ _ R q k.ex fun a d F1 H1 en1 e1 R1 T1 q1 => k.nx F1 H1 _ _ (R1.putO T1) q1⟩
end
end DL

/-! The D layer, part 3: operators, subscripts, slices. -/
namespace DL
open PySem L2

section
variable {X : Cx} {W : WX} {K : KW}
theorem iI {F : Hp} {i : Int} : Is K F (.int i) (.int i) := rfl
theorem iS {F : Hp} {i : Str} : Is K F (.str i) (.str i) := rfl
theorem iB {F : Hp} {i : Bool} : Is K F (.bl i) (.bl i) := rfl
theorem iN {F : Hp} : Is K F .non .non := rfl
/-! ### + - * // % ** -/
abbrev rAddI : R2 := rI0 fun i j => .int (i + j)
abbrev rAddS : R2 := fun x y H Q => ∃ i j, x = .str i ∧ y = .str j ∧ i.length + j.length ≤ sizeLine ∧ Q (.str (i ++ j)) H
def rAddX (K : Fg) : R2 := fun x y H Q => rAddI x y H Q ∨ rAddS x y H Q ∨ rCat x y H Q ∨ rCatA K x y H Q
theorem op_addX : OpR X (binaryOp .Add) (rAddX X.K) := op_add.or (op_add_str.or (op_cat.or op_catA))
def addD : RD := fun x y Q => match x, y with
  | .int i, .int j => Q (.int (i + j))
  | .str i, .str j => i.length + j.length ≤ sizeLine ∧ Q (.str (i ++ j))
  | .lst a, .lst b => a.length + b.length ≤ sizeLine ∧ Q (.lst (a ++ b))
  | .tup a, .tup b => a.length + b.length ≤ sizeLine ∧ Q (.tup (a ++ b))
  | _, _ => False
theorem new_lstF {G : Gh} {F H : Hp} {σ : L2.St} {en : En} {ds : List D} {vs : List V} {p : Addr} (R : Rel K G F H σ en) (i : IsL K F ds vs) (hp : H p = none) :
    Same F (upd F p (.lst vs)) ∧ Rel K G (upd F p (.lst vs)) (upd H p (.lst vs)) σ en ∧ Is K (upd F p (.lst vs)) (.lst ds) (.ref p) :=
  ⟨same_upd (R.free hp), R.laid hp, p, vs, rfl, upd_same, IsL.mono (same_upd (R.free hp)) _ _ i⟩
theorem IsL.nilV {F : Hp} {ds : List D} (h : IsL K F ds []) : ds = [] := by
  have := h.length
  cases ds with
  | nil => rfl
  | cons _ _ => simp at this
theorem sim_addX : SimR K (rAddX K) addD := by
  intro G F H σ en x y dx dy Q Qd R ix iy q k
  unfold addD at q
  split at q
  · cases ix; cases iy
    exact .inl ⟨_, _, rfl, rfl, k _ _ F H (Same.refl F) R iI q⟩
  · cases ix; cases iy
    exact .inr (.inl ⟨_, _, rfl, rfl, q.1, k _ _ F H (Same.refl F) R iS q.2⟩)
  · obtain ⟨a, vs, rfl, ha, la⟩ := ix
    obtain ⟨b, ws, rfl, hb, lb⟩ := iy
    refine .inr (.inr (.inl ⟨a, b, vs, ws, rfl, rfl, R.le _ _ ha, R.le _ _ hb, by rw [la.length, lb.length]; exact q.1, fun p hp => ?_⟩))
    obtain ⟨h1, h2, h3⟩ := new_lstF R (la.append lb) hp
    exact k _ _ _ _ h1 h2 h3 q.2
  · obtain ⟨a, vs, rfl, ha, la⟩ := ix
    obtain ⟨b, ws, rfl, hb, lb⟩ := iy
    refine .inr (.inr (.inr ⟨a, b, vs, ws, rfl, rfl, SqT.same R.le ha, SqT.same R.le hb, by rw [la.length, lb.length]; exact q.1, fun e => ?_, fun _ e => ?_, fun _ _ p hp => ?_⟩))
    · subst e
      have := la.nilV
      subst this
      exact k _ _ F H (Same.refl F) R (show Is K F (.tup _) _ from ⟨b, ws, rfl, hb, lb⟩) q.2
    · subst e
      have := lb.nilV
      subst this
      rw [List.append_nil] at q
      exact k _ _ F H (Same.refl F) R (show Is K F (.tup _) _ from ⟨a, vs, rfl, ha, la⟩) q.2
    · obtain ⟨h1, h2, h3⟩ := new_tup R (la.append lb) hp
      exact k _ _ _ _ h1 h2 h3 q.2
  · exact q.elim
/-- a list that is one's own -/
def catD : RD := fun x y Q => match x, y with
  | .lst a, .lst b => a.length + b.length ≤ sizeLine ∧ Q (.lst (a ++ b))
  | _, _ => False
theorem do_cat {a b : Expr} {pos : Pos} {ta tb : TE} {da db : TDE} (ha : DE X W a ta da) (hb : DE X W b tb db) : DO X W (.BinOp a .Add b pos) (tOp rCat ta tb) (dOp catD da db) :=
  ⟨pe_op op_cat ha.pe hb.pe, fun G F H σ en Q Qd Qe R q x k => ha.sim G F H σ en _ _ Qe R q x fun v d F1 H1 en1 e1 R1 i1 q1 => hb.sim G F1 H1 σ en1 _ _ Qe R1 q1 x fun u d2 F2 H2 en2 e2 R2 i2 q2 => by
    have i1 := Is.mono e2 _ _ i1
    unfold catD at q2
    split at q2
    · obtain ⟨a, vs, rfl, ha, la⟩ := i1
      obtain ⟨b, ws, rfl, hb, lb⟩ := i2
      refine ⟨a, b, vs, ws, rfl, rfl, R2.le _ _ ha, R2.le _ _ hb, by rw [la.length, lb.length]; exact q2.1, fun p hp => ?_⟩
      obtain ⟨h1, h2⟩ := new_lst R2 (la.append lb) hp
      exact k _ _ _ _ en2 (e1.trans e2) h1 h2 q2.2
    · exact q2.elim⟩

/-- ints to a value, under a condition -/
def iiD (C : Int → Int → Prop) (g : Int → Int → D) : RD := fun x y Q => match x, y with
  | .int i, .int j => C i j ∧ Q (g i j)
  | _, _ => False
def i0D (g : Int → Int → D) : RD := fun x y Q => match x, y with
  | .int i, .int j => Q (g i j)
  | _, _ => False
theorem sim_ii {C : Int → Int → Prop} {g : Int → Int → V} {gd : Int → Int → D} (h : ∀ i j F, Is K F (gd i j) (g i j)) : SimR K (rI C g) (iiD C gd) := by
  intro G F H σ en x y dx dy Q Qd R ix iy q k
  unfold iiD at q
  split at q
  · cases ix; cases iy
    exact ⟨_, _, rfl, rfl, q.1, k _ _ F H (Same.refl F) R (h _ _ F) q.2⟩
  · exact q.elim
theorem sim_i0 {g : Int → Int → V} {gd : Int → Int → D} (h : ∀ i j F, Is K F (gd i j) (g i j)) : SimR K (rI0 g) (i0D gd) := by
  intro G F H σ en x y dx dy Q Qd R ix iy q k
  unfold i0D at q
  split at q
  · cases ix; cases iy
    exact ⟨_, _, rfl, rfl, k _ _ F H (Same.refl F) R (h _ _ F) q⟩
  · exact q.elim
abbrev subD : RD := i0D fun i j => .int (i - j)
abbrev mulD : RD := iiD (fun i j => CMul i j ∨ CMulW i j) fun i j => .int (i * j)
abbrev divD : RD := iiD (fun i j => CDivN i j ∨ CDivW i j) fun i j => .int (i.fdiv j)
abbrev modD : RD := iiD (fun _ j => j ≠ 0) fun i j => .int (i.fmod j)
abbrev powD : RD := iiD CPow fun i j => .int (i ^ j.toNat)
theorem op_mulX : OpR X (binaryOp .Mult) (rI (fun i j => CMul i j ∨ CMulW i j) fun i j => .int (i * j)) := by
  intro pins s σ H x y v u Q I rx ry h
  obtain ⟨i, j, e1, e2, c, q⟩ := h
  rcases c with c | c
  · exact op_mul pins s σ H x y v u Q I rx ry ⟨i, j, e1, e2, c, q⟩
  · exact op_mulW pins s σ H x y v u Q I rx ry ⟨i, j, e1, e2, c, q⟩
theorem op_divX : OpR X (binaryOp .FloorDiv) (rI (fun i j => CDivN i j ∨ CDivW i j) fun i j => .int (i.fdiv j)) := by
  intro pins s σ H x y v u Q I rx ry h
  obtain ⟨i, j, e1, e2, c, q⟩ := h
  rcases c with c | c
  · exact op_fdivN pins s σ H x y v u Q I rx ry ⟨i, j, e1, e2, c, q⟩
  · have e : (V.int (i / j)) = V.int (i.fdiv j) := by rw [Int.fdiv_eq_ediv_of_nonneg i (Int.le_of_lt c.1)]
    exact op_fdivW pins s σ H x y v u Q I rx ry ⟨i, j, e1, e2, c, by
      show Q (.int (i / j)) H
      rw [e]
      exact q⟩
section
variable {a b : Expr} {pos : Pos} {ta tb : TE} {da db : TDE}
theorem de_add (ha : DE X W a ta da) (hb : DE X W b tb db) : DE X W (.BinOp a .Add b pos) (tOp (rAddX X.K) ta tb) (dOp addD da db) := de_op op_addX sim_addX ha hb
abbrev rSubI : R2 := rI0 fun i j => .int (i - j)
abbrev rMulI : R2 := rI (fun i j => CMul i j ∨ CMulW i j) fun i j => .int (i * j)
abbrev rDivI : R2 := rI (fun i j => CDivN i j ∨ CDivW i j) fun i j => .int (i.fdiv j)
abbrev rModI : R2 := rI (fun _ j => j ≠ 0) fun i j => .int (i.fmod j)
abbrev rPowI : R2 := rI CPow fun i j => .int (i ^ j.toNat)
theorem de_sub (ha : DE X W a ta da) (hb : DE X W b tb db) : DE X W (.BinOp a .Sub b pos) (tOp rSubI ta tb) (dOp subD da db) := de_op op_sub (sim_i0 (gd := fun i j => .int (i - j)) fun _ _ _ => rfl) ha hb
theorem de_mul (ha : DE X W a ta da) (hb : DE X W b tb db) : DE X W (.BinOp a .Mult b pos) (tOp rMulI ta tb) (dOp mulD da db) := de_op op_mulX (sim_ii (gd := fun i j => .int (i * j)) fun _ _ _ => rfl) ha hb
theorem de_div (ha : DE X W a ta da) (hb : DE X W b tb db) : DE X W (.BinOp a .FloorDiv b pos) (tOp rDivI ta tb) (dOp divD da db) := de_op op_divX (sim_ii (gd := fun i j => .int (i.fdiv j)) fun _ _ _ => rfl) ha hb
theorem de_mod (ha : DE X W a ta da) (hb : DE X W b tb db) : DE X W (.BinOp a .Mod b pos) (tOp rModI ta tb) (dOp modD da db) := de_op op_modN (sim_ii (gd := fun i j => .int (i.fmod j)) fun _ _ _ => rfl) ha hb
theorem de_pow (ha : DE X W a ta da) (hb : DE X W b tb db) : DE X W (.BinOp a .Pow b pos) (tOp rPowI ta tb) (dOp powD da db) := de_op op_pow (sim_ii (gd := fun i j => .int (i ^ j.toNat)) fun _ _ _ => rfl) ha hb
end
/-- the sign -/
def negD : UD := fun x Q => match x with
  | .int i => Q (.int (-i))
  | _ => False
theorem de_neg {a : Expr} {pos : Pos} {ta : TE} {da : TDE} (ha : DE X W a ta da) : DE X W (.UnaryOp .USub a pos) (tUn (rU fun i => .int (-i)) ta) (dUn negD da) := de_un un_neg (by
  intro G F H σ en x dx Q Qd R ix q k
  unfold negD at q
  split at q
  · cases ix
    exact ⟨_, rfl, k _ _ F H (Same.refl F) R iI q⟩
  · exact q.elim) ha

/-! ### comparisons -/
def ltD : RD := fun x y Q => match x, y with
  | .int i, .int j => Q (.bl (decide (i < j)))
  | _, _ => False
def leD : RD := fun x y Q => match x, y with
  | .int i, .int j => Q (.bl (decide (i ≤ j)))
  | _, _ => False
def gtD : RD := fun x y Q => match x, y with
  | .int i, .int j => Q (.bl (decide (j < i)))
  | _, _ => False
def geD : RD := fun x y Q => match x, y with
  | .int i, .int j => Q (.bl (decide (j ≤ i)))
  | _, _ => False
section
variable {a b : Expr} {pos : Pos} {ta tb : TE} {da db : TDE}
theorem sim_lt : SimR K (rI0 fun i j => .bl (decide (i < j))) ltD := sim_i0 (gd := fun i j => .bl (decide (i < j))) fun _ _ _ => rfl
theorem sim_le : SimR K (rI0 fun i j => .bl (decide (i ≤ j))) leD := sim_i0 (gd := fun i j => .bl (decide (i ≤ j))) fun _ _ _ => rfl
theorem sim_gt : SimR K (rI0 fun i j => .bl (decide (j < i))) gtD := sim_i0 (gd := fun i j => .bl (decide (j < i))) fun _ _ _ => rfl
theorem sim_ge : SimR K (rI0 fun i j => .bl (decide (j ≤ i))) geD := sim_i0 (gd := fun i j => .bl (decide (j ≤ i))) fun _ _ _ => rfl
end
/-- is None, True, False -/
def isNon : D → Bool
  | .non => true
  | _ => false
def isBl (b : Bool) : D → Bool
  | .bl c => c == b
  | _ => false
def rIsC (neg : Bool) : R2 := fun x y H Q => (y = .non ∨ ∃ b, y = .bl b) ∧ Q (.bl (decide (x = y) != neg)) H
theorem op_isC : OpR X (compareOp .Is) (rIsC false) := by
  intro pins s σ H x y v u Q I rx ry h
  obtain ⟨hy, q⟩ := h
  have q : Q (.bl (decide (x = y))) H := by simpa using q
  rcases hy with rfl | ⟨b, rfl⟩
  · exact op_isN pins s σ H x _ v u Q I rx ry ⟨rfl, q⟩
  · cases (show u = Value.bool b from ry)
    have e : (v == Value.bool b) = decide (x = V.bl b) := by
      cases x with
      | bl c => cases (show v = Value.bool c from rx); rw [Bool.eq_iff_iff]; simp
      | int i => obtain ⟨t, rfl⟩ := rx; rfl
      | str i => obtain ⟨t, rfl⟩ := rx; rfl
      | byt i => obtain ⟨t, rfl⟩ := rx; rfl
      | flt i => obtain ⟨t, rfl⟩ := rx; rfl
      | non => cases rx; rfl
      | ref i => cases rx; rfl
      | ty i => cases rx; rfl
    have p : plainIs v (Value.bool b) = true := by
      cases x with
      | bl c => cases (show v = Value.bool c from rx); rfl
      | int i => obtain ⟨t, rfl⟩ := rx; rfl
      | str i => obtain ⟨t, rfl⟩ := rx; rfl
      | byt i => obtain ⟨t, rfl⟩ := rx; rfl
      | flt i => obtain ⟨t, rfl⟩ := rx; rfl
      | non => cases rx; rfl
      | ref i => cases rx; rfl
      | ty i => cases rx; rfl
    exact wpAny_is_plain p (fin_bl I q e.symm)
theorem op_isNC : OpR X (compareOp .IsNot) (rIsC true) := by
  intro pins s σ H x y v u Q I rx ry h
  obtain ⟨hy, q⟩ := h
  have q : Q (.bl (!decide (x = y))) H := by simpa using q
  rcases hy with rfl | ⟨b, rfl⟩
  · exact op_notN pins s σ H x _ v u Q I rx ry ⟨rfl, q⟩
  · cases (show u = Value.bool b from ry)
    have e : (v == Value.bool b) = decide (x = V.bl b) := by
      cases x with
      | bl c => cases (show v = Value.bool c from rx); rw [Bool.eq_iff_iff]; simp
      | int i => obtain ⟨t, rfl⟩ := rx; rfl
      | str i => obtain ⟨t, rfl⟩ := rx; rfl
      | byt i => obtain ⟨t, rfl⟩ := rx; rfl
      | flt i => obtain ⟨t, rfl⟩ := rx; rfl
      | non => cases rx; rfl
      | ref i => cases rx; rfl
      | ty i => cases rx; rfl
    have p : plainIs v (Value.bool b) = true := by
      cases x with
      | bl c => cases (show v = Value.bool c from rx); rfl
      | int i => obtain ⟨t, rfl⟩ := rx; rfl
      | str i => obtain ⟨t, rfl⟩ := rx; rfl
      | byt i => obtain ⟨t, rfl⟩ := rx; rfl
      | flt i => obtain ⟨t, rfl⟩ := rx; rfl
      | non => cases rx; rfl
      | ref i => cases rx; rfl
      | ty i => cases rx; rfl
    exact wpAny_isNot_plain p (fin_bl I q (by rw [e]))
def isD (neg : Bool) : RD := fun x y Q => match y with
  | .non => Q (.bl (isNon x != neg))
  | .bl b => Q (.bl (isBl b x != neg))
  | _ => False
theorem is_non {F : Hp} {d : D} {v : V} (h : Is K F d v) : decide (v = .non) = isNon d := by
  cases d with
  | non => cases h; rfl
  | bl b => cases h; rfl
  | int b => cases h; rfl
  | str b => cases h; rfl
  | tup b => obtain ⟨a, vs, rfl, _⟩ := h; rfl
  | lst b => obtain ⟨a, vs, rfl, _⟩ := h; rfl
  | lck b => obtain ⟨a, vs, rfl, _⟩ := h; rfl
  | dct b => obtain ⟨a, _, _, _, _, _, rfl, _⟩ := h; rfl
  | obj C ns ds => obtain ⟨a, dx, vs, rfl, _⟩ := h; rfl
theorem is_bl {F : Hp} {d : D} {v : V} {c : Bool} (h : Is K F d v) : decide (v = .bl c) = isBl c d := by
  cases d with
  | non => cases h; rfl
  | bl b => cases h; rw [Bool.eq_iff_iff]; simp [isBl]
  | int b => cases h; rfl
  | str b => cases h; rfl
  | tup b => obtain ⟨a, vs, rfl, _⟩ := h; rfl
  | lst b => obtain ⟨a, vs, rfl, _⟩ := h; rfl
  | lck b => obtain ⟨a, vs, rfl, _⟩ := h; rfl
  | dct b => obtain ⟨a, _, _, _, _, _, rfl, _⟩ := h; rfl
  | obj C ns ds => obtain ⟨a, dx, vs, rfl, _⟩ := h; rfl
theorem sim_is {neg : Bool} : SimR K (rIsC neg) (isD neg) := by
  intro G F H σ en x y dx dy Q Qd R ix iy q k
  unfold isD at q
  split at q
  · cases iy
    rw [← is_non ix] at q
    exact ⟨.inl rfl, k _ _ F H (Same.refl F) R iB q⟩
  · cases iy
    rw [← is_bl ix] at q
    exact ⟨.inr ⟨_, rfl⟩, k _ _ F H (Same.refl F) R iB q⟩
  · exact q.elim
/-! ### == -/
/-- equal scalars; none: not both are scalars -/
def scalD : D → D → Option Bool
  | .int i, .int j => some (decide (i = j))
  | .str i, .str j => some (decide (i = j))
  | .bl i, .bl j => some (decide (i = j))
  | .non, .non => some true
  | .non, .int _ => some false | .non, .str _ => some false | .non, .bl _ => some false
  | .int _, .non => some false | .str _, .non => some false | .bl _, .non => some false
  | .int _, .str _ => some false | .str _, .int _ => some false | .bl _, .str _ => some false | .str _, .bl _ => some false
  | _, _ => none
mutual
def D.py : D → Option PyData
  | .non => some .none
  | .bl b => some (.bool b)
  | .int i => some (.int i)
  | .str s => some (.str s)
  | .tup xs => (D.pyL xs).map .tuple
  | .lst xs => (D.pyL xs).map .list
  | .lck xs => (D.pyL xs).map .list
  | _ => none
def D.pyL : List D → Option (List PyData)
  | [] => some []
  | d :: ds => match D.py d, D.pyL ds with
    | some p, some ps => some (p :: ps)
    | _, _ => none
end
mutual
theorem dp_of {F H : Hp} (e : Same F H) : ∀ (d : D) (v : V) (p : PyData), Is K F d v → d.py = some p → Dp K H v p
  | .non, _, _, h, t => by cases h; cases t; exact .non
  | .bl _, _, _, h, t => by cases h; cases t; exact .bl _
  | .int _, _, _, h, t => by cases h; cases t; exact .int _
  | .str _, _, _, h, t => by cases h; cases t; exact .str _
  | .tup ds, _, _, ⟨a, vs, q, s, l⟩, t => by
    subst q
    unfold D.py at t
    cases w : D.pyL ds with
    | none => rw [w] at t; cases t
    | some ps => rw [w] at t; cases t; exact .tup (SqT.same e s) (dp_ofL e ds vs ps l w)
  | .lst ds, _, _, ⟨a, vs, q, s, l⟩, t => by
    subst q
    unfold D.py at t
    cases w : D.pyL ds with
    | none => rw [w] at t; cases t
    | some ps => rw [w] at t; cases t; exact .lst (SqL.of (e _ _ s)) (dp_ofL e ds vs ps l w)
  | .lck ds, _, _, ⟨a, vs, q, s, l⟩, t => by
    subst q
    unfold D.py at t
    cases w : D.pyL ds with
    | none => rw [w] at t; cases t
    | some ps => rw [w] at t; cases t; exact .lst (SqL.same e s) (dp_ofL e ds vs ps l w)
  | .dct _ _, _, _, _, t => nomatch t
  | .obj _ _ _, _, _, _, t => nomatch t
theorem dp_ofL {F H : Hp} (e : Same F H) : ∀ (ds : List D) (vs : List V) (ps : List PyData), IsL K F ds vs → D.pyL ds = some ps → DpAll K H vs ps
  | [], _, _, h, t => by cases h; cases t; exact .nil
  | d :: ds, _, _, ⟨v, r, q, h, l⟩, t => by
    subst q
    unfold D.pyL at t
    cases w : D.py d with
    | none => rw [w] at t; cases t
    | some p =>
      cases w2 : D.pyL ds with
      | none => rw [w, w2] at t; cases t
      | some ps => rw [w, w2] at t; cases t; exact .cons (dp_of e d v p h w) (dp_ofL e ds r ps l w2)
end
def eqBD (neg : Bool) : RD := fun x y Q => match scalD x y with
  | some b => Q (.bl (b != neg))
  | none => match x.py, y.py with
    | some p, some q => SeqAt.shaped p = true ∧ SeqAt.shaped q = true ∧ Q (.bl (PyData.eqv p q != neg))
    | _, _ => False
abbrev eqD : RD := eqBD false
abbrev neD : RD := eqBD true
theorem scal_of {F : Hp} {dx dy : D} {x y : V} {b : Bool} (hx : Is K F dx x) (hy : Is K F dy y) (h : scalD dx dy = some b) : scal x y = true ∧ decide (x = y) = b := by
  unfold scalD at h
  split at h <;> first
    | (cases hx; cases hy; cases h; refine ⟨rfl, ?_⟩; rw [Bool.eq_iff_iff]; simp)
    | (cases h)
def rEqX (K : Fg) : R2 := fun x y H Q => rEq x y H Q ∨ rEqD K x y H Q
def rNeX (K : Fg) : R2 := fun x y H Q => rNe x y H Q ∨ rNeD K x y H Q
theorem sim_eq : SimR K (rEqX K) eqD := by
  intro G F H σ en x y dx dy Q Qd R ix iy q k
  unfold eqD eqBD at q
  split at q
  · rename_i b hb
    obtain ⟨h1, h2⟩ := scal_of ix iy hb
    rw [← h2] at q
    exact .inl ⟨h1, k _ _ F H (Same.refl F) R iB (by simpa using q)⟩
  · split at q
    · rename_i p r h1 h2
      exact .inr ⟨p, r, dp_of R.le _ _ _ ix h1, dp_of R.le _ _ _ iy h2, q.1, q.2.1, k _ _ F H (Same.refl F) R iB (by simpa using q.2.2)⟩
    · exact q.elim
theorem sim_ne : SimR K (rNeX K) neD := by
  intro G F H σ en x y dx dy Q Qd R ix iy q k
  unfold neD eqBD at q
  split at q
  · rename_i b hb
    obtain ⟨h1, h2⟩ := scal_of ix iy hb
    rw [← h2] at q
    exact .inl ⟨h1, k _ _ F H (Same.refl F) R iB (by simpa using q)⟩
  · split at q
    · rename_i p r h1 h2
      exact .inr ⟨p, r, dp_of R.le _ _ _ ix h1, dp_of R.le _ _ _ iy h2, q.1, q.2.1, k _ _ F H (Same.refl F) R iB (by simpa using q.2.2)⟩
    · exact q.elim
theorem op_eqX (hu : X.A.units + 64 < cLine) : OpR X (compareOp .Eq) (rEqX X.K) := op_eq.or (op_eqD hu)
theorem op_neX (hu : X.A.units + 64 < cLine) : OpR X (compareOp .NotEq) (rNeX X.K) := op_ne.or (op_neD hu)
/-! ### in -/
/-- flat data, and their == -/
def flatD : D → Bool
  | .non => true | .bl _ => true | .int _ => true | .str _ => true
  | _ => false
def eqFD : D → D → Bool
  | .non, .non => true
  | .bl a, .bl b => a == b
  | .bl a, .int b => (if a then 1 else 0) == b
  | .int a, .bl b => a == (if b then 1 else 0)
  | .int a, .int b => a == b
  | .str a, .str b => a == b
  | _, _ => false
def inFD (x : D) (xs : List D) : Bool := xs.any fun y => eqFD y x
theorem flatV_of {F : Hp} {d : D} {v : V} (h : Is K F d v) (f : flatD d = true) : flatV v = true := by
  cases d <;> first | (cases h; rfl) | cases f
theorem flatL_of {F : Hp} : ∀ {ds : List D} {vs : List V}, IsL K F ds vs → ds.all flatD = true → vs.all flatV = true
  | [], _, h, _ => by cases h; rfl
  | d :: ds, _, ⟨v, r, q, h, l⟩, f => by
    subst q
    rw [List.all_cons, Bool.and_eq_true] at f ⊢
    exact ⟨flatV_of h f.1, flatL_of l f.2⟩
theorem eqV_of {F : Hp} {d e : D} {v u : V} (h : Is K F d v) (h' : Is K F e u) (f : flatD d = true) (f' : flatD e = true) : eqV v u = eqFD d e := by
  cases d <;> (first | (cases f; done) | skip) <;> cases h <;> cases e <;> (first | (cases f'; done) | skip) <;> cases h' <;> rfl
theorem inV_of {F : Hp} {d : D} {v : V} (h : Is K F d v) (f : flatD d = true) : ∀ {ds : List D} {vs : List V}, IsL K F ds vs → ds.all flatD = true → inV v vs = inFD d ds
  | [], _, l, _ => by cases l; rfl
  | e :: ds, _, ⟨u, r, q, k, l⟩, g => by
    subst q
    rw [List.all_cons, Bool.and_eq_true] at g
    have e1 : inV v (u :: r) = (eqV u v || inV v r) := by simp [inV]
    have e2 : inFD d (e :: ds) = (eqFD e d || inFD d ds) := by simp [inFD]
    rw [e1, e2, eqV_of k h g.1 f, inV_of h f l g.2]
abbrev rInSt (neg : Bool) : R2 := fun x y H Q => ∃ i j, x = .str i ∧ y = .str j ∧ Q (.bl ((!(Builtin.Str.occurrences j i 0 j.length 1).isEmpty) != neg)) H
def rInDct (K : KW) (neg : Bool) : R2 := fun x y H Q => ∃ a ks kvs us k, y = .ref a ∧ DAt K.w H a ks kvs us ∧ Kfit K H ks kvs k x ∧ Q (.bl ((lkp ks us k).isSome != neg)) H
def rInX (K : KW) (neg : Bool) : R2 := fun x y H Q => (rIn K neg x y H Q ∨ rInSt neg x y H Q) ∨ rInDct K neg x y H Q
theorem op_inDct (hu : X.A.units + 64 < cLine) : OpR X (compareOp .In) (rInDct (kk X) false) := by
  intro pins s σ H x y v u Q I rx ry ⟨a, ks, kvs, us, k, e, hd, hf, q⟩
  subst e
  cases ry
  exact dd_in hu I hd hf rx fun s' I' => ⟨.bl (lkp ks us k).isSome, H, I', rfl, by simpa using q⟩
theorem op_notInDct (hu : X.A.units + 64 < cLine) : OpR X (compareOp .NotIn) (rInDct (kk X) true) := by
  intro pins s σ H x y v u Q I rx ry ⟨a, ks, kvs, us, k, e, hd, hf, q⟩
  subst e
  cases ry
  exact dd_notIn hu I hd hf rx fun s' I' => ⟨.bl (!(lkp ks us k).isSome), H, I', rfl, by simpa using q⟩
theorem in_dct {F H : Hp} {x : V} {dx : D} {a : Addr} {ds es : List D} {neg : Bool} {ks : List NestedKey} {kvs us : List V} {Q : VK} {Qd : D → Prop} (e : Same F H) (ix : Is K F dx x) (hh : DHas K F H a ds es ks kvs us) (q : fitD ds dx = true ∧ Qd (.bl ((lkD ds es dx).isSome != neg))) (k : ∀ z dz, Is K F dz z → Qd dz → Q z H) : rInDct K neg x (.ref a) H Q := by
  obtain ⟨j, hj⟩ := fit_some q.1
  refine ⟨a, ks, kvs, us, j, rfl, hh.at_, kfit_of e hh.hk hh.lk hj ix q.1, k _ _ iB ?_⟩
  obtain ⟨l1, l2⟩ := lk_of (K := K) (F := F) hj hh.hk hh.lv
  cases w : lkD ds es dx with
  | none => rw [l2 w]; have := q.2; rw [w] at this; exact this
  | some d =>
    obtain ⟨v, h1, h2⟩ := l1 d w
    rw [h1]; have := q.2; rw [w] at this; exact this
/-- one text within another -/
def subS (i j : Str) : Bool := !(Builtin.Str.occurrences j i 0 j.length 1).isEmpty
def inD (neg : Bool) : RD := fun x y Q => match y with
  | .lst ds => flatD x = true ∧ ds.all flatD = true ∧ Q (.bl (inFD x ds != neg))
  | .lck ds => flatD x = true ∧ ds.all flatD = true ∧ Q (.bl (inFD x ds != neg))
  | .tup ds => flatD x = true ∧ ds.all flatD = true ∧ Q (.bl (inFD x ds != neg))
  | .str j => match x with
    | .str i => Q (.bl (subS i j != neg))
    | _ => False
  | .dct ds es => fitD ds x = true ∧ Q (.bl ((lkD ds es x).isSome != neg))
  | _ => False
theorem neg_if {a neg : Bool} : (if neg then !a else a) = (a != neg) := by cases neg <;> simp
theorem sim_in {neg : Bool} : SimR K (rInX K neg) (inD neg) := by
  intro G F H σ en x y dx dy Q Qd R ix iy q k
  unfold inD at q
  split at q
  · rename_i ds
    obtain ⟨a, vs, rfl, ha, la⟩ := iy
    exact .inl <| .inl ⟨a, vs, rfl, .inl (SqL.of (R.le _ _ ha)), flatV_of ix q.1, flatL_of la q.2.1, k _ _ F H (Same.refl F) R iB (by rw [neg_if, inV_of ix q.1 la q.2.1]; exact q.2.2)⟩
  · rename_i ds
    obtain ⟨a, vs, rfl, ha, la⟩ := iy
    exact .inl <| .inl ⟨a, vs, rfl, .inl (SqL.same R.le ha), flatV_of ix q.1, flatL_of la q.2.1, k _ _ F H (Same.refl F) R iB (by rw [neg_if, inV_of ix q.1 la q.2.1]; exact q.2.2)⟩
  · rename_i ds
    obtain ⟨a, vs, rfl, ha, la⟩ := iy
    exact .inl <| .inl ⟨a, vs, rfl, .inr (SqT.same R.le ha), flatV_of ix q.1, flatL_of la q.2.1, k _ _ F H (Same.refl F) R iB (by rw [neg_if, inV_of ix q.1 la q.2.1]; exact q.2.2)⟩
  · rename_i j
    cases dx with
    | str i =>
      cases ix; cases iy
      exact .inl <| .inr ⟨_, _, rfl, rfl, k _ (.bl (subS i j != neg)) F H (Same.refl F) R rfl q⟩
    | _ => exact q.elim
  · obtain ⟨a, ks, kvs, us, rfl, hh⟩ := dhas_fz R.le iy
    exact .inr (in_dct R.le ix hh q fun z dz i q' => k z dz F H (Same.refl F) R i q')
  · exact q.elim
theorem op_inX (hu : X.A.units + 64 < cLine) : OpR X (compareOp .In) (rInX (kk X) false) := OpR.or (OpR.or op_in_seq fun pins s σ H x y v u Q I rx ry ⟨i, j, h1, h2, q⟩ => op_in_str pins s σ H x y v u Q I rx ry ⟨i, j, h1, h2, by simpa using q⟩) (op_inDct hu)
theorem op_notInX (hu : X.A.units + 64 < cLine) : OpR X (compareOp .NotIn) (rInX (kk X) true) := OpR.or (OpR.or op_notIn_seq fun pins s σ H x y v u Q I rx ry ⟨i, j, h1, h2, q⟩ => op_notIn_str pins s σ H x y v u Q I rx ry ⟨i, j, h1, h2, by simpa using q⟩) (op_notInDct hu)

/-! ### subscripts -/
def atD (ds : List D) (i : Int) : Option D := atI ds i
theorem atI_of {F : Hp} {ds : List D} {vs : List V} {i : Int} {d : D} (l : IsL K F ds vs) (h : atI ds i = some d) : ∃ v, atI vs i = some v ∧ Is K F d v := by
  unfold atI at h ⊢
  rw [l.length]
  cases e : ixN ds.length i with
  | none => rw [e] at h; cases h
  | some j => rw [e] at h; exact l.get h
def ixD : RD := fun x y Q => match x, y with
  | .lst ds, .int i => ∃ d, atI ds i = some d ∧ Q d
  | .lck ds, .int i => ∃ d, atI ds i = some d ∧ Q d
  | .tup ds, .int i => ∃ d, atI ds i = some d ∧ Q d
  | .str s, .int i => s.length ≤ sizeLine ∧ ∃ c, atI s.cps.toList i = some c ∧ Q (.str ⟨#[c]⟩)
  | .dct ds es, j => fitD ds j = true ∧ ∃ e, lkD ds es j = some e ∧ Q e
  | _, _ => False
def rIxDct (K : KW) : R2 := fun x y H Q => ∃ a ks kvs us k v, x = .ref a ∧ DAt K.w H a ks kvs us ∧ Kfit K H ks kvs k y ∧ lkp ks us k = some v ∧ Q v H
def rIxX (K : KW) : R2 := fun x y H Q => rIx K x y H Q ∨ rIxDct K x y H Q
theorem subD_tail {prog : Program} {w : World} {A : Around} {E : Value → Shared → Prop} {s : Shared} {value slice : Expr} {T id : String} {o i : Value} {Q : Value → Shared → Prop} (hT : s.TypeIs o T)
    (hl : typeLookup (.type T) "__getitem__" = pure (some (.builtin id))) (hs : subscripted slice false o i = operate [o, i] (getItem o i)) (h : wpAny (model prog w) A (getItem o i) Q E s) : wpAny (model prog w) A (PyProof.Rows.subscriptTail value slice o i) Q E s := by
  unfold PyProof.Rows.subscriptTail
  refine wpAny_bind ?_
  rw [getitemInPython_of_ne hT.not_modules]
  refine wpAny_bind (wpAny_specialOf hT hl ?_)
  have fin : wpAny (model prog w) A (subscripted slice false o i) (fun r s₃ => wpAny (model prog w) A (letTemporaryGo value o r >>= fun _ => pure r) Q E s₃) E s := by
    rw [hs]
    exact wpAny_operating (wpAny_mono h (fun r s₃ h₃ => wpAny_bind (wpAny_letTemporaryGo (wpAny_pure h₃))) fun _ _ x => x)
  first
    | exact wpAny_pure (wpAny_bind fin)
    | exact wpAny_bind (wpAny_pure (wpAny_bind fin))
    | exact wpAny_bind fin
theorem ix_dct (hu : X.A.units + 64 < cLine) : IxR X (rIxDct (kk X)) := by
  intro value slice pins s σ H x y v u Q I rx ry ⟨a, ks, kvs, us, k, z, e, hd, hf, hl, q⟩ hs
  subst e
  cases rx
  obtain ⟨o, ho, dx, _⟩ := hd.obj I
  have hT : s.TypeIs (.ref a) "dict" := ⟨o, ho, dx.1⟩
  exact subD_tail hT PySem.F.slot_dict_getitem.lookup hs (dd_getItem hu I hd hf hl ry fun w' s' I' r => ⟨z, H, I', r, q⟩)
theorem ix_X (hu : X.A.units + 64 < cLine) : IxR X (rIxX (kk X)) := ix_seq.or (ix_dct hu)
theorem ix_dctD {F H : Hp} {y : V} {dy : D} {a : Addr} {ds es : List D} {ks : List NestedKey} {kvs us : List V} {Q : VK} {Qd : D → Prop} (e : Same F H) (iy : Is K F dy y) (hh : DHas K F H a ds es ks kvs us) (q : fitD ds dy = true ∧ ∃ e, lkD ds es dy = some e ∧ Qd e) (k : ∀ z dz, Is K F dz z → Qd dz → Q z H) : rIxDct K (.ref a) y H Q := by
  obtain ⟨f, d, h1, h2⟩ := q
  obtain ⟨j, hj⟩ := fit_some f
  obtain ⟨v, h3, h4⟩ := (lk_of (K := K) (F := F) hj hh.hk hh.lv).1 d h1
  exact ⟨a, ks, kvs, us, j, v, rfl, hh.at_, kfit_of e hh.hk hh.lk hj iy f, h3, k _ _ h4 h2⟩
theorem ixD_run {G : Gh} {F H : Hp} {σ : L2.St} {en : En} {x y : V} {dx dy : D} {Q : VK} {Qd : D → Prop} (R : Rel K G F H σ en) (ix : Is K F dx x) (iy : Is K F dy y) (q : ixD dx dy Qd)
    (k : ∀ z dz, Is K F dz z → Qd dz → Q z H) : rIxX K x y H Q := by
  unfold ixD at q
  split at q
  · obtain ⟨a, vs, rfl, ha, la⟩ := ix
    cases iy
    obtain ⟨d, h1, h2⟩ := q
    obtain ⟨v, h3, h4⟩ := atI_of la h1
    exact .inl <| .inl ⟨a, vs, _, v, rfl, rfl, SqL.of (R.le _ _ ha), h3, k v d h4 h2⟩
  · obtain ⟨a, vs, rfl, ha, la⟩ := ix
    cases iy
    obtain ⟨d, h1, h2⟩ := q
    obtain ⟨v, h3, h4⟩ := atI_of la h1
    exact .inl <| .inl ⟨a, vs, _, v, rfl, rfl, SqL.same R.le ha, h3, k v d h4 h2⟩
  · obtain ⟨a, vs, rfl, ha, la⟩ := ix
    cases iy
    obtain ⟨d, h1, h2⟩ := q
    obtain ⟨v, h3, h4⟩ := atI_of la h1
    exact .inl <| .inr (.inl ⟨a, vs, _, v, rfl, rfl, SqT.same R.le ha, h3, k v d h4 h2⟩)
  · cases ix; cases iy
    obtain ⟨h0, c, h1, h2⟩ := q
    exact .inl <| .inr (.inr ⟨_, _, c, rfl, rfl, h0, h1, k _ _ iS h2⟩)
  · obtain ⟨a, ks, kvs, us, rfl, hh⟩ := dhas_fz R.le ix
    exact .inr (ix_dctD R.le iy hh q k)
  · exact q.elim
theorem sim_ix : SimR K (rIxX K) ixD := fun G F H σ en x y dx dy Q Qd R ix iy q k => ixD_run R ix iy q fun z dz i q' => k z dz F H (Same.refl F) R i q'
theorem de_ix (hu : X.A.units + 64 < cLine) {a b : Expr} {pos : Pos} {ta tb : TE} {da db : TDE} (ha : DE X W a ta da) (hb : DE X W b tb db) (hs : PlainIx b := by exact fun _ _ => rfl) : DE X W (.Subscript a b pos) (tOp (rIxX (kk X)) ta tb) (dOp ixD da db) := ⟨pe_ix (ix_X hu) ha.pe hb.pe hs, sim_op sim_ix ha.sim hb.sim⟩

/-- what an own slot holds, read where it stands -/
theorem peek_own {G : Gh} {F H : Hp} {σ : L2.St} {en : En} {i : Nat} {d : D} (R : Rel K G F H σ en) (h : peek en i = some d) : ∃ v, σ[i]? = some (some v) ∧ (Is K F d v ∨ ∃ a, v = .ref a ∧ OwAt K F H a d) := by
  unfold peek at h
  split at h
  · rename_i e
    cases h
    obtain ⟨v, h1, h2⟩ := R.fz i d e
    exact ⟨v, h1, .inl h2⟩
  · rename_i e
    cases h
    obtain ⟨a, h1, _, h3, _⟩ := R.ow i _ d e
    exact ⟨_, h1, .inr ⟨a, rfl, h3⟩⟩
  · cases h
/-- x[e] of a name, x not frozen -/
def dIxV (i : Nat) (db : TDE) : TDE := fun en Q Qe => (peek en i).isSome = true ∧ db en (fun y en2 => match peek en2 i with
  | some x => ixD x y fun z => Q z en2
  | none => False) Qe
theorem ixD_own {G : Gh} {F H : Hp} {σ : L2.St} {en : En} {a : Addr} {y : V} {dx dy : D} {Q : VK} {Qd : D → Prop} (R : Rel K G F H σ en) (ix : OwAt K F H a dx) (iy : Is K F dy y) (q : ixD dx dy Qd)
    (k : ∀ z dz, Is K F dz z → Qd dz → Q z H) : rIxX K (.ref a) y H Q := by
  unfold ixD at q
  split at q
  · obtain ⟨vs, ha, la⟩ := ix
    cases iy
    obtain ⟨d, h1, h2⟩ := q
    obtain ⟨v, h3, h4⟩ := atI_of la h1
    exact .inl <| .inl ⟨a, vs, _, v, rfl, rfl, SqL.of ha, h3, k v d h4 h2⟩
  · exact ix.elim
  · exact ix.elim
  · exact ix.elim
  · obtain ⟨ks, kvs, us, hh⟩ := dhas_ow ix
    exact .inr (ix_dctD R.le iy hh q k)
  · exact q.elim
theorem de_ixV (hu : X.A.units + 64 < cLine) {i : Nat} {b : Expr} {x : Str} {p1 pos : Pos} {tb : TE} {db : TDE} (hb : DE X W b tb db) (hs : PlainIx b := by exact fun _ _ => rfl) (hN : X.N[i]? = some x := by rfl) (hv : Vis X.env.scope x := by first | exact Or.inl rfl | exact Or.inr (Or.inl rfl) | exact Or.inr (Or.inr rfl)) (hd : (x == ("__debug__" : Str)) = false := by decide)
    (hcd : (x == ("__classdict__" : Str)) = false := by decide) : DE X W (.Subscript (.Name x p1) b pos) (tOp (rIxX (kk X)) (tVar i) tb) (dIxV i db) :=
  ⟨pe_ix (ix_X hu) (pe_var hN hv hd hcd) hb.pe hs, fun G F H σ en Q Qd Qe R q x k => by
    obtain ⟨q0, q⟩ := q
    obtain ⟨d0, e0⟩ := Option.isSome_iff_exists.mp q0
    obtain ⟨v, h1, _⟩ := peek_own R e0
    refine ⟨v, h1, ?_⟩
    exact hb.sim G F H σ en _ _ Qe R q x fun u d2 F2 H2 en2 e2 R2 i2 q2 => by
      split at q2
      · rename_i d e3
        obtain ⟨v', h1', h2⟩ := peek_own R2 e3
        rw [h1] at h1'
        cases h1'
        rcases h2 with h2 | ⟨a, rfl, h2⟩
        · exact ixD_run R2 h2 i2 q2 fun z dz i q' => k z dz F2 H2 en2 e2 R2 i q'
        · exact ixD_own R2 h2 i2 q2 fun z dz i q' => k z dz F2 H2 en2 e2 R2 i q'
      · exact q2.elim⟩
end
end DL

/-! The D layer, part 4: slices, targets, loops. -/
namespace DL
open PySem L2

section
variable {X : Cx} {W : WX} {K : KW}
/-! ### slices -/
def cutD (ds : List D) (lo hi : Option Int) : List D := (ds.drop (HT.sIx ds.length 0 lo)).take (HT.sIx ds.length ds.length hi - HT.sIx ds.length 0 lo)
theorem IsL.cut {F : Hp} {ds : List D} {vs : List V} (l : IsL K F ds vs) (lo hi : Option Int) : IsL K F (cutD ds lo hi) (cutV vs lo hi) := by
  unfold cutD cutV
  rw [l.length]
  exact (l.drop _).take _
abbrev TDO := En → (Option Int → En → Prop) → Qx → Prop
def SimP (K : KW) (W : WX) (t : TO) (td : TDO) : Prop := ∀ G F H σ en (Q : Option Int → Hp → Prop) Qd Qe, Rel K G F H σ en → td en Qd Qe → XR K W G Qe →
  (∀ o F' H' en', Same F F' → Rel K G F' H' σ en' → Qd o en' → Q o H') → t σ H Q
structure DP (X : Cx) (W : WX) (e : Option Expr) (t : TO) (td : TDO) : Prop where
  po : PO X e t
  sim : SimP (kk X) W t td
def dNoP : TDO := fun en Q _ => Q none en
def dSomeP (e : TDE) : TDO := fun en Q Qe => e en (fun d en1 => match d with
  | .int i => Q (some i) en1
  | _ => False) Qe
theorem dp_none : DP X W none tNoPart dNoP := ⟨po_none, fun G F H σ en Q Qd Qe R q x k => k none F H en (Same.refl F) R q⟩
theorem dp_some {e : Expr} {te : TE} {td : TDE} (h : DE X W e te td) : DP X W (some e) (tPart te) (dSomeP td) := ⟨po_some h.pe, fun G F H σ en Q Qd Qe R q x k =>
  h.sim G F H σ en _ _ Qe R q x fun v d F1 H1 en1 e1 R1 i1 q1 => by
    cases d with
    | int i => cases i1; exact ⟨i, rfl, k (some i) F1 H1 en1 e1 R1 q1⟩
    | _ => exact q1.elim⟩
def sliceD (x : D) (lo hi : Option Int) (Q : D → Prop) : Prop := match x with
  | .lst ds => Q (.lst (cutD ds lo hi))
  | .lck ds => Q (.lst (cutD ds lo hi))
  | .tup ds => Q (.tup (cutD ds lo hi))
  | .str s => s.length ≤ sizeLine ∧ Q (.str (cutS s lo hi))
  | _ => False
def rSlX (K : Fg) : V → Option Int → Option Int → Hp → VK → Prop := fun x lo hi H Q => rSlL K x lo hi H Q ∨ rSlA K x lo hi H Q ∨ rSlS x lo hi H Q
theorem sl_X : SlR X (rSlX X.K) := sl_list.or (sl_tupA.or sl_str)
def dSl (e : TDE) (l h : TDO) : TDE := fun en Q Qe => e en (fun x en1 => l en1 (fun lo en2 => h en2 (fun hi en3 => sliceD x lo hi fun z => Q z en3) Qe) Qe) Qe
theorem tup_whole {xs : List V} {lo hi : Option Int} (h : HT.sIx xs.length 0 lo = 0 ∧ HT.sIx xs.length xs.length hi = xs.length) : cutV xs lo hi = xs := by
  unfold cutV
  rw [h.1, h.2]
  simp
theorem tup_wholeD {xs : List D} {lo hi : Option Int} (h : HT.sIx xs.length 0 lo = 0 ∧ HT.sIx xs.length xs.length hi = xs.length) : cutD xs lo hi = xs := by
  unfold cutD
  rw [h.1, h.2]
  simp
theorem de_sl {e : Expr} {lo hi : Option Expr} {p2 pos : Pos} {te : TE} {tl th : TO} {td : TDE} {dl dh : TDO} (he : DE X W e te td) (hl : DP X W lo tl dl) (hh : DP X W hi th dh) : DE X W (.Subscript e (.Slice lo hi none p2) pos) (tSl (rSlX X.K) te tl th) (dSl td dl dh) :=
  ⟨pe_slice sl_X he.pe hl.po hh.po, fun G F H σ en Q Qd Qe R q x k => he.sim G F H σ en _ _ Qe R q x fun v d F1 H1 en1 e1 R1 i1 q1 => hl.sim G F1 H1 σ en1 _ _ Qe R1 q1 x fun o F2 H2 en2 e2 R2 q2 =>
    hh.sim G F2 H2 σ en2 _ _ Qe R2 q2 x fun u F3 H3 en3 e3 R3 q3 => by
      have i3 := Is.mono (e2.trans e3) _ _ i1
      have e4 := (e1.trans e2).trans e3
      unfold sliceD at q3
      split at q3
      · obtain ⟨a, vs, rfl, ha, la⟩ := i3
        refine .inl ⟨a, vs, rfl, SqL.of (R3.le _ _ ha), fun p hp => ?_⟩
        obtain ⟨h1, h2, h3⟩ := new_lstF R3 (la.cut o u) hp
        exact k _ _ _ _ en3 (e4.trans h1) h2 h3 q3
      · obtain ⟨a, vs, rfl, ha, la⟩ := i3
        refine .inl ⟨a, vs, rfl, SqL.same R3.le ha, fun p hp => ?_⟩
        obtain ⟨h1, h2, h3⟩ := new_lstF R3 (la.cut o u) hp
        exact k _ _ _ _ en3 (e4.trans h1) h2 h3 q3
      · obtain ⟨a, vs, rfl, ha, la⟩ := i3
        refine .inr (.inl ⟨a, vs, rfl, SqT.same R3.le ha, fun hw => ?_, fun _ p hp => ?_⟩)
        · rw [la.length] at hw
          rw [tup_wholeD hw] at q3
          exact k _ (.tup _) F3 H3 en3 e4 R3 ⟨a, vs, rfl, ha, la⟩ q3
        · obtain ⟨h1, h2, h3⟩ := new_tup R3 (la.cut o u) hp
          exact k _ _ _ _ en3 (e4.trans h1) h2 h3 q3
      · cases i3
        exact .inr (.inr ⟨_, rfl, q3.1, k _ _ F3 H3 en3 e4 R3 iS q3.2⟩)
      · exact q3.elim⟩
/-- a slice of a list, one's own -/
def sliceL (x : D) (lo hi : Option Int) (Q : D → Prop) : Prop := match x with
  | .lst ds => Q (.lst (cutD ds lo hi))
  | .lck ds => Q (.lst (cutD ds lo hi))
  | _ => False
def dSlL (e : TDE) (l h : TDO) : TDE := fun en Q Qe => e en (fun x en1 => l en1 (fun lo en2 => h en2 (fun hi en3 => sliceL x lo hi fun z => Q z en3) Qe) Qe) Qe
theorem do_sl {e : Expr} {lo hi : Option Expr} {p2 pos : Pos} {te : TE} {tl th : TO} {td : TDE} {dl dh : TDO} (he : DE X W e te td) (hl : DP X W lo tl dl) (hh : DP X W hi th dh) : DO X W (.Subscript e (.Slice lo hi none p2) pos) (tSl (rSlL X.K) te tl th) (dSlL td dl dh) :=
  ⟨pe_slice sl_list he.pe hl.po hh.po, fun G F H σ en Q Qd Qe R q x k => he.sim G F H σ en _ _ Qe R q x fun v d F1 H1 en1 e1 R1 i1 q1 => hl.sim G F1 H1 σ en1 _ _ Qe R1 q1 x fun o F2 H2 en2 e2 R2 q2 =>
    hh.sim G F2 H2 σ en2 _ _ Qe R2 q2 x fun u F3 H3 en3 e3 R3 q3 => by
      have i3 := Is.mono (e2.trans e3) _ _ i1
      have e4 := (e1.trans e2).trans e3
      unfold sliceL at q3
      split at q3
      · obtain ⟨a, vs, rfl, ha, la⟩ := i3
        refine ⟨a, vs, rfl, SqL.of (R3.le _ _ ha), fun p hp => ?_⟩
        obtain ⟨h1, h2⟩ := new_lst R3 (la.cut o u) hp
        exact k _ _ _ _ en3 e4 h1 h2 q3
      · obtain ⟨a, vs, rfl, ha, la⟩ := i3
        refine ⟨a, vs, rfl, SqL.same R3.le ha, fun p hp => ?_⟩
        obtain ⟨h1, h2⟩ := new_lst R3 (la.cut o u) hp
        exact k _ _ _ _ en3 e4 h1 h2 q3
      · exact q3.elim⟩
/-- x[lo:hi] of a name that holds one's own list, not frozen: a new list of one's own -/
def dSlV (i : Nat) (l h : TDO) : TDE := fun en Q Qe => (peek en i).isSome = true ∧ l en (fun lo en2 => h en2 (fun hi en3 => match peek en3 i with
  | some x => sliceL x lo hi fun z => Q z en3
  | none => False) Qe) Qe
theorem do_slV {i : Nat} {x : Str} {p1 : Pos} {lo hi : Option Expr} {p2 pos : Pos} {tl th : TO} {dl dh : TDO} (hl : DP X W lo tl dl) (hh : DP X W hi th dh) (hN : X.N[i]? = some x := by rfl) (hv : Vis X.env.scope x := by first | exact Or.inl rfl | exact Or.inr (Or.inl rfl) | exact Or.inr (Or.inr rfl)) (hd : (x == ("__debug__" : Str)) = false := by decide)
    (hcd : (x == ("__classdict__" : Str)) = false := by decide) : DO X W (.Subscript (.Name x p1) (.Slice lo hi none p2) pos) (tSl (rSlL X.K) (tVar i) tl th) (dSlV i dl dh) :=
  ⟨pe_slice sl_list (pe_var hN hv hd hcd) hl.po hh.po, fun G F H σ en Q Qd Qe R q x k => by
    obtain ⟨q0, q⟩ := q
    obtain ⟨d0, e0⟩ := Option.isSome_iff_exists.mp q0
    obtain ⟨v, h1, _⟩ := peek_own R e0
    refine ⟨v, h1, ?_⟩
    exact hl.sim G F H σ en _ _ Qe R q x fun o F2 H2 en2 e2 R2 q2 => hh.sim G F2 H2 σ en2 _ _ Qe R2 q2 x fun u F3 H3 en3 e3 R3 q3 => by
      have e4 := e2.trans e3
      split at q3
      · rename_i d e5
        obtain ⟨v', h1', h2⟩ := peek_own R3 e5
        rw [h1] at h1'
        cases h1'
        unfold sliceL at q3
        split at q3
        · rcases h2 with h2 | ⟨a, rfl, h2⟩
          · obtain ⟨a, vs, rfl, ha, la⟩ := h2
            refine ⟨a, vs, rfl, SqL.of (R3.le _ _ ha), fun p hp => ?_⟩
            obtain ⟨h1, h2⟩ := new_lst R3 (la.cut o u) hp
            exact k _ _ _ _ en3 e4 h1 h2 q3
          · obtain ⟨vs, ha, la⟩ := h2
            refine ⟨a, vs, rfl, SqL.of ha, fun p hp => ?_⟩
            obtain ⟨h1, h2⟩ := new_lst R3 (la.cut o u) hp
            exact k _ _ _ _ en3 e4 h1 h2 q3
        · rcases h2 with h2 | ⟨a, rfl, h2⟩
          · obtain ⟨a, vs, rfl, ha, la⟩ := h2
            refine ⟨a, vs, rfl, SqL.same R3.le ha, fun p hp => ?_⟩
            obtain ⟨h1, h2⟩ := new_lst R3 (la.cut o u) hp
            exact k _ _ _ _ en3 e4 h1 h2 q3
          · exact h2.elim
        · exact q3.elim
      · exact q3.elim⟩

/-! ### targets -/
abbrev TDG := D → En → (En → Prop) → Prop
abbrev TDGs := List D → En → (En → Prop) → Prop
def SimG (K : KW) (g : TG) (gd : TDG) : Prop := ∀ G F H σ en d v (Q : L2.St → Hp → Prop) Qd, Rel K G F H σ en → Is K F d v → gd d en Qd → (∀ F' H' σ' en', Same F F' → Rel K G F' H' σ' en' → Qd en' → Q σ' H') → g v σ H Q
def SimGs (K : KW) (g : TGs) (gd : TDGs) : Prop := ∀ G F H σ en ds vs (Q : L2.St → Hp → Prop) Qd, Rel K G F H σ en → IsL K F ds vs → gd ds en Qd → (∀ F' H' σ' en', Same F F' → Rel K G F' H' σ' en' → Qd en' → Q σ' H') → g vs σ H Q
structure DG (X : Cx) (tg : Expr) (g : TG) (gd : TDG) : Prop where
  pg : PG X tg g
  sim : SimG (kk X) g gd
structure DGs (X : Cx) (ts : List Expr) (g : TGs) (gd : TDGs) : Prop where
  pg : PGs X ts g
  sim : SimGs (kk X) g gd
def dgName (i : Nat) : TDG := fun d en Q => Q (en.set i (some (.fz d)))
theorem dg_name {i : Nat} {x : Str} {pos : Pos} (hN : X.N.Nodup) (hi : X.N[i]? = some x) (hx : Loc X.env.scope x) (hf : X.fn x = true ∨ X.env.scope.names.lookup x = some .local := by first | exact .inl rfl | exact .inr rfl | assumption) : DG X (.Name x pos) (gName i) (dgName i) :=
  ⟨pg_name hN hi hx hf, fun G F H σ en d v Q Qd R i q k => k F H _ _ (Same.refl F) (R.put i) q⟩
def dgNil : TDGs := fun ds en Q => ds = [] ∧ Q en
def dgCons (t : TDG) (u : TDGs) : TDGs := fun ds en Q => match ds with
  | d :: r => t d en fun en1 => u r en1 Q
  | [] => False
theorem dgs_nil : DGs X [] gNil dgNil := ⟨pgs_nil, fun G F H σ en ds vs Q Qd R i q k => by
  obtain ⟨rfl, q⟩ := q
  exact ⟨i, k F H σ en (Same.refl F) R q⟩⟩
theorem dgs_cons {e : Expr} {es : List Expr} {t : TG} {u : TGs} {td : TDG} {ud : TDGs} (h : DG X e t td) (h' : DGs X es u ud) (hs : (assignEach (e :: es) X.env).map (·.2) = assign e X.env :: (assignEach es X.env).map (·.2) := by rfl) : DGs X (e :: es) (gCons t u) (dgCons td ud) :=
  ⟨pgs_cons h.pg h'.pg hs, fun G F H σ en ds vs Q Qd R i q k => by
    cases ds with
    | nil => exact q.elim
    | cons d r =>
      obtain ⟨v, w, rfl, h1, h2⟩ := i
      exact ⟨v, w, rfl, h.sim G F H σ en d v _ _ R h1 q fun F1 H1 σ1 en1 e1 R1 q1 => h'.sim G F1 H1 σ1 en1 r w Q Qd R1 (IsL.mono e1 _ _ h2) q1 fun F2 H2 σ2 en2 e2 R2 q2 => k F2 H2 σ2 en2 (e1.trans e2) R2 q2⟩⟩
/-- a, b, .. = a tuple -/
def dgTup (n : Nat) (u : TDGs) : TDG := fun d en Q => match d with
  | .tup ds => ds.length = n ∧ u ds en Q
  | _ => False
theorem dg_tup {es : List Expr} {x1} {pos : Pos} {u : TGs} {ud : TDGs} (h : DGs X es u ud) (hc : X.calm = true := by rfl) (hn : (assignEach es X.env).length = es.length := by rfl) (hst : (assignEach es X.env).findIdx? (·.1) = none := by rfl) : DG X (.Tuple es x1 pos) (gTup X.K es.length u) (dgTup es.length ud) :=
  ⟨pg_tup hc h.pg hn hst, fun G F H σ en d v Q Qd R i q k => by
    cases d with
    | tup ds =>
      obtain ⟨a, vs, rfl, ha, la⟩ := i
      exact ⟨a, vs, rfl, SqT.same R.le ha, by rw [la.length]; exact q.1, h.sim G F H σ en ds vs Q Qd R la q.2 k⟩
    | _ => exact q.elim⟩
def dAsg (e : TDE) (g : TDG) : TDS := fun B en => e en (fun d en1 => g d en1 B.nx) B.ex
theorem ds_asg {tg e : Expr} {pos : Pos} {te : TE} {td : TDE} {g : TG} {gd : TDG} (h : DE X W e te td) (hg : DG X tg g gd) (hs : swapsWithSole [tg] e pos.line X.env = pure false := by rfl) (hw : swappedStores [tg] e X.env = pure none := by rfl)
    (h1 : (assignEach [tg] X.env).map (·.2) = [assign tg X.env] := by rfl) : DS X W (.Assign [tg] e pos) (tAsg te g) (dAsg td gd) :=
  ⟨ps_asg h.pe hg.pg hs hw h1, fun G F H σ en D' B R q k => h.sim G F H σ en _ _ _ R q k.ex fun v d F1 H1 en1 e1 R1 i1 q1 => hg.sim G F1 H1 σ en1 d v _ _ R1 i1 q1 fun F2 H2 σ2 en2 e2 R2 q2 => k.nx F2 H2 σ2 en2 R2 q2⟩

/-! ### what a for walks -/
/-- the walk J hands out the data ds -/
structure ItD (K : KW) (F : Hp) (J : It) (ds : List D) : Prop where
  go : ∀ i F1 H, Same F F1 → Same F1 H → i < ds.length → J.go i H
  stop : ∀ F1 H, Same F F1 → Same F1 H → J.stop ds.length H
  yld : ∀ i G F1 H σ en x H', Same F F1 → Rel K G F1 H σ en → i < ds.length → J.yld i H x H' → ∃ F2, Same F1 F2 ∧ Rel K G F2 H' σ en ∧ ∃ d, ds[i]? = some d ∧ Is K F2 d x
abbrev TDI := En → (List D → En → Prop) → Qx → Prop
def SimI (K : KW) (W : WX) (wi : TI) (di : TDI) : Prop := ∀ G F H σ en (R' : It → Hp → Prop) Qd Qe, Rel K G F H σ en → di en Qd Qe → XR K W G Qe →
  (∀ J ds F' H' en', Same F F' → Rel K G F' H' σ en' → ItD K F' J ds → Qd ds en' → R' J H') → wi σ H R'
structure DI (X : Cx) (W : WX) (tg iter : Expr) (wi : TI) (di : TDI) : Prop where
  pi : PI X tg iter wi
  sim : SimI (kk X) W wi di
/-! the keys, values, items of a locked dict -/
/-- the locked dict: o is its object -/
def LkAt (K : KW) (H : Hp) (a : Addr) (o : Obj) : Prop := ∃ u, H a = some (.frz o u)
def ItX (K : KW) (a : Addr) (o : Obj) (kvs : List V) : It :=
  ⟨fun i H => LkAt K H a o ∧ i < kvs.length, fun i H x H' => H' = H ∧ kvs[i]? = some x, fun i H => LkAt K H a o ∧ kvs.length ≤ i⟩
def ItP (K : KW) (a : Addr) (o : Obj) (kvs us : List V) : It :=
  ⟨fun i H => LkAt K H a o ∧ i < kvs.length, fun i H x H' => ∃ T k v, kvs[i]? = some k ∧ us[i]? = some v ∧ x = .ref T ∧ H T = none ∧ H' = upd H T (.tup [k, v]), fun i H => LkAt K H a o ∧ kvs.length ≤ i⟩
theorem ents_get {w : World} : ∀ {es : List DictEntry} {ks : List NestedKey} {kvs us : List V}, Ents w es ks kvs us → ∀ i, i < kvs.length → ∃ e k v, es[i]? = some e ∧ kvs[i]? = some k ∧ us[i]? = some v ∧ RelV k e.key ∧ RelV v e.val := by
  intro es ks kvs us h
  induction h with
  | nil => intro i hi; exact absurd hi (Nat.not_lt_zero _)
  | @cons e es k ks kv v kvs vs h1 h2 h3 _ ih =>
    intro i hi
    cases i with
    | zero => exact ⟨e, kv, v, rfl, rfl, rfl, h2, h3⟩
    | succ i =>
      obtain ⟨e', k', v', a1, a2, a3, a4⟩ := ih i (by simpa using hi)
      exact ⟨e', k', v', by simpa using a1, by simpa using a2, by simpa using a3, a4⟩
section
variable {P : Program} {w : World} {K : PySem.W.Frag} {tg : Expr} {d : Addr} {o : Obj} {es : Array DictEntry} {ep : Nat} {ks : List NestedKey} {kvs us : List V}
theorem es_size (en : Ents w es.toList ks kvs us) : es.size = kvs.length ∧ es.size = us.length := by
  obtain ⟨h1, h2, h3⟩ := ents_len en
  rw [Array.length_toList] at h1
  omega
theorem turn_keysX (hx : o.ExactDict) (it : Addr) (hod : o.data = .dict es ep) (en : Ents w es.toList ks kvs us) : Turn P w K tg (ItX ⟨K, w⟩ d o kvs) [it] it (fun i h => h.IsKeyIter it d i kvs.length ep) where
  mem := by simp
  obj := fun i h st b hb => by
    have e : b = it := by simpa using hb
    subst e
    obtain ⟨oi, e, c, dd⟩ := st
    exact ⟨oi, e, fun v z => by rw [dd] at z; cases z⟩
  keep := fun i h h' st k => st.at fun oi e => k it (by simp) oi e
  item := by
    intro X hP hw hK hc i pins s σ H E I hf st hg
    subst hP hw hK
    obtain ⟨⟨u, hd⟩, hi⟩ := hg
    obtain ⟨f0, f1, f2, f3, f4, f5⟩ := hf it (by simp)
    have hgd := (I.hok d _ hd).1
    obtain ⟨e1, k, v, a1, a2, a3, a4, a5⟩ := ents_get en i hi
    refine next_key_item st hgd hod (es_size en).1 (en := e1) (by simpa using a1) fun h' st' sb => ?_
    have I1 : L2.Inv X pins σ H { s with heap := h' } := I.turned (t' := s.toks) (fun b ob hb e => (sb.2 b hb).trans e) f0 f1 f3 f4 f5
    obtain ⟨oi, e, c, dd⟩ := id st'
    exact ⟨e1.key, rfl, go_of (s := { s with heap := h' }) e c dd (by decide) ⟨k, H, I1, a4, ⟨rfl, a2⟩, st', fun b hb => (hf b hb).1⟩⟩
  done := by
    intro X hP hw hK hc i pins s σ H E I hf st hg
    subst hP hw hK
    obtain ⟨⟨u, hd⟩, hi⟩ := hg
    obtain ⟨f0, f1, f2, f3, f4, f5⟩ := hf it (by simp)
    have hgd := (I.hok d _ hd).1
    exact next_key_end (I.ok.hd hc) st hgd hod (es_size en).1 hi fun h' eb => ⟨rfl, I.turned (t' := s.toks) (fun b ob hb e => eb b ob hb e) f0 f1 f3 f4 f5⟩
  self := fun A i s Q E st h => by
    refine wpAny_pyIter_slot st.typeIs F.slot_dict_keyiterator_iter (wpAny_call_entry F.slot_dict_keyiterator_iter st.typeIs F.entry_dict_keyiterator_iter ?_ (F.args_dict_keyiterator_iter_1 _))
    show wpAny _ _ (ret (.ref it)) _ _ s
    exact wpAny_pure ⟨_, rfl, "dict_keyiterator", _, st.typeIs, F.slot_dict_keyiterator_next.lookup, h⟩
theorem turn_valsX (hx : o.ExactDict) (it : Addr) (hod : o.data = .dict es ep) (en : Ents w es.toList ks kvs us) : Turn P w K tg (ItX ⟨K, w⟩ d o us) [it] it (fun i h => h.IsValIter it d i es.size ep) where
  mem := by simp
  obj := fun i h st b hb => by
    have e : b = it := by simpa using hb
    subst e
    obtain ⟨oi, e, c, dd⟩ := st
    exact ⟨oi, e, fun v z => by rw [dd] at z; cases z⟩
  keep := fun i h h' st k => st.at fun oi e => k it (by simp) oi e
  item := by
    intro X hP hw hK hc i pins s σ H E I hf st hg
    subst hP hw hK
    obtain ⟨⟨u, hd⟩, hi⟩ := hg
    obtain ⟨f0, f1, f2, f3, f4, f5⟩ := hf it (by simp)
    have hgd := (I.hok d _ hd).1
    have sz := es_size en
    obtain ⟨e1, k, v, a1, a2, a3, a4, a5⟩ := ents_get en i (by omega)
    have hlt : i < es.size := by omega
    have he1 : es[i] = e1 := by
      have : es.toList[i]? = some es[i] := by simp [hlt]
      rw [a1] at this
      exact (Option.some.inj this).symm
    refine wpAny_pyNext_values_item_raw st ⟨o, hgd, hx, hod⟩ hlt fun h' st' sb => ?_
    have I1 : L2.Inv X pins σ H { s with heap := h' } := I.turned (t' := s.toks) (fun b ob hb e => (sb.2 b hb).trans e) f0 f1 f3 f4 f5
    obtain ⟨oi, e, c, dd⟩ := id st'
    exact ⟨_, rfl, go_of (s := { s with heap := h' }) e c dd (by decide) ⟨v, H, I1, by rw [he1]; exact a5, ⟨rfl, a3⟩, st', fun b hb => (hf b hb).1⟩⟩
  done := by
    intro X hP hw hK hc i pins s σ H E I hf st hg
    subst hP hw hK
    obtain ⟨⟨u, hd⟩, hi⟩ := hg
    obtain ⟨f0, f1, f2, f3, f4, f5⟩ := hf it (by simp)
    have hgd := (I.hok d _ hd).1
    have sz := es_size en
    exact wpAny_pyNext_values_end_raw (I.ok.hd hc) st ⟨o, hgd, hx, hod⟩ (by omega) fun h' eb => ⟨rfl, I.turned (t' := s.toks) (fun b ob hb e => eb b ob hb e) f0 f1 f3 f4 f5⟩
  self := fun A i s Q E st h => wpAny_pyIter_valiter st h
theorem turn_itemsX {elts : List Expr} {kk' : Nat} {tpos : Pos} (hx : o.ExactDict) (it : Addr) (hod : o.data = .dict es ep) (en : Ents w es.toList ks kvs us) :
    Turn P w K (.Tuple elts kk' tpos) (ItP ⟨K, w⟩ d o kvs us) [it] it (fun i h => ∃ ok ov, IsItemIter h it d i es.size ep ok ov) where
  mem := by simp
  obj := fun i h st b hb => by
    have e : b = it := by simpa using hb
    subst e
    obtain ⟨ok, ov, e⟩ := st
    exact ⟨_, e, fun v z => nomatch z⟩
  keep := fun i h h' st k => let ⟨ok, ov, e⟩ := st; ⟨ok, ov, k it (by simp) _ e⟩
  item := by
    intro X hP hw hK hc i pins s σ H E I hf st hg
    subst hP hw hK
    obtain ⟨⟨u, hd⟩, hi⟩ := hg
    have hgd := (I.hok d _ hd).1
    have sz := es_size en
    obtain ⟨e1, k, v, a1, a2, a3, a4, a5⟩ := ents_get en i (by omega)
    have hlt : i < es.size := by omega
    have he1 : es[i] = e1 := by
      have : es.toList[i]? = some es[i] := by simp [hlt]
      rw [a1] at this
      exact (Option.some.inj this).symm
    obtain ⟨ok, ov, he⟩ := st
    have hil : it < s.heap.objs.size := Heap.lt_size he
    refine wpAny_pyNext_items_item_raw he ⟨o, hgd, hx, hod⟩ hlt fun h' ho hT hz hk => ?_
    refine ⟨_, rfl, wpAny_letOwnedTupleGo_items (s := { s with heap := h' }) ho fun h'' he' sb => ?_⟩
    rw [he1] at hT
    have hT2 : h''.get? s.heap.objs.size = some { cls := .type "tuple", data := .seq #[e1.key, e1.val] } := (sb.2 _ (Nat.ne_of_gt hil)).trans hT
    have new : ObjOk X.prog X.w (upd H s.heap.objs.size (.tup [k, v])) h'' s.heap.objs.size (.tup [k, v]) :=
      ⟨by show 2 ≤ sizeLine; decide, [e1.key, e1.val], .cons a4 (.cons a5 .nil), ⟨_, hT2, rfl, _, rfl⟩⟩
    have I1 : L2.Inv X pins σ (upd H s.heap.objs.size (.tup [k, v])) { s with heap := h'' } :=
      I.turnedNew (t' := s.toks) (ch := [it]) (fun b ob hb e => (sb.2 b (by simpa using hb)).trans (hk b ob (by simpa using hb) e)) hf (Nat.le_refl _) new
    refine ⟨.ref s.heap.objs.size, _, I1, rfl, ⟨_, k, v, a2, a3, rfl, I.hok.fresh (Nat.le_refl _), rfl⟩, ⟨_, _, he'⟩, fun b hb => ?_⟩
    have e : b = it := by simpa using hb
    rw [e, upd_ne (Nat.ne_of_lt hil)]
    exact (hf it (by simp)).1
  done := by
    intro X hP hw hK hc i pins s σ H E I hf st hg
    subst hP hw hK
    obtain ⟨⟨u, hd⟩, hi⟩ := hg
    obtain ⟨f0, f1, f2, f3, f4, f5⟩ := hf it (by simp)
    have hgd := (I.hok d _ hd).1
    have sz := es_size en
    obtain ⟨ok, ov, he⟩ := st
    exact wpAny_pyNext_items_end_raw (I.ok.hd hc) he ⟨o, hgd, hx, hod⟩ (by omega) fun h' eb => ⟨rfl, I.turned (t' := s.toks) (fun b ob hb e => eb b ob hb e) f0 f1 f3 f4 f5⟩
  self := fun A i s Q E st h => let ⟨_, _, e⟩ := st; PySem.W.kcp_self e h
end
theorem LkAt.ok {X : Cx} {pins : List (Addr × Obj)} {σ : L2.St} {H : Hp} {s : Shared} {a : Addr} {o : Obj} (I : L2.Inv X pins σ H s) (h : LkAt (kk X) H a o) : s.heap.get? a = some o := by
  obtain ⟨u, e⟩ := h
  exact (I.hok a _ e).1
theorem itd_x {F : Hp} {a : Addr} {o : Obj} {u : HO} {ds : List D} {vs : List V} (h : F a = some (.frz o u)) (l : IsL K F ds vs) : ItD K F (ItX K a o vs) ds where
  go := fun i F1 H e e' hi => ⟨⟨u, e' _ _ (e _ _ h)⟩, by rw [l.length]; exact hi⟩
  stop := fun F1 H e e' => ⟨⟨u, e' _ _ (e _ _ h)⟩, by rw [l.length]; exact Nat.le_refl _⟩
  yld := fun i G F1 H σ en x H' e R hi y => by
    obtain ⟨rfl, y⟩ := y
    obtain ⟨v, hv, iv⟩ := l.get (List.getElem?_eq_getElem hi)
    rw [hv] at y
    cases y
    exact ⟨F1, Same.refl _, R, _, List.getElem?_eq_getElem hi, Is.mono e _ _ iv⟩
/-- pairs of two lists -/
def pairsD : List D → List D → List D
  | d :: ds, e :: es => .tup [d, e] :: pairsD ds es
  | _, _ => []
theorem pairsD_get : ∀ {ds es : List D} {i : Nat} {d e : D}, ds[i]? = some d → es[i]? = some e → (pairsD ds es)[i]? = some (.tup [d, e])
  | [], _, _, _, _, h, _ => by simp at h
  | _ :: _, [], _, _, _, _, h => by simp at h
  | _ :: _, _ :: _, 0, _, _, h, h' => by simp at h h'; subst h h'; rfl
  | _ :: _, _ :: _, i + 1, _, _, h, h' => by
    have := pairsD_get (i := i) (by simpa using h) (by simpa using h')
    simpa [pairsD] using this
theorem pairsD_len : ∀ {ds es : List D}, ds.length = es.length → (pairsD ds es).length = ds.length
  | [], [], _ => rfl
  | [], _ :: _, h => by simp at h
  | _ :: _, [], h => by simp at h
  | d :: ds, e :: es, h => by simp [pairsD, pairsD_len (ds := ds) (es := es) (by simpa using h)]
theorem itd_p {F : Hp} {a : Addr} {o : Obj} {u : HO} {ds es : List D} {vs ws : List V} (h : F a = some (.frz o u)) (hl : ds.length = es.length) (l : IsL K F ds vs) (l' : IsL K F es ws) : ItD K F (ItP K a o vs ws) (pairsD ds es) where
  go := fun i F1 H e e' hi => ⟨⟨u, e' _ _ (e _ _ h)⟩, by rw [l.length]; rw [pairsD_len hl] at hi; exact hi⟩
  stop := fun F1 H e e' => ⟨⟨u, e' _ _ (e _ _ h)⟩, by rw [l.length, pairsD_len hl]; exact Nat.le_refl _⟩
  yld := fun i G F1 H σ en x H' e R hi y => by
    rw [pairsD_len hl] at hi
    obtain ⟨T, k, v, y1, y2, rfl, hT, rfl⟩ := y
    obtain ⟨k', hk, ik⟩ := l.get (List.getElem?_eq_getElem hi)
    obtain ⟨v', hv, iv⟩ := l'.get (List.getElem?_eq_getElem (by omega : i < es.length))
    rw [hk] at y1; cases y1
    rw [hv] at y2; cases y2
    obtain ⟨h1, h2, h3⟩ := new_tup R (ds := [ds[i], es[i]'(by omega)]) (vs := [k, v]) ⟨_, _, rfl, Is.mono e _ _ ik, _, _, rfl, Is.mono e _ _ iv, rfl⟩ hT
    exact ⟨_, h1, h2, _, pairsD_get (List.getElem?_eq_getElem hi) (List.getElem?_eq_getElem (by omega)), h3⟩
def iSeq (K : KW) (te : TE) : TI := fun σ H R => te σ H fun x H1 => (∃ a o ks kvs us, x = .ref a ∧ LkAt K H1 a o ∧ (a == sysModules) = false ∧ DictObj K.w o ks kvs us ∧ R (ItX K a o kvs) H1) ∨ (∃ a xs, x = .ref a ∧ SqL K H1 a xs ∧ R (Itl K a) H1) ∨ (∃ a xs, x = .ref a ∧ SqT K H1 a xs ∧ R (Itt K a) H1) ∨ ∃ z, x = .str z ∧ R (Its z) H1
theorem pi_seq {tg e : Expr} {te : TE} (he : PE X e te) : PI X tg e (iSeq (kk X) te) := by
  refine ⟨fun pins s σ H R I h => thn (he.run pins s σ H _ I h) fun v s1 ⟨x, H1, I1, r1, q1⟩ => ?_⟩
  rcases q1 with ⟨a, o, ks, kvs, us, ex, hq, hs, ⟨hx, ⟨es, ep, hd, en⟩, _⟩, q⟩ | ⟨a, xs, ex, hq, q⟩ | ⟨a, xs, ex, hq, q⟩ | ⟨z, ex, q⟩
  · subst ex; cases r1
    refine iter_keys hs (LkAt.ok I1 hq) hx hd (pi_one (tk := s1.toks) I1 _ (turn_keysX hx _ hd en) ⟨_, Heap.get?_push_size _ rfl, rfl, ?_⟩ q)
    rw [(es_size en).1] <;> rfl
  · subst ex; cases r1
    obtain ⟨its, rv, p, hz⟩ := I1.list hq
    refine wpAny_pyIter_list p.isList ⟨s1.heap.objs.size, [s1.heap.objs.size], _, _, H1, rfl, I1.kept (t' := s1.toks) fun b o e => Heap.get?_push_of_some _ e, turn_list a _, ⟨_, Heap.get?_push_size _ rfl, rfl, rfl⟩, fun b hb => ?_, q⟩
    obtain rfl : b = s1.heap.objs.size := by simpa using hb
    exact I1.fpOk (Nat.le_refl _) (I1.hok.fresh (Nat.le_refl _))
  · subst ex; cases r1
    obtain ⟨its, rv, p, hz⟩ := I1.tuple hq
    refine wpAny_pyIter_tuple (show s1.heap.IsTuple a its.toArray from p) ⟨s1.heap.objs.size, [s1.heap.objs.size], _, _, H1, rfl, I1.kept (t' := s1.toks) fun b o e => Heap.get?_push_of_some _ e, turn_tuple a _, ⟨_, Heap.get?_push_size _ rfl, rfl, rfl⟩, fun b hb => ?_, q⟩
    obtain rfl : b = s1.heap.objs.size := by simpa using hb
    exact I1.fpOk (Nat.le_refl _) (I1.hok.fresh (Nat.le_refl _))
  · subst ex
    obtain ⟨t, rfl⟩ := r1
    cases ha : z.cps.all (· < 128) with
    | false => exact wpAny_pyIter_wide ha (pi_one (tk := s1.toks) I1 _ (turn_str _ z t "str_iterator" (.inr rfl)) ⟨_, Heap.get?_push_size _ rfl, rfl, rfl⟩ q)
    | true => exact wpAny_pyIter_ascii ha (pi_one (tk := s1.toks) I1 _ (turn_str _ z t "str_ascii_iterator" (.inl rfl)) ⟨_, Heap.get?_push_size _ rfl, rfl, rfl⟩ q)
/-- the signs of a text -/
def signsD (s : Str) : List D := s.cps.toList.map fun c => .str ⟨#[c]⟩
def itemsD : D → Option (List D)
  | .lst ds => some ds
  | .lck ds => some ds
  | .tup ds => some ds
  | .str s => some (signsD s)
  | .dct ds _ => some ds
  | _ => none
def diSeq (e : TDE) : TDI := fun en Q Qe => e en (fun d en1 => match itemsD d with
  | some ds => Q ds en1
  | none => False) Qe
theorem itd_l {F : Hp} {a : Addr} {ds : List D} {vs : List V} (h : SqL K F a vs) (l : IsL K F ds vs) : ItD K F (Itl K a) ds where
  go := fun i F1 H e e' hi => by
    obtain ⟨v, hv, _⟩ := l.get (List.getElem?_eq_getElem hi)
    exact ⟨vs, v, SqL.same (e.trans e') h, hv⟩
  stop := fun F1 H e e' => ⟨vs, SqL.same (e.trans e') h, by rw [l.length]; exact Nat.le_refl _⟩
  yld := fun i G F1 H σ en x H' e R hi y => by
    obtain ⟨rfl, y⟩ := y
    obtain ⟨v, hv, iv⟩ := l.get (List.getElem?_eq_getElem hi)
    have hx := y vs (SqL.same (e.trans R.le) h)
    rw [hv] at hx
    cases hx
    exact ⟨F1, Same.refl _, R, _, List.getElem?_eq_getElem hi, Is.mono e _ _ iv⟩
theorem itd_t {F : Hp} {a : Addr} {ds : List D} {vs : List V} (h : SqT K F a vs) (l : IsL K F ds vs) : ItD K F (Itt K a) ds where
  go := fun i F1 H e e' hi => by
    obtain ⟨v, hv, _⟩ := l.get (List.getElem?_eq_getElem hi)
    exact ⟨vs, v, SqT.same (e.trans e') h, hv⟩
  stop := fun F1 H e e' => ⟨vs, SqT.same (e.trans e') h, by rw [l.length]; exact Nat.le_refl _⟩
  yld := fun i G F1 H σ en x H' e R hi y => by
    obtain ⟨rfl, y⟩ := y
    obtain ⟨v, hv, iv⟩ := l.get (List.getElem?_eq_getElem hi)
    have hx := y vs (SqT.same (e.trans R.le) h)
    rw [hv] at hx
    cases hx
    exact ⟨F1, Same.refl _, R, _, List.getElem?_eq_getElem hi, Is.mono e _ _ iv⟩
theorem itd_s {F : Hp} {s : Str} : ItD K F (Its s) (signsD s) where
  go := fun i F1 H e e' hi => by
    show i < s.cps.size
    simpa [signsD] using hi
  stop := fun F1 H e e' => by
    show s.cps.size ≤ _
    simp [signsD]
  yld := fun i G F1 H σ en x H' e R hi y => by
    obtain ⟨rfl, c, hc, rfl⟩ := y
    refine ⟨F1, Same.refl _, R, .str ⟨#[c]⟩, ?_, rfl⟩
    unfold signsD
    rw [List.getElem?_map, Array.getElem?_toList, hc]
    rfl
theorem di_seq {tg e : Expr} {te : TE} {td : TDE} (h : DE X W e te td) : DI X W tg e (iSeq (kk X) te) (diSeq td) := ⟨pi_seq h.pe, fun G F H σ en R' Qd Qe R q x k =>
  h.sim G F H σ en _ _ Qe R q x fun v d F1 H1 en1 e1 R1 i1 q1 => by
    cases d with
    | lst ds =>
      obtain ⟨a, vs, rfl, ha, la⟩ := i1
      exact .inr <| .inl ⟨a, vs, rfl, SqL.of (R1.le _ _ ha), k _ ds F1 H1 en1 e1 R1 (itd_l (SqL.of ha) la) q1⟩
    | lck ds =>
      obtain ⟨a, vs, rfl, ha, la⟩ := i1
      exact .inr <| .inl ⟨a, vs, rfl, SqL.same R1.le ha, k _ ds F1 H1 en1 e1 R1 (itd_l ha la) q1⟩
    | tup ds =>
      obtain ⟨a, vs, rfl, ha, la⟩ := i1
      exact .inr <| .inr (.inl ⟨a, vs, rfl, SqT.same R1.le ha, k _ ds F1 H1 en1 e1 R1 (itd_t ha la) q1⟩)
    | dct ds es =>
      obtain ⟨a, o, u, ks, kvs, us, rfl, h1, h2, h3, h4, h5, h6⟩ := i1
      exact .inl ⟨a, o, ks, kvs, us, rfl, ⟨u, R1.le _ _ h1⟩, h2, h3, k _ ds F1 H1 en1 e1 R1 (itd_x h1 h5) q1⟩
    | str s => cases i1; exact .inr <| .inr (.inr ⟨s, rfl, k _ (signsD s) F1 H1 en1 e1 R1 itd_s q1⟩)
    | _ => exact q1.elim⟩
/-- d.values(), d.items() -/
def iValsX (K : KW) (te : TE) : TI := fun σ H R => te σ H fun x H1 => ∃ a o ks kvs us, x = .ref a ∧ LkAt K H1 a o ∧ (a == sysModules) = false ∧ DictObj K.w o ks kvs us ∧ R (ItX K a o us) H1
def iItemsX (K : KW) (te : TE) : TI := fun σ H R => te σ H fun x H1 => ∃ a o ks kvs us, x = .ref a ∧ LkAt K H1 a o ∧ (a == sysModules) = false ∧ DictObj K.w o ks kvs us ∧ R (ItP K a o kvs us) H1
section
variable {tg e : Expr} {td : TE} {apos cpos : Pos}
theorem pi_valuesX (he : PE X e td) (hbase : attributeBase e "values" X.env (eval e X.env) = eval e X.env := by rfl) (hline : (apos.endLine == cpos.line) = true := by rfl) : PI X tg (.Call (.Attribute e "values" apos) [] [] cpos) (iValsX (kk X) td) := by
  refine ⟨fun pins s σ H R I h => ?_⟩
  refine wpAny_Call_method (T := "dict") (id := "dict.values") hbase rfl hline F.plainAttrs_dict F.slot_dict_values F.type_dict_values (thn (he.run pins s σ H _ I h) fun u s1 ⟨x, H1, I1, rx, d, o, ks, kvs, us, ex, hd, hs, ⟨hx, ⟨es, ep, hdt, en⟩, _⟩, q⟩ => ?_)
  subst ex
  obtain rfl : u = Value.ref d := rx
  have hgd := LkAt.ok I1 hd
  have hT : s1.TypeIs (.ref d) "dict" := ⟨o, hgd, hx.1⟩
  refine ⟨hT, fun b e => by cases e; exact ⟨o, hgd, hx.2.1⟩, ?_⟩
  have I2 : L2.Inv X pins σ H1 { s1 with heap := s1.heap.push { cls := .type "dict_values", data := .fields #[.ref d] } } := I1.kept (t' := s1.toks) fun b ob q => Heap.get?_push_of_some _ q
  have fin : wpAny (model X.prog X.w) X.A (pyIter (.ref s1.heap.objs.size)) (PIE X pins σ tg R) X.xe { s1 with heap := s1.heap.push { cls := .type "dict_values", data := .fields #[.ref d] } } := by
    refine wpAny_pyIter_values_raw (d := d) ⟨_, Heap.get?_push_size _ rfl, rfl, rfl⟩ ⟨o, Heap.get?_push_of_some _ hgd, hx, hdt⟩ (pi_one (tk := s1.toks) I2 _ (turn_valsX hx _ hdt en) ⟨_, Heap.get?_push_size _ rfl, rfl, rfl⟩ q)
  show wpAny _ _ (callWith cpos (.builtin "dict.values") [.ref d] [] []) _ X.xe s1
  exact method_meetsIn F.slot_dict_values F.entry_dict_values rfl (PySem.evalArgs_none ⟨rfl, hT, F.args_dict_values_1 _, _, meets_dict_values_raw d hs, ⟨⟨es, ep, o, hgd, hx, hdt⟩, fin⟩⟩)
theorem pi_itemsX {elts : List Expr} {kk' : Nat} {tpos : Pos} (he : PE X e td) (hbase : attributeBase e "items" X.env (eval e X.env) = eval e X.env := by rfl) (hline : (apos.endLine == cpos.line) = true := by rfl) : PI X (.Tuple elts kk' tpos) (.Call (.Attribute e "items" apos) [] [] cpos) (iItemsX (kk X) td) := by
  refine ⟨fun pins s σ H R I h => ?_⟩
  refine wpAny_Call_method (T := "dict") (id := "dict.items") hbase rfl hline F.plainAttrs_dict F.slot_dict_items F.type_dict_items (thn (he.run pins s σ H _ I h) fun u s1 ⟨x, H1, I1, rx, d, o, ks, kvs, us, ex, hd, hs, ⟨hx, ⟨es, ep, hdt, en⟩, _⟩, q⟩ => ?_)
  subst ex
  obtain rfl : u = Value.ref d := rx
  have hgd := LkAt.ok I1 hd
  have hT : s1.TypeIs (.ref d) "dict" := ⟨o, hgd, hx.1⟩
  refine ⟨hT, fun b e => by cases e; exact ⟨o, hgd, hx.2.1⟩, ?_⟩
  have I2 : L2.Inv X pins σ H1 { s1 with heap := s1.heap.push { cls := .type "dict_items", data := .fields #[.ref d] } } := I1.kept (t' := s1.toks) fun b ob q => Heap.get?_push_of_some _ q
  have fin : wpAny (model X.prog X.w) X.A (pyIter (.ref s1.heap.objs.size)) (PIE X pins σ (.Tuple elts kk' tpos) R) X.xe { s1 with heap := s1.heap.push { cls := .type "dict_items", data := .fields #[.ref d] } } := by
    refine wpAny_pyIter_items_raw (d := d) ⟨_, Heap.get?_push_size _ rfl, rfl, rfl⟩ ⟨o, Heap.get?_push_of_some _ hgd, hx, hdt⟩ (pi_one (tk := s1.toks) I2 _ (turn_itemsX hx _ hdt en) ⟨.none, .none, Heap.get?_push_size _ rfl⟩ q)
  show wpAny _ _ (callWith cpos (.builtin "dict.items") [.ref d] [] []) _ X.xe s1
  exact method_meetsIn F.slot_dict_items F.entry_dict_items rfl (PySem.evalArgs_none ⟨rfl, hT, F.args_dict_items_1 _, _, meets_dict_items_raw d hs, ⟨⟨es, ep, o, hgd, hx, hdt⟩, fin⟩⟩)
variable {te : TE} {dd : TDE}
def diVals (e : TDE) : TDI := fun en Q Qe => e en (fun d en1 => match d with
  | .dct _ es => Q es en1
  | _ => False) Qe
def diItems (e : TDE) : TDI := fun en Q Qe => e en (fun d en1 => match d with
  | .dct ds es => ds.length = es.length ∧ Q (pairsD ds es) en1
  | _ => False) Qe
theorem di_vals (h : DE X W e te dd) (hbase : attributeBase e "values" X.env (eval e X.env) = eval e X.env := by rfl) (hline : (apos.endLine == cpos.line) = true := by rfl) : DI X W tg (.Call (.Attribute e "values" apos) [] [] cpos) (iValsX (kk X) te) (diVals dd) := ⟨pi_valuesX h.pe hbase hline, fun G F H σ en R' Qd Qe R q x k =>
  h.sim G F H σ en _ _ Qe R q x fun v d F1 H1 en1 e1 R1 i1 q1 => by
    cases d with
    | dct ds es =>
      obtain ⟨a, o, u, ks, kvs, us, rfl, h1, h2, h3, h4, h5, h6⟩ := i1
      exact ⟨a, o, ks, kvs, us, rfl, ⟨u, R1.le _ _ h1⟩, h2, h3, k _ es F1 H1 en1 e1 R1 (itd_x h1 h6) q1⟩
    | _ => exact q1.elim⟩
theorem di_items {elts : List Expr} {kk' : Nat} {tpos : Pos} (h : DE X W e te dd) (hbase : attributeBase e "items" X.env (eval e X.env) = eval e X.env := by rfl) (hline : (apos.endLine == cpos.line) = true := by rfl) : DI X W (.Tuple elts kk' tpos) (.Call (.Attribute e "items" apos) [] [] cpos) (iItemsX (kk X) te) (diItems dd) := ⟨pi_itemsX h.pe hbase hline, fun G F H σ en R' Qd Qe R q x k =>
  h.sim G F H σ en _ _ Qe R q x fun v d F1 H1 en1 e1 R1 i1 q1 => by
    cases d with
    | dct ds es =>
      obtain ⟨a, o, u, ks, kvs, us, rfl, h1, h2, h3, h4, h5, h6⟩ := i1
      exact ⟨a, o, ks, kvs, us, rfl, ⟨u, R1.le _ _ h1⟩, h2, h3, k _ _ F1 H1 en1 e1 R1 (itd_p h1 q1.1 h5 h6) q1.2⟩
    | _ => exact q1.elim⟩
end
/-- lo, lo + 1, .. : n of them -/
def rangeD (lo : Int) (n : Nat) : List D := (List.range n).map fun (i : Nat) => .int (lo + (i : Int))
theorem itd_r {F : Hp} {lo : Int} {n : Nat} : ItD K F (Itr lo n) (rangeD lo n) where
  go := fun i F1 H e e' hi => by
    show i < n
    simpa [rangeD] using hi
  stop := fun F1 H e e' => by
    show n ≤ _
    simp [rangeD]
  yld := fun i G F1 H σ en x H' e R hi y => by
    obtain ⟨rfl, rfl⟩ := y
    refine ⟨F1, Same.refl _, R, .int (lo + i), ?_, rfl⟩
    have hi' : i < n := by simpa [rangeD] using hi
    unfold rangeD
    rw [List.getElem?_map, List.getElem?_range hi']
    rfl
def diRng1 (t : TDA) : TDI := fun en Q Qe => t en (fun ds en1 => match ds with
  | [.int j] => -(2 ^ 62) ≤ j ∧ j < 2 ^ 62 ∧ Q (rangeD 0 j.toNat) en1
  | _ => False) Qe
def diRng2 (t : TDA) : TDI := fun en Q Qe => t en (fun ds en1 => match ds with
  | [.int i, .int j] => (-(2 ^ 62) ≤ i ∧ i < 2 ^ 62 ∧ -(2 ^ 62) ≤ j ∧ j < 2 ^ 62) ∧ Q (rangeD i (j - i).toNat) en1
  | _ => False) Qe
theorem di_range1 {tg a : Expr} {ta : TA} {p pos : Pos} {d : TDA} (hg : Gl X "range") (hm : X.mg "range" = none) (h : DA X W [a] ta d) (hs : starEach [a] X.env = [(false, eval a X.env)] := by rfl) : DI X W tg (.Call (.Name "range" p) [a] [] pos) (iRng1 ta) (diRng1 d) :=
  ⟨pi_range1 hg hm h.pa hs, fun G F H σ en R' Qd Qe R q x k => h.sim G F H σ en _ _ Qe R q x fun vs ds F1 H1 en1 e1 R1 i1 q1 => by
    split at q1
    · obtain ⟨v, r, rfl, hv, hr⟩ := i1
      cases hv; cases hr
      exact ⟨_, rfl, q1.1, q1.2.1, k _ _ F1 H1 en1 e1 R1 itd_r q1.2.2⟩
    · exact q1.elim⟩
theorem di_range2 {tg a b : Expr} {ta : TA} {p pos : Pos} {d : TDA} (hg : Gl X "range") (hm : X.mg "range" = none) (h : DA X W [a, b] ta d) (hs : starEach [a, b] X.env = [(false, eval a X.env), (false, eval b X.env)] := by rfl) (hs2 : starEach [b] X.env = [(false, eval b X.env)] := by rfl) :
    DI X W tg (.Call (.Name "range" p) [a, b] [] pos) (iRng2 ta) (diRng2 d) :=
  ⟨pi_range2 hg hm h.pa hs hs2, fun G F H σ en R' Qd Qe R q x k => h.sim G F H σ en _ _ Qe R q x fun vs ds F1 H1 en1 e1 R1 i1 q1 => by
    split at q1
    · obtain ⟨v, r, rfl, hv, w, r', rfl, hw, hr⟩ := i1
      cases hv; cases hw; cases hr
      exact ⟨_, _, rfl, q1.1, k _ _ F1 H1 en1 e1 R1 itd_r q1.2⟩
    · exact q1.elim⟩

/-! ### for -/
def loopD (g : TDG) (body : TDS) (B : DEnds) : List D → En → Prop
  | [], en => B.nx en
  | d :: ds, en => g d en fun en1 => body { B with nx := loopD g body B ds, ct := loopD g body B ds, bk := B.nx } en1
def dFor (it : TDI) (g : TDG) (body : TDS) : TDS := fun B en => it en (fun ds en1 => loopD g body B ds en1) B.ex
theorem ds_for {tg iter : Expr} {body : List Stmt} {pos : Pos} {wi : TI} {di : TDI} {g : TG} {gd : TDG} {tb : TS} {db : TDS} (hp : PassesOwn (model X.prog X.w) X.A X.env X.xe) (hc : X.calm = true) (hi : DI X W tg iter wi di) (hg : DG X tg g gd) (hb : DSs X W body tb db)
    (hs : ∀ x, foldedSetIterable iter X.env x = pure x := by intro _; rfl) : DS X W (.For tg iter body [] pos) (tFor wi g tb) (dFor di gd db) :=
  ⟨ps_for hp hc hi.pi hg.pg hb.ps hs, fun G F H σ en D' B R q k => hi.sim G F H σ en _ _ _ R q k.ex fun J ds F1 H1 en1 e1 R1 it q1 => by
    refine ⟨fun i m σ H => m = ds.length - i ∧ i ≤ ds.length ∧ ∃ F en, Same F1 F ∧ Rel (kk X) G F H σ en ∧ loopD gd db B (ds.drop i) en, ⟨ds.length, by simp, Nat.zero_le _, F1, en1, Same.refl _, R1, q1⟩, ?_⟩
    rintro i m σ H ⟨rfl, hi, F2, en2, e2, R2, q2⟩
    by_cases hlt : i < ds.length
    · refine .inr ⟨it.go i F2 H e2 R2.le hlt, fun σ' H' => ∃ F en, Same F1 F ∧ Rel (kk X) G F H' σ' en ∧ loopD gd db B (ds.drop (i + 1)) en, fun σ' H' ⟨F3, en3, e3, R3, q3⟩ => ⟨ds.length - (i + 1), by omega, rfl, hlt, F3, en3, e3, R3, q3⟩, fun x H' y => ?_⟩
      obtain ⟨F3, e3, R3, d, hd, id⟩ := it.yld i G F2 H σ en2 x H' e2 R2 hlt y
      have hd' : ds[i] = d := by rw [List.getElem?_eq_getElem hlt] at hd; exact Option.some.inj hd
      rw [List.drop_eq_getElem_cons hlt, hd'] at q2
      refine hg.sim G F3 H' σ en2 d x _ _ R3 id q2 fun F4 H4 σ4 en4 e4 R4 q4 => ?_
      refine hb.sim { G with F0 := F1 } F4 H4 σ4 en4 _ _ (R1.fwd R4 ((e2.trans e3).trans e4)) q4 ⟨fun F5 H5 σ5 en5 R5 q5 => ⟨F5, en5, R5.f0, R1.bwd R5, q5⟩, fun v d F5 H5 σ5 en5 z R5 i5 q5 => k.rt v d F5 H5 σ5 en5 z (R1.bwd R5) i5 q5,
        fun F5 H5 σ5 en5 R5 q5 => k.nx F5 H5 σ5 en5 (R1.bwd R5) q5, fun F5 H5 σ5 en5 R5 q5 => ⟨F5, en5, R5.f0, R1.bwd R5, q5⟩, fun x F5 H5 σ5 en5 cls dd R5 => k.ex x F5 H5 σ5 en5 cls dd (R1.bwd R5), fun a d F5 H5 σ5 en5 z R5 T5 q5 => k.rtO a d F5 H5 σ5 en5 z (R1.bwd R5) ⟨T5.nf, T5.at_, T5.n0, T5.ns⟩ q5⟩
    · have e : i = ds.length := by omega
      subst e
      rw [List.drop_length] at q2
      exact .inl ⟨it.stop F2 H e2 R2.le, k.nx F2 H σ en2 R2 q2⟩⟩
end
end DL

/-! The D layer, part 5: defs, calls, instances. -/
namespace DL
open PySem L2

theorem cxUpN {P : Program} {w : World} : StX.CXUp (L2N.CX P w) := by
  rintro outer s H s2 H2 E e s' un kp ho ⟨a, B, H', cls, d, ea, fl, hok, ub, na, os, ag, he⟩
  refine ⟨a, B, H', cls, d, ea, fl, hok, ⟨fun b o q n hb => ub.keep b o (kp b o q) (un.free b o q n (by simp)) hb, fun b o q hb => ub.slot b o (kp b o q) hb, fun b o q n => ub.free b o (kp b o q) (un.free b o q n (by simp)),
    fun b o q hb => ub.there b o (kp b o q) hb, fun b xs q => ub.tups b xs (un.tups b xs q), fun b o xs q => ub.frzs b o xs (un.frzs b o xs q), fun b ps q => ?_⟩, na, os.trans ho, ag, he⟩
  obtain ⟨m1, e1⟩ := un.tbls b ps q
  obtain ⟨m2, e2⟩ := ub.tbls b _ e1
  exact ⟨m1 ++ m2, by rw [e2, Array.append_assoc]⟩
/-! ### promises over plain data -/
/-- what a def promises: the arguments, what is wanted of its value (and of the objects handed in, as it leaves them), of its exceptions -/
abbrev SpD := List D → (D → List D → Prop) → (Exn → List D → Prop) → Prop
/-- the objects handed in: slot, address -/
def ioOf (vs : List V) (io : List Nat) : List (Nat × Addr) := io.filterMap fun i => match (vs[i]? : Option V) with
  | some (V.ref a) => some (i, a)
  | _ => none
structure ArgsR (K : KW) (F H : Hp) (io : List Nat) (vs : List V) (ds : List D) : Prop where
  len : vs.length = ds.length
  fz : ∀ (i : Nat) d, ds[i]? = some d → i ∉ io → ∃ v, vs[i]? = some v ∧ Is K F d v
  ow : ∀ (i : Nat) d, ds[i]? = some d → i ∈ io → ∃ a, vs[i]? = some (V.ref a) ∧ F a = none ∧ OwAt K F H a d
  sep : ∀ (i j : Nat) a, i ∈ io → j ∈ io → vs[i]? = some (V.ref a) → vs[j]? = some (V.ref a) → i = j
structure Post (F H F' H' : Hp) (as : List Addr) : Prop where
  f : Same F F'
  le : Same F' H'
  keep : ∀ a o, H a = some o → a ∉ as → H' a = some o
  new : ∀ a, F a = none → H a ≠ none → F' a = none
  there : ∀ a ∈ as, H' a ≠ none
/-- what is left of the objects handed in -/
inductive OutsR (K : KW) (F H : Hp) : List Addr → List D → Prop
  | nil : OutsR K F H [] []
  | cons {a : Addr} {d : D} {as : List Addr} {ds : List D} : OwAt K F H a d → OutsR K F H as ds → OutsR K F H (a :: as) (d :: ds)
def spOf (K : KW) (io : List Nat) (sd : SpD) : Sp := fun vs H Q E => ∃ F ds Qd Qe, Same F H ∧ ArgsR K F H io vs ds ∧ sd ds Qd Qe ∧
  (∀ v r outs F' H', Post F H F' H' ((ioOf vs io).map (·.2)) → Is K F' r v → OutsR K F' H' ((ioOf vs io).map (·.2)) outs → Qd r outs → Q v H') ∧
  (∀ x outs cls d F' H', Post F H F' H' ((ioOf vs io).map (·.2)) → ExR K F' x cls d → OutsR K F' H' ((ioOf vs io).map (·.2)) outs → Qe x outs → E cls d H')

/-- the same where the value is a new object of one's own -/
def spOfF (K : KW) (io : List Nat) (sd : SpD) : Sp := fun vs H Q E => ∃ F ds Qd Qe, Same F H ∧ ArgsR K F H io vs ds ∧ sd ds Qd Qe ∧
  (∀ a r outs F' H', Post F H F' H' ((ioOf vs io).map (·.2)) → F' a = none → H a = none → OwAt K F' H' a r → OutsR K F' H' ((ioOf vs io).map (·.2)) outs → Qd r outs → Q (.ref a) H') ∧
  (∀ x outs cls d F' H', Post F H F' H' ((ioOf vs io).map (·.2)) → ExR K F' x cls d → OutsR K F' H' ((ioOf vs io).map (·.2)) outs → Qe x outs → E cls d H')
def spOfB (fr : Bool) (K : KW) (io : List Nat) (sd : SpD) : Sp := match fr with
  | true => spOfF K io sd
  | false => spOf K io sd
/-- the slots at a def's entry -/
def startE (n : Nat) (io : List Nat) (ds : List D) : En := (ds.mapIdx fun i d => some (if i ∈ io then Ent.ow true d else Ent.fz d)) ++ List.replicate (n - ds.length) none
def outAt (en : En) (i : Nat) : Option D := match en[i]? with
  | some (some (.ow true d)) => some d
  | _ => none
def outsE (io : List Nat) (en : En) : Option (List D) := match io with
  | [] => some []
  | i :: r => match outAt en i, outsE r en with
    | some d, some ds => some (d :: ds)
    | _, _ => none
/-- the ends of a def's body -/
def endsD (io : List Nat) (Qd : D → List D → Prop) (Qe : Exn → List D → Prop) (fr : Bool := false) : DEnds where
  fr := fr
  nx := fun en => fr = false ∧ ∃ outs, outsE io en = some outs ∧ Qd .non outs
  rt := fun d en => ∃ outs, outsE io en = some outs ∧ Qd d outs
  bk := fun _ => False
  ct := fun _ => False
  ex := fun x en => ∃ outs, outsE io en = some outs ∧ Qe x outs

section
variable {K : KW} {F H F' H' : Hp} {io : List Nat} {vs : List V} {ds : List D}
theorem mem_ioOf {i : Nat} {a : Addr} : (i, a) ∈ ioOf vs io ↔ i ∈ io ∧ vs[i]? = some (V.ref a) := by
  unfold ioOf
  rw [List.mem_filterMap]
  constructor
  · rintro ⟨j, hj, e⟩
    split at e
    · rename_i b hb
      cases e
      exact ⟨hj, hb⟩
    · cases e
  · rintro ⟨h1, h2⟩
    exact ⟨i, h1, by rw [h2]⟩
def gh0 (F H : Hp) (l : List (Nat × Addr)) : Gh := ⟨F, H, fun a => H a ≠ none ∧ ∀ p ∈ l, p.2 ≠ a, l, []⟩
theorem startE_len {n : Nat} (h : ds.length ≤ n) : (startE n io ds).length = n := by
  unfold startE
  rw [List.length_append, List.length_mapIdx, List.length_replicate]
  omega
theorem startE_get {n : Nat} {i : Nat} {e : Ent} (h : (startE n io ds)[i]? = some (some e)) : ∃ d, ds[i]? = some d ∧ e = if i ∈ io then Ent.ow true d else Ent.fz d := by
  unfold startE at h
  by_cases hl : i < ds.length
  · rw [List.getElem?_append_left (by rw [List.length_mapIdx]; exact hl), List.getElem?_mapIdx, List.getElem?_eq_getElem hl] at h
    simp only [Option.map_some, Option.some.injEq] at h
    exact ⟨_, List.getElem?_eq_getElem hl, h.symm⟩
  · rw [List.getElem?_append_right (by rw [List.length_mapIdx]; omega), List.getElem?_replicate] at h
    split at h <;> cases h
theorem start_get {N : List Str} {i : Nat} {v : V} (h : vs[i]? = some v) : (L2.start N vs)[i]? = some (some v) := by
  unfold L2.start
  have hl : i < vs.length := (List.getElem?_eq_some_iff.mp h).1
  rw [List.getElem?_append_left (by rw [List.length_map]; exact hl), List.getElem?_map, h]
  rfl
theorem start_len {N : List Str} (h : vs.length ≤ N.length) : (L2.start N vs).length = N.length := by
  unfold L2.start
  rw [List.length_append, List.length_map, List.length_replicate]
  omega
theorem start_rel {N : List Str} (e : Same F H) (A : ArgsR K F H io vs ds) (hN : ds.length ≤ N.length) (hio : ∀ i ∈ io, i < ds.length) : Rel K (gh0 F H (ioOf vs io)) F H (L2.start N vs) (startE N.length io ds) where
  le := e
  f0 := Same.refl F
  pr := fun a z => ⟨rfl, z.1, id⟩
  io := fun p hp => by
    obtain ⟨i, a⟩ := p
    obtain ⟨h1, h2⟩ := mem_ioOf.mp hp
    obtain ⟨a', k1, k2, k3⟩ := A.ow i _ (List.getElem?_eq_getElem (hio i h1)) h1
    rw [h2] at k1
    cases k1
    exact ⟨k3.there, k2⟩
  len := by rw [start_len (by rw [A.len]; exact hN), startE_len hN]
  fz := fun i d h => by
    obtain ⟨d', h1, h2⟩ := startE_get h
    split at h2
    · cases h2
    · cases h2
      obtain ⟨v, k1, k2⟩ := A.fz i d h1 (by assumption)
      exact ⟨v, start_get k1, k2⟩
  ow := fun i b d h => by
    obtain ⟨d', h1, h2⟩ := startE_get h
    split at h2
    · cases h2
      rename_i hi
      obtain ⟨a, k1, k2, k3⟩ := A.ow i d h1 hi
      have m : (i, a) ∈ ioOf vs io := mem_ioOf.mpr ⟨hi, k1⟩
      exact ⟨a, start_get k1, k2, k3, fun z => z.2 _ m rfl, (fun z => nomatch z), fun _ => m⟩
    · cases h2
  sep := fun i j b c d e a h1 h2 h3 h4 => by
    obtain ⟨d', k1, k2⟩ := startE_get h1
    obtain ⟨e', k3, k4⟩ := startE_get h2
    split at k2
    · split at k4
      · rename_i hi hj
        obtain ⟨a1, m1, _⟩ := A.ow i d' k1 hi
        obtain ⟨a2, m2, _⟩ := A.ow j e' k3 hj
        have n1 := start_get (N := N) m1
        have n2 := start_get (N := N) m2
        rw [h3] at n1
        rw [h4] at n2
        cases n1
        cases n2
        exact A.sep i j a hi hj m1 m2
      · cases k4
    · cases k2
  xc := fun i a c d x h => by
    obtain ⟨d', _, h2⟩ := startE_get h
    split at h2 <;> cases h2
theorem rel_post {σ : L2.St} {en : En} {l : List (Nat × Addr)} (R : Rel K (gh0 F H l) F' H' σ en) : Post F H F' H' (l.map (·.2)) where
  f := R.f0
  le := R.le
  keep := fun a o h n => by
    have := (R.pr a ⟨by rw [h]; simp, fun p hp z => n (List.mem_map.mpr ⟨p, hp, z⟩)⟩).1
    rw [this]
    exact h
  new := fun a h1 h2 => by
    by_cases m : ∃ p ∈ l, p.2 = a
    · obtain ⟨p, hp, e⟩ := m
      rw [← e]
      exact (R.io p hp).2
    · exact (R.pr a ⟨h2, fun p hp z => m ⟨p, hp, z⟩⟩).2.2 h1
  there := fun a m => by
    obtain ⟨p, hp, e⟩ := List.mem_map.mp m
    rw [← e]
    exact (R.io p hp).1
theorem out_at {σ : L2.St} {en : En} (hN : io.Nodup) (R : Rel K (gh0 F H (ioOf vs io)) F' H' σ en) {i : Nat} {d : D} (h : outAt en i = some d) : ∃ a, vs[i]? = some (V.ref a) ∧ OwAt K F' H' a d := by
  unfold outAt at h
  split at h
  · rename_i e
    cases h
    obtain ⟨a, h1, h2, h3, _, _, h4⟩ := R.ow i true d e
    exact ⟨a, (mem_ioOf.mp (h4 rfl)).2, h3⟩
  · cases h
theorem outs_rel {σ : L2.St} {en : En} (hN : io.Nodup) (R : Rel K (gh0 F H (ioOf vs io)) F' H' σ en) : ∀ {l : List Nat} {outs : List D}, outsE l en = some outs → OutsR K F' H' ((ioOf vs l).map (·.2)) outs
  | [], _, h => by cases h; exact .nil
  | i :: r, outs, h => by
    unfold outsE at h
    cases e1 : outAt en i with
    | none => rw [e1] at h; cases h
    | some d =>
      cases e2 : outsE r en with
      | none => rw [e1, e2] at h; cases h
      | some ds =>
        rw [e1, e2] at h
        cases h
        obtain ⟨a, k1, k2⟩ := out_at hN R e1
        have e : ioOf vs (i :: r) = (i, a) :: ioOf vs r := by
          unfold ioOf
          rw [List.filterMap_cons, k1]
        rw [e]
        exact .cons k2 (outs_rel hN R e2)
end

/-- a def by its promise over plain data -/
abbrev FnD (P : Program) (w : World) (K : Fg) (mg : Str → Option Value) (base : Heap) (k : Nat) (f : Addr) (io : List Nat) (sd : SpD) : Prop := FnR P w K mg base (L2N.CX P w) k f (spOf ⟨K, w⟩ io sd)
abbrev wBody (E : XK) : WX := fun cls d _ H => E cls d H

section
variable {P : Program} {w : World} {K : Fg} {mg : Str → Option Value} {base : Heap}
/-- the rule for a def, its function object by name -/
theorem fnOkD_of {x qual : Str} {params : Arguments} {body : List Stmt} {scope : Scope} {f : Addr} {fd : FuncData} {N ps : List Str} {k : Nat} {io : List Nat} {sd : SpD} {td : TDS} (F : FunD K x qual params body scope [] [] f fd) (S : FnScope N ps scope)
    (hps : ps.length ≤ N.length) (hion : io.Nodup) (hio : ∀ i ∈ io, i < ps.length) (len : ∀ ds Qd Qe, sd ds Qd Qe → ds.length = ps.length)
    (walk : ∀ (cdv : Value) (A : Around) (outer : List Env) (s : Shared) (H : Hp) (E : XK), Room k (A.deeper (PyProof.Rows.envOfC qual scope s.heap.objs.size f cdv)) →
      ∃ ts, DSs (cxOf (L2N.CX P w) P w K mg base N qual scope f cdv A outer s H E) (wBody E) body ts td)
    (fr : Bool := false) (rd : ∀ ds Qd Qe, sd ds Qd Qe → td (endsD io Qd Qe fr) (startE N.length io ds)) : FnOk P w K mg base (L2N.CX P w) (k + 1) f fd ps (spOfB fr ⟨K, w⟩ io sd) := by
  refine F.ok S (fun vs H Q E h => ?_) (fun cdv A outer s H vs Q E hr h => ?_)
  · cases fr with
    | false =>
      obtain ⟨F', ds, Qd, Qe, _, A, h, _⟩ := h
      rw [A.len]
      exact len ds Qd Qe h
    | true =>
      obtain ⟨F', ds, Qd, Qe, _, A, h, _⟩ := h
      rw [A.len]
      exact len ds Qd Qe h
  cases fr with
  | true =>
    obtain ⟨F', ds, Qd, Qe, e, A', h, h1, h2⟩ := h
    obtain ⟨ts, wk⟩ := walk cdv A outer s H E hr
    refine ⟨ts, wk.ps, ?_⟩
    have hl := len ds Qd Qe h
    have R := start_rel (N := N) e A' (by rw [hl]; exact hps) (by rw [hl]; exact hio)
    refine wk.sim _ F' H _ _ _ _ R (rd ds Qd Qe h) ⟨fun F1 H1 σ en R1 q => (nomatch q.1), fun v d F1 H1 σ en z => (nomatch z), fun F1 H1 σ en R1 q => q.elim, fun F1 H1 σ en R1 q => q.elim, fun x F1 H1 σ en cls d R1 i q => ?_, fun a d F1 H1 σ en _ R1 T q => ?_⟩
    · obtain ⟨outs, q1, q2⟩ := q
      exact h2 x outs cls d F1 H1 (rel_post R1) i (outs_rel hion R1 q1) q2
    · obtain ⟨outs, q1, q2⟩ := q
      refine h1 a d outs F1 H1 (rel_post R1) T.nf ?_ T.at_ (outs_rel hion R1 q1) q2
      cases w : H a with
      | none => rfl
      | some o => exact absurd ⟨by rw [w]; simp, T.n0.2⟩ T.n0.1
  | false =>
    obtain ⟨F', ds, Qd, Qe, e, A', h, h1, h2⟩ := h
    obtain ⟨ts, wk⟩ := walk cdv A outer s H E hr
    refine ⟨ts, wk.ps, ?_⟩
    have hl := len ds Qd Qe h
    have R := start_rel (N := N) e A' (by rw [hl]; exact hps) (by rw [hl]; exact hio)
    refine wk.sim _ F' H _ _ _ _ R (rd ds Qd Qe h) ⟨fun F1 H1 σ en R1 q => ?_, fun v d F1 H1 σ en _ R1 i q => ?_, fun F1 H1 σ en R1 q => q.elim, fun F1 H1 σ en R1 q => q.elim, fun x F1 H1 σ en cls d R1 i q => ?_, fun a d F1 H1 σ en z => (nomatch z)⟩
    · obtain ⟨_, outs, q1, q2⟩ := q
      exact h1 _ .non outs F1 H1 (rel_post R1) rfl (outs_rel hion R1 q1) q2
    · obtain ⟨outs, q1, q2⟩ := q
      exact h1 _ d outs F1 H1 (rel_post R1) i (outs_rel hion R1 q1) q2
    · obtain ⟨outs, q1, q2⟩ := q
      exact h2 x outs cls d F1 H1 (rel_post R1) i (outs_rel hion R1 q1) q2
/-- THE RULE for a def -/
theorem fnD_of {x qual : Str} {params : Arguments} {body : List Stmt} {scope : Scope} {f : Addr} {fd : FuncData} {N ps : List Str} {k : Nat} {io : List Nat} {sd : SpD} {td : TDS} (F : FunD K x qual params body scope [] [] f fd) (S : FnScope N ps scope)
    (hb : Binds K fd ps []) (hps : ps.length ≤ N.length) (hion : io.Nodup) (hio : ∀ i ∈ io, i < ps.length) (len : ∀ ds Qd Qe, sd ds Qd Qe → ds.length = ps.length)
    (walk : ∀ (cdv : Value) (A : Around) (outer : List Env) (s : Shared) (H : Hp) (E : XK), Room k (A.deeper (PyProof.Rows.envOfC qual scope s.heap.objs.size f cdv)) →
      ∃ ts, DSs (cxOf (L2N.CX P w) P w K mg base N qual scope f cdv A outer s H E) (wBody E) body ts td)
    (fr : Bool := false) (rd : ∀ ds Qd Qe, sd ds Qd Qe → td (endsD io Qd Qe fr) (startE N.length io ds)) : FnR P w K mg base (L2N.CX P w) (k + 1) f (spOfB fr ⟨K, w⟩ io sd) := by
  have G : FnOk P w K mg base (L2N.CX P w) (k + 1) f fd ps (spOfB fr ⟨K, w⟩ io sd) := fnOkD_of F S hps hion hio len walk fr rd
  refine FnR.imp (FnOk.raw G hb .nil) fun vs H Q E h => ?_
  rw [List.append_nil]
  exact h
end

/-! ### calls -/
section
variable {X : Cx} {W : WX} {K : KW}
theorem run_D {k : Nat} {f : Addr} {sp : Sp} {pins : List (Addr × Obj)} {σ : L2.St} {H : Hp} {s : Shared} {Q : VK} {us : List Value} {vs : List V} (F : FnR X.prog X.w X.K X.mg X.base (L2N.CX X.prog X.w) k f sp) (hr : Room k X.A) (tk : Takes X W)
    (I : L2.Inv X pins σ H s) (r : Vals vs us) (h : sp vs H Q (fun c d H => W c d σ H)) : codeAny (model X.prog X.w) X.A (.call (.ref f) ⟨us, []⟩) (fun r s' => match r with | .ok (.ret v) => EP X pins σ Q v s' | .ok _ => False | .error e => X.xe e s') s := by
  refine codeAny_mono (F X.A X.stack s H us vs Q _ hr I.env0 r h) fun r s' hq => ?_
  cases r with
  | error e => exact passAt tk σ pins H s e s' I hq
  | ok fl =>
    cases fl with
    | ret u => exact I.after hq
    | next => exact False.elim hq
    | brk => exact False.elim hq
    | cont => exact False.elim hq
def tCallR (sp : Sp) (W : WX) (t : TA) : TE := fun σ H Q => t σ H fun vs H1 => sp vs H1 Q fun c d H => W c d σ H
section
variable {k : Nat} {f : Addr} {sp : Sp} {x : Str} {p pos : Pos} {e : Expr} {es : List Expr} {t : TA}
theorem pe_callR (F : FnR X.prog X.w X.K X.mg X.base (L2N.CX X.prog X.w) k f sp) (hr : Room k X.A) (tk : Takes X W) (hg : Gl X x) (hm : X.mg x = some (.ref f)) (hk : PySem.W.keepIn X.K (.ref f) = true) (ha : PA X (e :: es) t) (hd : (x == ("__debug__" : Str)) = false := by decide)
    (he : starEach (e :: es) X.env = (false, eval e X.env) :: starEach es X.env := by rfl) (hpl : (backTo pos (starEach es X.env)).any (·.1) = false := by rfl) : PE X (.Call (.Name x p) (e :: es) [] pos) (tCallR sp W t) :=
  ⟨fun pins s σ H Q I h => wpAny_Call_Name_kw (ld_glob I hg hm (PySem.W.callWith_K (h₀ := X.base) I.ok.mod.kin hk (thn (ha.run pos pins s σ H _ I h) fun us s1 ⟨vs, H1, I1, r, q⟩ => ⟨I1.kIn, wpAny_call (run_D F hr tk I1 r q)⟩) he hpl) hd)⟩
theorem pe_callR0 (F : FnR X.prog X.w X.K X.mg X.base (L2N.CX X.prog X.w) k f sp) (hr : Room k X.A) (tk : Takes X W) (hg : Gl X x) (hm : X.mg x = some (.ref f)) (hk : PySem.W.keepIn X.K (.ref f) = true) (hd : (x == ("__debug__" : Str)) = false := by decide) :
    PE X (.Call (.Name x p) [] [] pos) (tCallR sp W tNil) :=
  ⟨fun pins s σ H Q I h => wpAny_Call_Name_kw (ld_glob I hg hm (PySem.W.callWith_K0 I.kIn hk (wpAny_call (run_D (us := []) F hr tk I .nil h))) hd)⟩
end
def dCall (sd : SpD) (a : TDA) : TDE := fun en Q Qe => a en (fun ds en1 => sd ds (fun r _ => Q r en1) fun x _ => Qe x en1) Qe
theorem argsR_of {G : Gh} {F H : Hp} {σ : L2.St} {en : En} {ds : List D} {vs : List V} (R : Rel K G F H σ en) (i : IsL K F ds vs) : ArgsR K F H [] vs ds where
  len := i.length
  fz := fun j d h _ => i.get h
  ow := fun j d h m => absurd m (by simp)
  sep := fun i j a m => absurd m (by simp)
theorem post_rel {G : Gh} {F H F' H' : Hp} {σ : L2.St} {en : En} (R : Rel K G F H σ en) (p : Post F H F' H' []) : Rel K G F' H' σ en := by
  refine R.step (fun _ => False) p.f p.le (fun a h1 h2 => .inl ?_) (fun a o h _ => p.keep a o h (by simp)) (fun _ z => z.elim) rfl (fun i d e => .inl e) fun i b d e => ?_
  · cases q : H a with
    | none => rfl
    | some o => exact absurd (p.new a h1 (by rw [q]; simp)) h2
  · obtain ⟨a, h1, h2, h3, _⟩ := R.ow i b d e
    exact ⟨a, d, h1, e, h3.new p.f fun a o h => p.keep a o h (by simp)⟩
theorem ioOf_nil {vs : List V} : ioOf vs [] = [] := rfl
/-- the promise, from a simulated argument list -/
theorem sp_run {G : Gh} {F H : Hp} {σ : L2.St} {en : En} {ds : List D} {vs : List V} {sd : SpD} {Q : VK} {E : XK} {Qd : D → Prop} {Qe : Exn → Prop} (R : Rel K G F H σ en) (i : IsL K F ds vs) (q : sd ds (fun r _ => Qd r) fun x _ => Qe x)
    (k : ∀ v r F' H', Same F F' → Rel K G F' H' σ en → Is K F' r v → Qd r → Q v H') (kx : ∀ x cls d F' H', Rel K G F' H' σ en → ExR K F' x cls d → Qe x → E cls d H') : spOf K [] sd vs H Q E :=
  ⟨F, ds, _, _, R.le, argsR_of R i, q, fun v r outs F' H' p i' _ q' => k v r F' H' p.f (post_rel R p) i' q', fun x outs cls d F' H' p i' _ q' => kx x cls d F' H' (post_rel R p) i' q'⟩
theorem sim_call {sd : SpD} {t : TA} {d : TDA} (h : SimA K W t d) : Sim K W (tCallR (spOf K [] sd) W t) (dCall sd d) := fun G F H σ en Q Qd Qe R q x k =>
  h G F H σ en _ _ Qe R q x fun vs ds F1 H1 en1 e1 R1 i1 q1 => sp_run (Qd := fun r => Qd r en1) (Qe := fun x => Qe x en1) R1 i1 q1 (fun v r F2 H2 e2 R2 i2 q2 => k v r F2 H2 en1 (e1.trans e2) R2 i2 q2)
    fun y cls d F2 H2 R2 i2 q2 => x y F2 H2 σ en1 cls d R2 i2 q2
section
variable {k : Nat} {f : Addr} {sd : SpD} {x : Str} {p pos : Pos} {e : Expr} {es : List Expr} {t : TA} {d : TDA}
theorem de_call (F : FnD X.prog X.w X.K X.mg X.base k f [] sd) (hr : Room k X.A) (tk : Takes X W) (hg : Gl X x) (hm : X.mg x = some (.ref f)) (hk : PySem.W.keepIn X.K (.ref f) = true) (ha : DA X W (e :: es) t d) (hd : (x == ("__debug__" : Str)) = false := by decide)
    (he : starEach (e :: es) X.env = (false, eval e X.env) :: starEach es X.env := by rfl) (hpl : (backTo pos (starEach es X.env)).any (·.1) = false := by rfl) : DE X W (.Call (.Name x p) (e :: es) [] pos) (tCallR (spOf (kk X) [] sd) W t) (dCall sd d) := ⟨pe_callR F hr tk hg hm hk ha.pa hd he hpl, sim_call ha.sim⟩
theorem de_call0 (F : FnD X.prog X.w X.K X.mg X.base k f [] sd) (hr : Room k X.A) (tk : Takes X W) (hg : Gl X x) (hm : X.mg x = some (.ref f)) (hk : PySem.W.keepIn X.K (.ref f) = true) (hd : (x == ("__debug__" : Str)) = false := by decide) :
    DE X W (.Call (.Name x p) [] [] pos) (tCallR (spOf (kk X) [] sd) W tNil) (dCall sd dNil) := ⟨pe_callR0 F hr tk hg hm hk hd, sim_call (fun G F H σ en Q Qd Qe R q x k => k [] [] F H en (Same.refl F) R rfl q)⟩
end
/-! ### a call that hands on one object to be changed, as its first argument -/
/-- the slot i holds an object of one's own -/
def ownAt (en : En) (i : Nat) : Option (Bool × D) := match en[i]? with
  | some (some (.ow b d)) => some (b, d)
  | _ => none
def dCallIO (i : Nat) (sd : SpD) (a : TDA) : TDE := fun en Q Qe => (ownAt en i).isSome = true ∧ a en (fun ds en1 => match ownAt en1 i with
  | some (b, d) => sd (d :: ds) (fun r outs => match outs with
      | [d'] => Q r (en1.set i (some (.ow b d')))
      | _ => False) fun x outs => match outs with
      | [d'] => Qe x (en1.set i (some (.ow b d')))
      | _ => False
  | none => False) Qe
theorem ownAt_eq {en : En} {i : Nat} {b : Bool} {d : D} (h : ownAt en i = some (b, d)) : en[i]? = some (some (Ent.ow b d)) := by
  unfold ownAt at h
  split at h
  · cases h; assumption
  · cases h
theorem post_io {G : Gh} {F H F' H' : Hp} {σ : L2.St} {en : En} {i : Nat} {b : Bool} {d d' : D} {a : Addr} (R : Rel K G F H σ en) (h : en[i]? = some (some (Ent.ow b d))) (hs : σ[i]? = some (some (V.ref a))) (p : Post F H F' H' [a]) (o : OwAt K F' H' a d') : Rel K G F' H' σ (en.set i (some (Ent.ow b d'))) := by
  obtain ⟨a', h1, h2, h3, h4, _⟩ := R.ow i b d h
  rw [hs] at h1
  cases h1
  have hlt := get_lt h
  refine R.step (fun z => z = a) p.f p.le (fun c k1 k2 => .inl ?_) (fun c u q m => p.keep c u q (by simpa using m)) (fun c z => by subst z; exact ⟨h4, p.there c (by simp)⟩) (by simp) (fun j f q => ?_) fun j c f q => ?_
  · cases q : H c with
    | none => rfl
    | some o => exact absurd (p.new c k1 (by rw [q]; simp)) k2
  · by_cases z : j = i
    · subst z; rw [List.getElem?_set_self hlt] at q; cases q
    · rw [List.getElem?_set_ne (fun q => z q.symm)] at q; exact .inl q
  · by_cases z : j = i
    · subst z
      rw [List.getElem?_set_self hlt] at q
      cases q
      exact ⟨a, d, hs, h, o⟩
    · rw [List.getElem?_set_ne (fun q => z q.symm)] at q
      obtain ⟨a2, q1, q2, q3, _⟩ := R.ow j c f q
      have ne : a2 ≠ a := fun z2 => by
        subst z2
        exact z (R.sep j i c b f d a2 q h q1 hs)
      refine ⟨a2, f, q1, q, q3.move p.f ?_⟩
      cases w : H a2 with
      | none => exact absurd w q3.there
      | some u => exact p.keep a2 u w (by simpa using ne)
theorem sim_callIO {i : Nat} {sd : SpD} {t : TA} {d : TDA} (h : SimA K W t d) : Sim K W (tCallR (spOf K [0] sd) W (tCons (tVar i) t)) (dCallIO i sd d) := fun G F H σ en Q Qd Qe R q x k => by
  obtain ⟨q0, q⟩ := q
  obtain ⟨⟨b0, d0⟩, e0⟩ := Option.isSome_iff_exists.mp q0
  obtain ⟨a, h1, _⟩ := R.ow i b0 d0 (ownAt_eq e0)
  refine ⟨_, h1, h G F H σ en _ _ Qe R q x fun vs ds F1 H1 en1 e1 R1 i1 q1 => ?_⟩
  split at q1
  · rename_i b d1 e2
    have e2 := ownAt_eq e2
    obtain ⟨a', h1', h2, h3, _⟩ := R1.ow i b d1 e2
    rw [h1] at h1'
    cases h1'
    have io : ioOf (V.ref a :: vs) [0] = [(0, a)] := by simp [ioOf]
    refine ⟨F1, d1 :: ds, _, _, R1.le, ⟨by simp [i1.length], fun j e hj hn => ?_, fun j e hj hn => ?_, fun j l a m1 m2 _ _ => by simp at m1 m2; rw [m1, m2]⟩, q1, fun v r outs F2 H2 p i2 os q2 => ?_, fun y outs cls d F2 H2 p i2 os q2 => ?_⟩
    · cases j with
      | zero => exact absurd (by simp) hn
      | succ j => exact i1.get (by simpa using hj)
    · have : j = 0 := by simpa using hn
      subst this
      cases hj
      exact ⟨a, rfl, h2, h3⟩
    · rw [io] at p os
      cases os with
      | cons o os =>
        cases os
        exact k v r F2 H2 _ (e1.trans p.f) (post_io R1 e2 h1 p o) i2 q2
    · rw [io] at p os
      cases os with
      | cons o os =>
        cases os
        exact x y F2 H2 σ _ cls d (post_io R1 e2 h1 p o) i2 q2
  · exact q1.elim
section
variable {k : Nat} {f : Addr} {sd : SpD} {x y : Str} {p p2 pos : Pos} {es : List Expr} {t : TA} {d : TDA}
theorem de_callIO (i : Nat) (F : FnD X.prog X.w X.K X.mg X.base k f [0] sd) (hr : Room k X.A) (tk : Takes X W) (hg : Gl X x) (hm : X.mg x = some (.ref f)) (hk : PySem.W.keepIn X.K (.ref f) = true) (ha : DA X W es t d) (hd : (x == ("__debug__" : Str)) = false := by decide)
    (hN : X.N[i]? = some y := by rfl) (hv : Vis X.env.scope y := by first | exact Or.inl rfl | exact Or.inr (Or.inl rfl) | exact Or.inr (Or.inr rfl)) (hd2 : (y == ("__debug__" : Str)) = false := by decide) (hcd : (y == ("__classdict__" : Str)) = false := by decide)
    (he : starEach (.Name y p2 :: es) X.env = (false, eval (.Name y p2) X.env) :: starEach es X.env := by rfl) (hpl : (backTo pos (starEach es X.env)).any (·.1) = false := by rfl) : DE X W (.Call (.Name x p) (.Name y p2 :: es) [] pos) (tCallR (spOf (kk X) [0] sd) W (tCons (tVar i) t)) (dCallIO i sd d) :=
  ⟨pe_callR F hr tk hg hm hk (pa_cons (pe_var hN hv hd2 hcd) ha.pa he) hd he hpl, sim_callIO ha.sim⟩
end

/-! ### a call that gives a new object of one's own -/
theorem sim_callF {sd : SpD} {t : TA} {d : TDA} (h : SimA K W t d) : SimO K W (tCallR (spOfF K [] sd) W t) (dCall sd d) := fun G F H σ en Q Qd Qe R q x k =>
  h G F H σ en _ _ Qe R q x fun vs ds F1 H1 en1 e1 R1 i1 q1 => ⟨F1, ds, _, _, R1.le, argsR_of R1 i1, q1, fun a r outs F2 H2 p n2 n1 o _ q2 => k a r F2 H2 en1 (e1.trans p.f) (post_rel R1 p) ⟨n2, o, R1.free0 n1, fun i b e k1 k2 => by
      obtain ⟨a', m1, _, m3, _⟩ := R1.ow i b e k1
      rw [k2] at m1
      cases m1
      exact m3.there n1⟩ q2, fun y outs cls d F2 H2 p i2 _ q2 => x y F2 H2 σ en1 cls d (post_rel R1 p) i2 q2⟩
theorem sim_callIOF {i : Nat} {sd : SpD} {t : TA} {d : TDA} (h : SimA K W t d) : SimO K W (tCallR (spOfF K [0] sd) W (tCons (tVar i) t)) (dCallIO i sd d) := fun G F H σ en Q Qd Qe R q x k => by
  obtain ⟨q0, q⟩ := q
  obtain ⟨⟨b0, d0⟩, e0⟩ := Option.isSome_iff_exists.mp q0
  obtain ⟨a, h1, _⟩ := R.ow i b0 d0 (ownAt_eq e0)
  refine ⟨_, h1, h G F H σ en _ _ Qe R q x fun vs ds F1 H1 en1 e1 R1 i1 q1 => ?_⟩
  split at q1
  · rename_i b d1 e2
    have e2 := ownAt_eq e2
    obtain ⟨a', h1', h2, h3, _⟩ := R1.ow i b d1 e2
    rw [h1] at h1'
    cases h1'
    have io : ioOf (V.ref a :: vs) [0] = [(0, a)] := by simp [ioOf]
    refine ⟨F1, d1 :: ds, _, _, R1.le, ⟨by simp [i1.length], fun j e hj hn => ?_, fun j e hj hn => ?_, fun j l a m1 m2 _ _ => by simp at m1 m2; rw [m1, m2]⟩, q1, fun c r outs F2 H2 p n2 n1 o os q2 => ?_, fun y outs cls d F2 H2 p i2 os q2 => ?_⟩
    · cases j with
      | zero => exact absurd (by simp) hn
      | succ j => exact i1.get (by simpa using hj)
    · have : j = 0 := by simpa using hn
      subst this
      cases hj
      exact ⟨a, rfl, h2, h3⟩
    · rw [io] at p os
      cases os with
      | cons o' os =>
        cases os
        refine k c r F2 H2 _ (e1.trans p.f) (post_io R1 e2 h1 p o') ⟨n2, o, R1.free0 n1, fun j b' e k1 k2 => ?_⟩ q2
        by_cases z : j = i
        · subst z
          rw [h1] at k2
          cases k2
          exact h3.there n1
        · rw [List.getElem?_set_ne (fun q => z q.symm)] at k1
          obtain ⟨a', m1, _, m3, _⟩ := R1.ow j b' e k1
          rw [k2] at m1
          cases m1
          exact m3.there n1
    · rw [io] at p os
      cases os with
      | cons o os =>
        cases os
        exact x y F2 H2 σ _ cls d (post_io R1 e2 h1 p o) i2 q2
  · exact q1.elim
abbrev FnF (P : Program) (w : World) (K : Fg) (mg : Str → Option Value) (base : Heap) (k : Nat) (f : Addr) (io : List Nat) (sd : SpD) : Prop := FnR P w K mg base (L2N.CX P w) k f (spOfF ⟨K, w⟩ io sd)
section
variable {k : Nat} {f : Addr} {sd : SpD} {x y : Str} {p p2 pos : Pos} {e : Expr} {es : List Expr} {t : TA} {d : TDA}
theorem do_call (F : FnF X.prog X.w X.K X.mg X.base k f [] sd) (hr : Room k X.A) (tk : Takes X W) (hg : Gl X x) (hm : X.mg x = some (.ref f)) (hk : PySem.W.keepIn X.K (.ref f) = true) (ha : DA X W (e :: es) t d) (hd : (x == ("__debug__" : Str)) = false := by decide)
    (he : starEach (e :: es) X.env = (false, eval e X.env) :: starEach es X.env := by rfl) (hpl : (backTo pos (starEach es X.env)).any (·.1) = false := by rfl) : DO X W (.Call (.Name x p) (e :: es) [] pos) (tCallR (spOfF (kk X) [] sd) W t) (dCall sd d) := ⟨pe_callR F hr tk hg hm hk ha.pa hd he hpl, sim_callF ha.sim⟩
theorem do_call0 (F : FnF X.prog X.w X.K X.mg X.base k f [] sd) (hr : Room k X.A) (tk : Takes X W) (hg : Gl X x) (hm : X.mg x = some (.ref f)) (hk : PySem.W.keepIn X.K (.ref f) = true) (hd : (x == ("__debug__" : Str)) = false := by decide) :
    DO X W (.Call (.Name x p) [] [] pos) (tCallR (spOfF (kk X) [] sd) W tNil) (dCall sd dNil) := ⟨pe_callR0 F hr tk hg hm hk hd, sim_callF (fun G F H σ en Q Qd Qe R q x k => k [] [] F H en (Same.refl F) R rfl q)⟩
theorem do_callIO (i : Nat) (F : FnF X.prog X.w X.K X.mg X.base k f [0] sd) (hr : Room k X.A) (tk : Takes X W) (hg : Gl X x) (hm : X.mg x = some (.ref f)) (hk : PySem.W.keepIn X.K (.ref f) = true) (ha : DA X W es t d) (hd : (x == ("__debug__" : Str)) = false := by decide)
    (hN : X.N[i]? = some y := by rfl) (hv : Vis X.env.scope y := by first | exact Or.inl rfl | exact Or.inr (Or.inl rfl) | exact Or.inr (Or.inr rfl)) (hd2 : (y == ("__debug__" : Str)) = false := by decide) (hcd : (y == ("__classdict__" : Str)) = false := by decide)
    (he : starEach (.Name y p2 :: es) X.env = (false, eval (.Name y p2) X.env) :: starEach es X.env := by rfl) (hpl : (backTo pos (starEach es X.env)).any (·.1) = false := by rfl) : DO X W (.Call (.Name x p) (.Name y p2 :: es) [] pos) (tCallR (spOfF (kk X) [0] sd) W (tCons (tVar i) t)) (dCallIO i sd d) :=
  ⟨pe_callR F hr tk hg hm hk (pa_cons (pe_var hN hv hd2 hcd) ha.pa he) hd he hpl, sim_callIOF ha.sim⟩
end

/-! ### attributes -/
def getF : List String → List D → String → Option D
  | n :: ns, d :: ds, f => if n = f then some d else getF ns ds f
  | _, _, _ => none
def putF' : List String → List D → String → D → List String × List D
  | n :: ns, d :: ds, f, x => if n = f then (n :: ns, x :: ds) else ((n :: (putF' ns ds f x).1), d :: (putF' ns ds f x).2)
  | _, _, f, x => ([f], [x])
theorem ofString_inj {a b : String} : Str.ofString a = Str.ofString b ↔ a = b := ⟨fun h => by
  rw [Str.ofString_eq_toList, Str.ofString_eq_toList] at h
  have h2 : a.toList.map Char.toNat = b.toList.map Char.toNat := by simpa using h
  have h3 : a.toList = b.toList := (List.map_inj_right fun x y e => by
    apply Char.ext
    exact UInt32.toNat_inj.mp e).mp h2
  exact String.toList_inj.mp h3, fun h => by rw [h]⟩
end
end DL

/-! The D layer, part 6: built-ins, attributes, instances, own operators. -/
namespace DL
open PySem L2

section
variable {X : Cx} {W : WX} {K : KW}
/-! ### built-ins by data -/
abbrev CD := List D → (D → Prop) → Prop
def SimC (K : KW) (r : List V → Hp → VK → Prop) (cd : CD) : Prop := ∀ G F H σ en ds vs (Q : VK) Qd, Rel K G F H σ en → IsL K F ds vs → cd ds Qd →
  (∀ z dz F' H', Same F F' → Rel K G F' H' σ en → Is K F' dz z → Qd dz → Q z H') → r vs H Q
def dBlt (cd : CD) (a : TDA) : TDE := fun en Q Qe => a en (fun ds en1 => cd ds fun z => Q z en1) Qe
theorem sim_blt {r : List V → Hp → VK → Prop} {cd : CD} {t : TA} {d : TDA} (hs : SimC K r cd) (h : SimA K W t d) : Sim K W (tCB r t) (dBlt cd d) := fun G F H σ en Q Qd Qe R q x k =>
  h G F H σ en _ _ Qe R q x fun vs ds F1 H1 en1 e1 R1 i1 q1 => hs G F1 H1 σ en1 ds vs Q _ R1 i1 q1 fun z dz F2 H2 e2 R2 i2 q2 => k z dz F2 H2 en1 (e1.trans e2) R2 i2 q2
section
variable {id T : String} {r : List V → Hp → VK → Prop} {cd : CD} {x : Str} {p pos : Pos} {e : Expr} {es : List Expr} {t : TA} {d : TDA}
theorem de_blt (hc : CallR X (.builtin id) r) (hs : SimC (kk X) r cd) (hg : Gl X x) (hm : X.mg x = none) (hv : bootBuiltins x = some (.builtin id)) (ha : DA X W (e :: es) t d) (hn : x ≠ "__name__" := by decide) (hdb : (x == ("__debug__" : Str)) = false := by decide)
    (he : starEach (e :: es) X.env = (false, eval e X.env) :: starEach es X.env := by rfl) (hpl : (backTo pos (starEach es X.env)).any (·.1) = false := by rfl) : DE X W (.Call (.Name x p) (e :: es) [] pos) (tCB r t) (dBlt cd d) := ⟨pe_callB hc hg hm hv ha.pa hn hdb he hpl, sim_blt hs ha.sim⟩
theorem de_bty (hc : CallR X (.type T) r) (hs : SimC (kk X) r cd) (hg : Gl X x) (hm : X.mg x = none) (hv : bootBuiltins x = some (.type T)) (ha : DA X W (e :: es) t d) (hn : x ≠ "__name__" := by decide) (hdb : (x == ("__debug__" : Str)) = false := by decide)
    (he : starEach (e :: es) X.env = (false, eval e X.env) :: starEach es X.env := by rfl) (hpl : (backTo pos (starEach es X.env)).any (·.1) = false := by rfl) : DE X W (.Call (.Name x p) (e :: es) [] pos) (tCB r t) (dBlt cd d) := ⟨pe_callTy hc hg hm hv ha.pa hn hdb he hpl, sim_blt hs ha.sim⟩
end
/-- len -/
def lenD1 : D → Option Nat
  | .str s => if s.length ≤ sizeLine then some s.length else none
  | .lst ds => some ds.length
  | .lck ds => some ds.length
  | .tup ds => some ds.length
  | .dct ds _ => some ds.length
  | _ => none
def lenD : CD := fun ds Q => match ds with
  | [d] => ∃ n, lenD1 d = some n ∧ Q (.int n)
  | _ => False
def LenX (K : KW) (v : V) (H : Hp) (n : Nat) : Prop := LenV K v H n ∨ ∃ a ks kvs us, v = .ref a ∧ DAt K.w H a ks kvs us ∧ n = ks.length ∧ ks.length ≤ sizeLine
abbrev rLenV (K : KW) : List V → Hp → VK → Prop := fun xs H Q => ∃ x n, xs = [x] ∧ LenX K x H n ∧ Q (.int n) H
theorem call_lenX {X : Cx} : CallR X (.builtin "len") (rLenV (kk X)) := by
  intro pins s σ H xs us Q I r h
  obtain ⟨x, n, rfl, h | ⟨a, ks, kvs, vs, rfl, hd, rfl, hz⟩, q⟩ := h
  · exact call_len pins s σ H _ us Q I r ⟨x, n, rfl, h, q⟩
  · cases r with
    | cons r rr =>
      cases rr
      cases r
      obtain ⟨es, ep, hr, en⟩ := hd.raw I
      have hl : es.size = ks.length := by
        have := (ents_len en).1
        rw [Array.length_toList] at this
        exact this
      rw [sizeLine_eq] at hz
      refine PyProof.Rows.call_len_slot (n := ks.length) hr.typeIs PySem.F.slot_dict_len (fun Q' hq => call_len_raw hd.1 hr ?_) (by omega) (by omega) ⟨.int ks.length, H, I.tok _, ⟨_, rfl⟩, q⟩
      rw [hl]
      exact hq
theorem lenV_of {F H : Hp} (e : Same F H) : ∀ {d : D} {v : V} {n : Nat}, Is K F d v → lenD1 d = some n → LenX K v H n
  | .str s, _, _, h, t => by
    cases h
    by_cases hs : s.length ≤ sizeLine
    · have t' : (if s.length ≤ sizeLine then some s.length else none) = some _ := t
      rw [if_pos hs] at t'
      cases t'
      exact .inl ⟨hs, rfl⟩
    · have t' : (if s.length ≤ sizeLine then some s.length else none) = some _ := t
      rw [if_neg hs] at t'
      cases t'
  | .lst ds, _, _, ⟨a, vs, q, s, l⟩, t => by subst q; cases t; exact .inl <| .inl ⟨vs, SqL.of (e _ _ s), l.length.symm⟩
  | .lck ds, _, _, ⟨a, vs, q, s, l⟩, t => by subst q; cases t; exact .inl <| .inl ⟨vs, SqL.same e s, l.length.symm⟩
  | .tup ds, _, _, ⟨a, vs, q, s, l⟩, t => by subst q; cases t; exact .inl <| .inr ⟨vs, SqT.same e s, l.length.symm⟩
  | .non, _, _, _, t => nomatch t
  | .bl _, _, _, _, t => nomatch t
  | .int _, _, _, _, t => nomatch t
  | .dct ds es, _, _, h, t => by
    cases t
    obtain ⟨a, ks, kvs, us, rfl, hh⟩ := dhas_fz e h
    exact .inr ⟨a, ks, kvs, us, rfl, hh.at_, (nkL_len hh.hk).symm, hh.hz⟩
  | .obj _ _ _, _, _, _, t => nomatch t
theorem sim_len : SimC K (rLenV K) lenD := by
  intro G F H σ en ds vs Q Qd R i q k
  unfold lenD at q
  split at q
  · obtain ⟨n, h1, h2⟩ := q
    obtain ⟨v, r, rfl, iv, ir⟩ := i
    cases ir
    exact ⟨v, n, rfl, lenV_of R.le iv h1, k _ _ F H (Same.refl F) R iI h2⟩
  · exact q.elim
/-- len of a name's list, not frozen -/
def dLenV (i : Nat) : TDE := fun en Q _ => match peek en i with
  | some d => ∃ n, lenD1 d = some n ∧ Q (.int n) en
  | none => False
theorem de_lenV {i : Nat} {x y : Str} {p p2 pos : Pos} (hx : x = "len") (hg : Gl X x) (hm : X.mg x = none) (hN : X.N[i]? = some y := by rfl) (hv : Vis X.env.scope y := by first | exact Or.inl rfl | exact Or.inr (Or.inl rfl) | exact Or.inr (Or.inr rfl))
    (hd2 : (y == ("__debug__" : Str)) = false := by decide) (hcd : (y == ("__classdict__" : Str)) = false := by decide) (he : starEach [.Name y p2] X.env = (false, eval (.Name y p2) X.env) :: starEach [] X.env := by rfl) :
    DE X W (.Call (.Name x p) [.Name y p2] [] pos) (tCB (rLenV (kk X)) (tCons (tVar i) tNil)) (dLenV i) :=
  ⟨by
    subst hx
    exact pe_callB call_lenX hg hm PySem.boot_len (pa_cons (pe_var hN hv hd2 hcd) pa_nil he) (by decide) (by decide) he rfl, fun G F H σ en Q Qd Qe R q x k => by
    unfold dLenV at q
    split at q
    · rename_i d e
      obtain ⟨n, h1, h2⟩ := q
      obtain ⟨v, k1, k2⟩ := peek_own R e
      refine ⟨v, k1, v, n, rfl, ?_, k _ _ F H en (Same.refl F) R iI h2⟩
      rcases k2 with k2 | ⟨a, rfl, k2⟩
      · exact lenV_of R.le k2 h1
      · cases d with
        | lst ds =>
          obtain ⟨vs, ha, la⟩ := k2
          cases h1
          exact .inl <| .inl ⟨vs, SqL.of ha, la.length.symm⟩
        | obj C ns ds => cases h1
        | dct ds es =>
          obtain ⟨ks, kvs, us, hh⟩ := dhas_ow k2
          cases h1
          exact .inr ⟨a, ks, kvs, us, rfl, hh.at_, (nkL_len hh.hk).symm, hh.hz⟩
        | _ => exact k2.elim
    · exact q.elim⟩
/-- int, bool, str of an int -/
def intD : CD := fun ds Q => match ds with
  | [.int i] => Q (.int i)
  | [.bl b] => Q (.int (if b then 1 else 0))
  | [.str s] => ∃ n, PySem.intText? s = some n ∧ s.length ≤ 640 ∧ Q (.int n)
  | _ => False
abbrev rIntV : List V → Hp → VK → Prop := fun xs H Q => ((∃ i, xs = [.int i] ∧ Q (.int i) H) ∨ ∃ k, xs = [.bl k] ∧ Q (.int (if k then 1 else 0)) H) ∨ ∃ a n, xs = [.str a] ∧ PySem.intText? a = some n ∧ a.length ≤ 640 ∧ Q (.int n) H
theorem CallR.or {f : Value} {r r' : List V → Hp → VK → Prop} (h : CallR X f r) (h' : CallR X f r') : CallR X f (fun xs H Q => r xs H Q ∨ r' xs H Q) := by
  intro pins s σ H xs us Q I rx q
  rcases q with q | q
  · exact h pins s σ H xs us Q I rx q
  · exact h' pins s σ H xs us Q I rx q
theorem call_intV : CallR X (.type "int") rIntV := call_int1.or call_int_str
theorem sim_int : SimC K rIntV intD := by
  intro G F H σ en ds vs Q Qd R i q k
  unfold intD at q
  split at q
  · obtain ⟨v, r, rfl, iv, ir⟩ := i
    cases ir; cases iv
    exact .inl (.inl ⟨_, rfl, k _ _ F H (Same.refl F) R iI q⟩)
  · obtain ⟨v, r, rfl, iv, ir⟩ := i
    cases ir; cases iv
    exact .inl (.inr ⟨_, rfl, k _ _ F H (Same.refl F) R iI q⟩)
  · obtain ⟨v, r, rfl, iv, ir⟩ := i
    cases ir; cases iv
    obtain ⟨n, h1, h2, h3⟩ := q
    exact .inr ⟨_, n, rfl, h1, h2, k _ _ F H (Same.refl F) R iI h3⟩
  · exact q.elim
def boolD : CD := fun ds Q => match ds with
  | [.int i] => Q (.bl (i != 0))
  | [.bl b] => Q (.bl b)
  | _ => False
abbrev rBoolV : List V → Hp → VK → Prop := fun xs H Q => (∃ i, xs = [.int i] ∧ Q (.bl (i != 0)) H) ∨ ∃ k, xs = [.bl k] ∧ Q (.bl k) H
theorem sim_bool : SimC K rBoolV boolD := by
  intro G F H σ en ds vs Q Qd R i q k
  unfold boolD at q
  split at q
  · obtain ⟨v, r, rfl, iv, ir⟩ := i
    cases ir; cases iv
    exact .inl ⟨_, rfl, k _ _ F H (Same.refl F) R iB q⟩
  · obtain ⟨v, r, rfl, iv, ir⟩ := i
    cases ir; cases iv
    exact .inr ⟨_, rfl, k _ _ F H (Same.refl F) R iB q⟩
  · exact q.elim

/-! ### isinstance -/
/-- a datum's type: a built-in's name, or an own class -/
def tyD : D → Value ⊕ String
  | .non => .inl (.type "NoneType")
  | .bl _ => .inl (.type "bool")
  | .int _ => .inl (.type "int")
  | .str _ => .inl (.type "str")
  | .tup _ => .inl (.type "tuple")
  | .lst _ => .inl (.type "list")
  | .lck _ => .inl (.type "list")
  | .dct _ _ => .inl (.type "dict")
  | .obj C _ _ => .inr C
def tyVal (K : Fg) : Value ⊕ String → Value
  | .inl t => t
  | .inr C => .ref (He.ga K C)
/-- what an own class must have for isinstance of its instances -/
structure IsiC (K : Fg) (C : Addr) : Prop where
  cl : Cls K C
  ha : PySem.W.findIn K (.ref C) "__class__" = some (some (.builtin "object.__class__"))
  hn : PySem.W.specialIn K (.builtin "object.__class__") "__get__" = some (some (.builtin "getset_descriptor.__get__"))
  ht : PySem.W.takesIn K (.builtin "object.__class__") = some true
  hm : PySem.W.mroIn K C (.type "object") = some true
/-- the answers b, of the class c, hold in K -/
def IsiOk (K : Fg) (c : Value) (b : D → Option Bool) : Prop := ∀ d k, b d = some k → PySem.W.kitOne K (tyVal K (tyD d)) c = some k ∧ ∀ C ns vs, d = .obj C ns vs → IsiC K (He.ga K C)
inductive TyY (K : Fg) (H : Hp) : V → Value → Prop where
  | x {v : V} {t : Value} (h : TyX K H v t) : TyY K H v t
  | fD {a : Addr} {o : Obj} {u : HO} (e : H a = some (.frz o u)) (hx : o.ExactDict) : TyY K H (.ref a) (.type "dict")
theorem kit_ofY {X : Cx} {pins : List (Addr × Obj)} {σ : L2.St} {H : Hp} {s : Shared} {x : V} {u t : Value} (I : L2.Inv X pins σ H s) (rx : RelV x u) (ty : TyY X.K H x t) : ∃ P : Heap → Prop, PySem.W.KitX X.K u t P ∧ P s.heap ∧ u ≠ .builtin "__main__.__loader__#opaque" := by
  cases ty with
  | x h => exact kit_of I rx h
  | @fD a o w e hx =>
    cases (show u = Value.ref a from rx)
    exact ⟨_, PySem.W.kitx_dict, ⟨o, (I.hok a _ e).1, hx.1⟩, fun z => nomatch z⟩
def rIsiY (K : Fg) : List V → Hp → VK → Prop := fun xs H Q => ∃ (x c : V) (t u : Value) (b : Bool), xs = [x, c] ∧ ClsV c u ∧ TyY K H x t ∧ PySem.W.kitOne K t u = some b ∧ Q (.bl b) H
theorem call_isiY {X : Cx} : CallR X (.builtin "isinstance") (rIsiY X.K) := by
  intro pins s σ H xs us Q I r h
  obtain ⟨x, c, t, u, b, rfl, k, ty, e, q⟩ := h
  obtain ⟨u1, u2, rfl, r1, r2⟩ := vals2 r
  have e2 := k.eq r2
  subst e2
  obtain ⟨P, Z, p, hx⟩ := kit_ofY I r1 ty
  exact PySem.W.kia_one Z I.kIn p e hx fun tk => ⟨.bl b, H, I.tok tk, rfl, q⟩
theorem tyx_of {F H : Hp} (e : Same F H) {d : D} {v : V} (h : Is K F d v) (hC : ∀ C ns vs, d = .obj C ns vs → IsiC K (He.ga K C)) : TyY K H v (tyVal K (tyD d)) := by
  cases d with
  | non => cases h; exact .x <| .base .non
  | bl b => cases h; exact .x <| .base (.bl b)
  | int b => cases h; exact .x <| .base (.int b)
  | str b => cases h; exact .x <| .base (.str b)
  | tup ds =>
    obtain ⟨a, vs, rfl, s, _⟩ := h
    rcases s with (s | ⟨o, s⟩) | ⟨o, its, n, h1, h2, _⟩
    · exact .x <| .base (.tup (e _ _ s))
    · exact .x <| .fTuple (e _ _ s)
    · exact .x <| .kTuple h1 h2
  | lst ds =>
    obtain ⟨a, vs, rfl, s, _⟩ := h
    exact .x <| .base (.lst (e _ _ s))
  | lck ds =>
    obtain ⟨a, vs, rfl, s, _⟩ := h
    rcases s with (s | ⟨o, s⟩) | ⟨o, its, n, h1, h2, _⟩
    · exact .x <| .base (.lst (e _ _ s))
    · exact .x <| .base (.frz (e _ _ s))
    · exact .x <| .kList h1 h2
  | dct _ _ =>
    obtain ⟨a, o, u, ks, kvs, us, rfl, s, _, ⟨hx, _⟩, _⟩ := h
    exact .fD (e _ _ s) hx
  | obj C ns ds =>
    obtain ⟨a, dx, vs, rfl, s, _⟩ := h
    have c := hC C ns ds rfl
    exact .x <| .base (.ins (e _ _ s) c.cl c.ha c.hn c.ht c.hm)
def dIsi (b : D → Option Bool) (a : TDE) : TDE := fun en Q Qe => a en (fun d en1 => match b d with
  | some k => Q (.bl k) en1
  | none => False) Qe
theorem sim_isi {cv : V} {c : Value} {b : D → Option Bool} {te : TE} {td : TDE} (hc : ClsV cv c) (ok : IsiOk K c b) (h : Sim K W te td) : Sim K W (tCB (rIsiY K) (tCons te (tCons (tC cv) tNil))) (dIsi b td) := fun G F H σ en Q Qd Qe R q x k =>
  h G F H σ en _ _ Qe R q x fun v d F1 H1 en1 e1 R1 i1 q1 => by
    split at q1
    · rename_i kk hk
      obtain ⟨h1, h2⟩ := ok d kk hk
      exact ⟨v, cv, _, c, kk, rfl, hc, tyx_of R1.le i1 h2, h1, k _ _ F1 H1 en1 e1 R1 iB q1⟩
    · exact q1.elim
theorem de_isiT {T : String} {x y : Str} {p p2 pos : Pos} {e : Expr} {b : D → Option Bool} {te : TE} {td : TDE} (hx : x = "isinstance") (ok : IsiOk X.K (.type T) b) (hg : Gl X x) (hm : X.mg x = none) (hgy : Gl X y) (hmy : X.mg y = none) (hv : bootBuiltins y = some (.type T)) (h : DE X W e te td) (hn : y ≠ "__name__" := by decide)
    (hd : (y == ("__debug__" : Str)) = false := by decide) (hs : starEach [e, .Name y p2] X.env = (false, eval e X.env) :: starEach [.Name y p2] X.env := by rfl) (hs2 : starEach [.Name y p2] X.env = (false, eval (.Name y p2) X.env) :: starEach [] X.env := by rfl) (hpl : (backTo pos (starEach [.Name y p2] X.env)).any (·.1) = false := by rfl) :
    DE X W (.Call (.Name x p) [e, .Name y p2] [] pos) (tCB (rIsiY X.K) (tCons te (tCons (tC (.ty T)) tNil))) (dIsi b td) := ⟨by
      subst hx
      exact pe_callB call_isiY hg hm PyProof.Rows.boot_isinstance (pa_cons h.pe (pa_cons (pe_bltn hgy hmy hv (show RelV (.ty T) _ from rfl) hn hd) pa_nil hs2) hs) (by decide) (by decide) hs hpl, sim_isi (.ty T) ok h.sim⟩
theorem pe_cls {C : Addr} {y : Str} {p : Pos} (hg : Gl X y) (hm : X.mg y = some (.ref C)) (hd : (y == ("__debug__" : Str)) = false := by decide) : PE X (.Name y p) (tC (.ref C)) := ⟨fun _ _ _ H _ I h => ld_glob I hg hm ⟨.ref C, H, I, rfl, h⟩ hd⟩
theorem de_isiC {C : Addr} {x y : Str} {p p2 pos : Pos} {e : Expr} {b : D → Option Bool} {te : TE} {td : TDE} (hx : x = "isinstance") (ok : IsiOk X.K (.ref C) b) (hg : Gl X x) (hm : X.mg x = none) (hgy : Gl X y) (hmy : X.mg y = some (.ref C)) (h : DE X W e te td)
    (hd : (y == ("__debug__" : Str)) = false := by decide) (hs : starEach [e, .Name y p2] X.env = (false, eval e X.env) :: starEach [.Name y p2] X.env := by rfl) (hs2 : starEach [.Name y p2] X.env = (false, eval (.Name y p2) X.env) :: starEach [] X.env := by rfl) (hpl : (backTo pos (starEach [.Name y p2] X.env)).any (·.1) = false := by rfl) :
    DE X W (.Call (.Name x p) [e, .Name y p2] [] pos) (tCB (rIsiY X.K) (tCons te (tCons (tC (.ref C)) tNil))) (dIsi b td) := ⟨by
      subst hx
      exact pe_callB call_isiY hg hm PyProof.Rows.boot_isinstance (pa_cons h.pe (pa_cons (pe_cls hgy hmy hd) pa_nil hs2) hs) (by decide) (by decide) hs hpl, sim_isi (.own C) ok h.sim⟩

/-! ### attributes -/
theorem lookup_fields {F : Hp} {f : String} : ∀ {ns : List String} {ds : List D} {vs : List V} {d : D}, IsL K F ds vs → getF ns ds f = some d → ∃ v, (fieldsV ns vs).lookup (Str.ofString f) = some v ∧ Is K F d v
  | [], _, _, _, _, h => by unfold getF at h; cases h
  | n :: ns, [], _, _, _, h => by unfold getF at h; cases h
  | n :: ns, e :: ds, _, d, ⟨v, r, q, i, l⟩, h => by
    subst q
    unfold getF at h
    by_cases hn : n = f
    · rw [if_pos hn] at h
      cases h
      subst hn
      exact ⟨v, by simp [fieldsV, List.lookup], i⟩
    · rw [if_neg hn] at h
      obtain ⟨w, h1, h2⟩ := lookup_fields l h
      refine ⟨w, ?_, h2⟩
      have hne : (Str.ofString f == Str.ofString n) = false := beq_eq_false_iff_ne.mpr fun z => hn (ofString_inj.mp z).symm
      show List.lookup (Str.ofString f) ((Str.ofString n, v) :: fieldsV ns r) = some w
      rw [List.lookup, hne]
      exact h1
/-- an attribute of the instance; cs: the classes whose instances it may be -/
def dFld (cs : List String) (f : String) (e : TDE) : TDE := fun en Q Qe => e en (fun d en1 => match d with
  | .obj C ns vs => C ∈ cs ∧ ∃ x, getF ns vs f = some x ∧ Q x en1
  | _ => False) Qe
def FldOk (K : Fg) (cs : List String) (f : String) : Prop := ∀ C ∈ cs, Cls K (He.ga K C) ∧ NoAttr K (He.ga K C) f
theorem de_fld {cs : List String} {f : String} {e : Expr} {pos : Pos} {te : TE} {td : TDE} (ok : FldOk X.K cs f) (h : DE X W e te td) (hb : attributeBase e f X.env (eval e X.env) = eval e X.env := by rfl) : DE X W (.Attribute e f pos) (tFld X.K te f) (dFld cs f td) :=
  ⟨pe_fld h.pe hb, fun G F H σ en Q Qd Qe R q x k => h.sim G F H σ en _ _ Qe R q x fun v d F1 H1 en1 e1 R1 i1 q1 => by
    cases d with
    | obj C ns ds =>
      obtain ⟨a, dx, vs, rfl, s, n, l⟩ := i1
      obtain ⟨hC, z, h1, h2⟩ := q1
      obtain ⟨w, h3, h4⟩ := lookup_fields l h1
      exact ⟨a, _, dx, _, w, rfl, R1.le _ _ s, (ok C hC).1, (ok C hC).2, h3, k _ _ F1 H1 en1 e1 R1 h4 h2⟩
    | _ => exact q1.elim⟩
/-- x.f of a name's own instance, not frozen -/
def dFldV (i : Nat) (cs : List String) (f : String) : TDE := fun en Q _ => match peek en i with
  | some (.obj C ns vs) => C ∈ cs ∧ ∃ x, getF ns vs f = some x ∧ Q x en
  | _ => False
theorem de_fldV {i : Nat} {cs : List String} {f : String} {y : Str} {p pos : Pos} (ok : FldOk X.K cs f) (hN : X.N[i]? = some y := by rfl) (hv : Vis X.env.scope y := by first | exact Or.inl rfl | exact Or.inr (Or.inl rfl) | exact Or.inr (Or.inr rfl)) (hd2 : (y == ("__debug__" : Str)) = false := by decide)
    (hcd : (y == ("__classdict__" : Str)) = false := by decide) (hb : attributeBase (.Name y p) f X.env (eval (.Name y p) X.env) = eval (.Name y p) X.env := by rfl) : DE X W (.Attribute (.Name y p) f pos) (tFld X.K (tVar i) f) (dFldV i cs f) :=
  ⟨pe_fld (pe_var hN hv hd2 hcd) hb, fun G F H σ en Q Qd Qe R q x k => by
    unfold dFldV at q
    split at q
    · rename_i C ns ds e
      obtain ⟨v, k1, k2⟩ := peek_own R e
      obtain ⟨hC, z, h1, h2⟩ := q
      refine ⟨v, k1, ?_⟩
      rcases k2 with ⟨a, dx, vs, rfl, s, n, l⟩ | ⟨a, rfl, dx, vs, s, n, l⟩
      · obtain ⟨w, h3, h4⟩ := lookup_fields l h1
        exact ⟨a, _, dx, _, w, rfl, R.le _ _ s, (ok C hC).1, (ok C hC).2, h3, k _ _ F H en (Same.refl F) R h4 h2⟩
      · obtain ⟨w, h3, h4⟩ := lookup_fields l h1
        exact ⟨a, _, dx, _, w, rfl, s, (ok C hC).1, (ok C hC).2, h3, k _ _ F H en (Same.refl F) R h4 h2⟩
    · exact q.elim⟩
theorem putF_fields {f : String} {v : V} : ∀ {ns : List String} {ds : List D} {vs : List V} {F : Hp} {d : D}, ns.length = ds.length → IsL K F ds vs → Is K F d v →
    ∃ ws, putF (Str.ofString f) v (fieldsV ns vs) = fieldsV (putF' ns ds f d).1 ws ∧ IsL K F (putF' ns ds f d).2 ws ∧ (putF' ns ds f d).1.length = (putF' ns ds f d).2.length
  | [], [], _, F, d, _, l, i => by
    cases l
    exact ⟨[v], rfl, IsL.single i, rfl⟩
  | n :: ns, e :: ds, _, F, d, hl, ⟨u, r, q, j, l⟩, i => by
    subst q
    unfold putF'
    by_cases hn : n = f
    · rw [if_pos hn]
      subst hn
      refine ⟨v :: r, ?_, ⟨v, r, rfl, i, l⟩, hl⟩
      show (if Str.ofString n = Str.ofString n then (Str.ofString n, v) :: fieldsV ns r else _) = _
      rw [if_pos rfl]
      rfl
    · rw [if_neg hn]
      obtain ⟨ws, h1, h2, h3⟩ := putF_fields (f := f) (v := v) (ns := ns) (by simpa using hl) l i
      refine ⟨u :: ws, ?_, ⟨u, ws, rfl, j, h2⟩, by simpa using h3⟩
      have hne : ¬ Str.ofString n = Str.ofString f := fun z => hn (ofString_inj.mp z)
      show (if Str.ofString n = Str.ofString f then (Str.ofString n, v) :: fieldsV ns r else (Str.ofString n, u) :: putF (Str.ofString f) v (fieldsV ns r)) = _
      rw [if_neg hne, h1]
      rfl
  | [], _ :: _, _, _, _, h, _, _ => by simp at h
  | _ :: _, [], _, _, _, h, _, _ => by simp at h
/-- x.f = e, x a name that holds one's own instance -/
def dFldS (i : Nat) (cs : List String) (f : String) (e : TDE) : TDS := fun B en => e en (fun d en1 => match ownAt en1 i with
  | some (b, .obj C ns vs) => C ∈ cs ∧ ns.length < 1000 ∧ B.nx (en1.set i (some (.ow b (.obj C (putF' ns vs f d).1 (putF' ns vs f d).2))))
  | _ => False) B.ex
theorem ds_fld {i : Nat} {cs : List String} {f : String} {y : Str} {p pos pos' : Pos} {e : Expr} {te : TE} {td : TDE} (ok : FldOk X.K cs f) (h : DE X W e te td) (hN : X.N[i]? = some y := by rfl) (hv : Vis X.env.scope y := by first | exact Or.inl rfl | exact Or.inr (Or.inl rfl) | exact Or.inr (Or.inr rfl))
    (hd2 : (y == ("__debug__" : Str)) = false := by decide) (hcd : (y == ("__classdict__" : Str)) = false := by decide) (hs : swapsWith e (some (.Attribute (.Name y p) f pos')) pos.line X.env = pure false := by rfl) : DS X W (.Assign [.Attribute (.Name y p) f pos'] e pos) (sFld X.K (tVar i) te f) (dFldS i cs f td) :=
  ⟨ps_fld (pe_var hN hv hd2 hcd) h.pe hs, fun G F H σ en D' B R q k => h.sim G F H σ en _ _ _ R q k.ex fun v d F1 H1 en1 e1 R1 i1 q1 => by
    split at q1
    · rename_i b C ns ds eo
      have eo := ownAt_eq eo
      obtain ⟨a, h1, h2, ⟨dx, vs, s, n, l⟩, _⟩ := R1.ow i b _ eo
      obtain ⟨hC, hl, q1⟩ := q1
      obtain ⟨ws, e1, e2, e3⟩ := putF_fields (f := f) n l i1
      refine ⟨_, h1, a, _, dx, _, rfl, s, (ok C hC).1, (ok C hC).2, ?_, ?_⟩
      · unfold fieldsV
        rw [List.length_zip, List.length_map]
        exact Nat.lt_of_le_of_lt (Nat.min_le_left _ _) hl
      · refine k.nx F1 _ σ _ (R1.write (e := .obj C (putF' ns ds f d).1 (putF' ns ds f d).2) eo h1 ⟨dx, ws, ?_, e3, e2⟩) q1
        rw [upd_same]
        exact congrArg (fun z => some (HO.ins _ dx z)) e1
    · exact q1.elim⟩

/-! ### methods, properties, static methods, making -/
theorem none_fields {f : String} : ∀ {ns : List String} {vs : List V}, f ∉ ns → (fieldsV ns vs).lookup (Str.ofString f) = none
  | [], _, _ => rfl
  | n :: ns, [], _ => rfl
  | n :: ns, v :: vs, h => by
    have hne : (Str.ofString f == Str.ofString n) = false := beq_eq_false_iff_ne.mpr fun z => h (by rw [ofString_inj.mp z]; simp)
    show List.lookup (Str.ofString f) ((Str.ofString n, v) :: fieldsV ns vs) = none
    rw [List.lookup, hne]
    exact none_fields fun z => h (List.mem_cons_of_mem _ z)
/-- o.m(e, ..), o a frozen instance of the class C -/
def dMeth (C m : String) (sd : SpD) (o : TDE) (a : TDA) : TDE := fun en Q Qe => o en (fun d en1 => match d with
  | .obj C' ns vs => C' = C ∧ m ∉ ns ∧ a en1 (fun ds en2 => sd (.obj C' ns vs :: ds) (fun r _ => Q r en2) fun x _ => Qe x en2) Qe
  | _ => False) Qe
def tMethR (C : Addr) (m : Str) (sp : Sp) (W : WX) (ta : TE) (t : TA) : TE := fun σ H Q => ta σ H fun x H1 => ∃ a dx fs, x = .ref a ∧ H1 a = some (.ins C dx fs) ∧ fs.lookup m = none ∧ t σ H1 fun vs H2 => sp (x :: vs) H2 Q fun c d H => W c d σ H
section
variable {k : Nat} {f C : Addr} {sp : Sp} {m : Str} {apos pos : Pos} {o e : Expr} {es : List Expr} {ta : TE} {t : TA}
theorem pe_methR {pl : Sem Bool} (he : PE X o ta) (c : Cls X.K C) (hm : Meth X.K C m f) (F : FnR X.prog X.w X.K X.mg X.base (L2N.CX X.prog X.w) k f sp) (hr : Room k X.A) (tk : Takes X W) (ha : PA X (e :: es) t)
    (hst : starEach (e :: es) X.env = (false, eval e X.env) :: starEach es X.env := by rfl) (hpl : (backTo pos (starEach es X.env)).any (·.1) = false := by rfl)
    (ht : eval (.Call (.Attribute o m apos) (e :: es) [] pos) X.env = (do let ov ← eval o X.env; standAt apos.atName; let (f, first) ← holding [ov] (getMethod ov m pl); callWith pos f first (backTo pos (starEach (e :: es) X.env)) (backToKw pos (keywordEach [] X.env))) := by rfl) :
    PE X (.Call (.Attribute o m apos) (e :: es) [] pos) (tMethR C m sp W ta t) :=
  ⟨fun pins s σ H Q I h => PySem.W.methodCall_KW (pl := pl) (thn (he.run pins s σ H _ I h) fun u s1 ⟨x, H1, I1, rx, a, dx, fs, ex, ea, l, q⟩ => by
    subst ex
    obtain rfl : u = Value.ref a := rx
    exact getmeth_ok I1 ea c hm l (PySem.W.callWith_K (first := [.ref a]) (h₀ := X.base) I1.ok.mod.kin hm.kp (thn (ha.run pos pins s1 σ H1 _ I1 q) fun us s2 ⟨vs, H2, I2, r, q2⟩ => ⟨I2.kIn, wpAny_call (run_D (us := .ref a :: us) (vs := .ref a :: vs) F hr tk I2 (.cons rfl r) q2)⟩) hst hpl)) ht⟩
theorem pe_methR0 {pl : Sem Bool} (he : PE X o ta) (c : Cls X.K C) (hm : Meth X.K C m f) (F : FnR X.prog X.w X.K X.mg X.base (L2N.CX X.prog X.w) k f sp) (hr : Room k X.A) (tk : Takes X W)
    (ht : eval (.Call (.Attribute o m apos) [] [] pos) X.env = (do let ov ← eval o X.env; standAt apos.atName; let (f, first) ← holding [ov] (getMethod ov m pl); callWith pos f first (backTo pos (starEach [] X.env)) (backToKw pos (keywordEach [] X.env))) := by rfl) :
    PE X (.Call (.Attribute o m apos) [] [] pos) (tMethR C m sp W ta tNil) :=
  ⟨fun pins s σ H Q I h => PySem.W.methodCall_KW (pl := pl) (thn (he.run pins s σ H _ I h) fun u s1 ⟨x, H1, I1, rx, a, dx, fs, ex, ea, l, q⟩ => by
    subst ex
    obtain rfl : u = Value.ref a := rx
    exact getmeth_ok I1 ea c hm l (PySem.W.callWith_K0 (first := [.ref a]) I1.kIn hm.kp (wpAny_call (run_D (us := [.ref a]) (vs := [.ref a]) F hr tk I1 (.cons rfl .nil) q)))) ht⟩
end
theorem sim_meth {C m : String} {sd : SpD} {te : TE} {td : TDE} {t : TA} {d : TDA} (h : Sim K W te td) (ha : SimA K W t d) : Sim K W (tMethR (He.ga K C) m (spOf K [] sd) W te t) (dMeth C m sd td d) := fun G F H σ en Q Qd Qe R q x k =>
  h G F H σ en _ _ Qe R q x fun v d F1 H1 en1 e1 R1 i1 q1 => by
    cases d with
    | obj C' ns ds =>
      obtain ⟨rfl, hm, q1⟩ := q1
      obtain ⟨a, dx, vs, rfl, s, n, l⟩ := id i1
      refine ⟨a, dx, _, rfl, R1.le _ _ s, none_fields hm, ha G F1 H1 σ en1 _ _ Qe R1 q1 x fun ws es F2 H2 en2 e2 R2 i2 q2 => ?_⟩
      exact sp_run (ds := .obj C' ns ds :: es) (vs := .ref a :: ws) (Qd := fun r => Qd r en2) (Qe := fun x => Qe x en2) R2 ⟨_, _, rfl, Is.mono e2 _ _ i1, i2⟩ q2 (fun v r F3 H3 e3 R3 i3 q3 => k v r F3 H3 en2 ((e1.trans e2).trans e3) R3 i3 q3)
        fun y cls d F3 H3 R3 i3 q3 => x y F3 H3 σ en2 cls d R3 i3 q3
    | _ => exact q1.elim
section
variable {k : Nat} {f : Addr} {C m : String} {sd : SpD} {apos pos : Pos} {o e : Expr} {es : List Expr} {te : TE} {td : TDE} {t : TA} {d : TDA}
theorem de_meth {pl : Sem Bool} (he : DE X W o te td) (c : Cls X.K (He.ga X.K C)) (hm : Meth X.K (He.ga X.K C) m f) (F : FnD X.prog X.w X.K X.mg X.base k f [] sd) (hr : Room k X.A) (tk : Takes X W) (ha : DA X W (e :: es) t d)
    (hst : starEach (e :: es) X.env = (false, eval e X.env) :: starEach es X.env := by rfl) (hpl : (backTo pos (starEach es X.env)).any (·.1) = false := by rfl)
    (ht : eval (.Call (.Attribute o m apos) (e :: es) [] pos) X.env = (do let ov ← eval o X.env; standAt apos.atName; let (f, first) ← holding [ov] (getMethod ov m pl); callWith pos f first (backTo pos (starEach (e :: es) X.env)) (backToKw pos (keywordEach [] X.env))) := by rfl) :
    DE X W (.Call (.Attribute o m apos) (e :: es) [] pos) (tMethR (He.ga X.K C) m (spOf (kk X) [] sd) W te t) (dMeth C m sd td d) := ⟨pe_methR he.pe c hm F hr tk ha.pa hst hpl ht, sim_meth he.sim ha.sim⟩
theorem de_meth0 {pl : Sem Bool} (he : DE X W o te td) (c : Cls X.K (He.ga X.K C)) (hm : Meth X.K (He.ga X.K C) m f) (F : FnD X.prog X.w X.K X.mg X.base k f [] sd) (hr : Room k X.A) (tk : Takes X W)
    (ht : eval (.Call (.Attribute o m apos) [] [] pos) X.env = (do let ov ← eval o X.env; standAt apos.atName; let (f, first) ← holding [ov] (getMethod ov m pl); callWith pos f first (backTo pos (starEach [] X.env)) (backToKw pos (keywordEach [] X.env))) := by rfl) :
    DE X W (.Call (.Attribute o m apos) [] [] pos) (tMethR (He.ga X.K C) m (spOf (kk X) [] sd) W te tNil) (dMeth C m sd td dNil) := ⟨pe_methR0 he.pe c hm F hr tk ht, sim_meth he.sim fun G F H σ en Q Qd Qe R q x k => k [] [] F H en (Same.refl F) R rfl q⟩
end

/-! ### static methods -/
/-- C.m is a static method: its record at p, its def at g -/
structure Stat (K : Fg) (C : Addr) (mc : Value) (m : Str) (p g : Addr) : Prop where
  cr : ClX.CRead K C mc
  at_ : PySem.W.findCls K (.ref C) mc m = some (.get (.builtin "staticmethod.__get__") (.ref p) .none (.ref C))
  rc : ∃ rest, PySem.W.recIn K p "staticmethod" = some (.ref g :: rest)
  kp : PySem.W.keepIn K (.ref g) = true
section
variable {k : Nat} {g C p0 : Addr} {mc : Value} {sp : Sp} {m y : Str} {p apos pos : Pos} {e : Expr} {es : List Expr} {t : TA}
theorem getstat_ok {pins : List (Addr × Obj)} {σ : L2.St} {H : Hp} {s : Shared} {A : Around} {E : Value → Shared → Prop} {pl : Sem Bool} {Q : Value × List Value → Shared → Prop} (I : L2.Inv X pins σ H s) (c : Stat X.K C mc m p0 g) (h : ∀ s', L2.Inv X pins σ H s' → Q (.ref g, []) s') :
    wpAny (model X.prog X.w) A (getMethod (.ref C) m pl) Q E s := by
  obtain ⟨rest, hp⟩ := c.rc
  refine PySem.W.method_cls I.kIn c.cr.ga (PySem.W.cls_bind I.kIn c.cr.rd c.at_ (wpAny_call (PySem.W.sm_get (s := { s with toks := s.toks + 1 }) I.kIn hp (PySem.W.handed_on rfl ?_))))
  exact h _ (I.tok _)
theorem pe_statR {pl : Sem Bool} (hg : Gl X y) (hy : X.mg y = some (.ref C)) (c : Stat X.K C mc m p0 g) (F : FnR X.prog X.w X.K X.mg X.base (L2N.CX X.prog X.w) k g sp) (hr : Room k X.A) (tk : Takes X W) (ha : PA X (e :: es) t) (hd : (y == ("__debug__" : Str)) = false := by decide)
    (hst : starEach (e :: es) X.env = (false, eval e X.env) :: starEach es X.env := by rfl) (hpl : (backTo pos (starEach es X.env)).any (·.1) = false := by rfl)
    (ht : eval (.Call (.Attribute (.Name y p) m apos) (e :: es) [] pos) X.env = (do let ov ← eval (.Name y p) X.env; standAt apos.atName; let (f, first) ← holding [ov] (getMethod ov m pl); callWith pos f first (backTo pos (starEach (e :: es) X.env)) (backToKw pos (keywordEach [] X.env))) := by rfl) :
    PE X (.Call (.Attribute (.Name y p) m apos) (e :: es) [] pos) (tCallR sp W t) :=
  ⟨fun pins s σ H Q I h => PySem.W.methodCall_KW (pl := pl) (thn ((pe_cls hg hy hd).run pins s σ H (fun x H1 => x = V.ref C ∧ t σ H1 fun vs H2 => sp vs H2 Q fun c d H => W c d σ H) I ⟨rfl, h⟩) fun u s1 ⟨x, H1, I1, rx, ex, q⟩ => by
    subst ex
    obtain rfl : u = Value.ref C := rx
    exact getstat_ok I1 c fun s2 I2 => PySem.W.callWith_K (first := []) (h₀ := X.base) I2.ok.mod.kin c.kp (thn (ha.run pos pins s2 σ H1 _ I2 q) fun us s3 ⟨vs, H2, I3, r, q2⟩ => ⟨I3.kIn, wpAny_call (run_D (us := us) F hr tk I3 r q2)⟩) hst hpl) ht⟩
theorem pe_statR0 {pl : Sem Bool} (hg : Gl X y) (hy : X.mg y = some (.ref C)) (c : Stat X.K C mc m p0 g) (F : FnR X.prog X.w X.K X.mg X.base (L2N.CX X.prog X.w) k g sp) (hr : Room k X.A) (tk : Takes X W) (hd : (y == ("__debug__" : Str)) = false := by decide)
    (ht : eval (.Call (.Attribute (.Name y p) m apos) [] [] pos) X.env = (do let ov ← eval (.Name y p) X.env; standAt apos.atName; let (f, first) ← holding [ov] (getMethod ov m pl); callWith pos f first (backTo pos (starEach [] X.env)) (backToKw pos (keywordEach [] X.env))) := by rfl) :
    PE X (.Call (.Attribute (.Name y p) m apos) [] [] pos) (tCallR sp W tNil) :=
  ⟨fun pins s σ H Q I h => PySem.W.methodCall_KW (pl := pl) (thn ((pe_cls hg hy hd).run pins s σ H (fun x H1 => x = V.ref C ∧ sp [] H1 Q fun c d H => W c d σ H) I ⟨rfl, h⟩) fun u s1 ⟨x, H1, I1, rx, ex, q⟩ => by
    subst ex
    obtain rfl : u = Value.ref C := rx
    exact getstat_ok I1 c fun s2 I2 => PySem.W.callWith_K0 (first := []) I2.kIn c.kp (wpAny_call (run_D (us := []) F hr tk I2 .nil q))) ht⟩
theorem de_stat {sd : SpD} {d : TDA} {pl : Sem Bool} (hg : Gl X y) (hy : X.mg y = some (.ref C)) (c : Stat X.K C mc m p0 g) (F : FnD X.prog X.w X.K X.mg X.base k g [] sd) (hr : Room k X.A) (tk : Takes X W) (ha : DA X W (e :: es) t d) (hd : (y == ("__debug__" : Str)) = false := by decide)
    (hst : starEach (e :: es) X.env = (false, eval e X.env) :: starEach es X.env := by rfl) (hpl : (backTo pos (starEach es X.env)).any (·.1) = false := by rfl)
    (ht : eval (.Call (.Attribute (.Name y p) m apos) (e :: es) [] pos) X.env = (do let ov ← eval (.Name y p) X.env; standAt apos.atName; let (f, first) ← holding [ov] (getMethod ov m pl); callWith pos f first (backTo pos (starEach (e :: es) X.env)) (backToKw pos (keywordEach [] X.env))) := by rfl) :
    DE X W (.Call (.Attribute (.Name y p) m apos) (e :: es) [] pos) (tCallR (spOf (kk X) [] sd) W t) (dCall sd d) := ⟨pe_statR hg hy c F hr tk ha.pa hd hst hpl ht, sim_call ha.sim⟩
theorem de_stat0 {sd : SpD} {pl : Sem Bool} (hg : Gl X y) (hy : X.mg y = some (.ref C)) (c : Stat X.K C mc m p0 g) (F : FnD X.prog X.w X.K X.mg X.base k g [] sd) (hr : Room k X.A) (tk : Takes X W) (hd : (y == ("__debug__" : Str)) = false := by decide)
    (ht : eval (.Call (.Attribute (.Name y p) m apos) [] [] pos) X.env = (do let ov ← eval (.Name y p) X.env; standAt apos.atName; let (f, first) ← holding [ov] (getMethod ov m pl); callWith pos f first (backTo pos (starEach [] X.env)) (backToKw pos (keywordEach [] X.env))) := by rfl) :
    DE X W (.Call (.Attribute (.Name y p) m apos) [] [] pos) (tCallR (spOf (kk X) [] sd) W tNil) (dCall sd dNil) := ⟨pe_statR0 hg hy c F hr tk hd ht, sim_call fun G F H σ en Q Qd Qe R q x k => k [] [] F H en (Same.refl F) R rfl q⟩
end

/-! ### a new instance -/
def tMakeW (C : Addr) (sp : Sp) (W : WX) (t : TA) : TE := fun σ H Q => t σ H fun vs H1 => ∀ x dx, H1 x = Option.none → H1 dx = Option.none → dx ≠ x →
  sp (V.ref x :: vs) (upd (upd H1 dx (.own x)) x (.ins C dx [])) (fun v H2 => v = .non ∧ Q (.ref x) H2) fun c d H => W c d σ H
section
variable {k : Nat} {f C : Addr} {sp : Sp} {x : Str} {p pos : Pos} {e : Expr} {es : List Expr} {t : TA}
theorem run_makeW {pins : List (Addr × Obj)} {σ : L2.St} {H : Hp} {s : Shared} {Q : VK} {us : List Value} {vs : List V} (M : Mk X.K C f) (F : FnR X.prog X.w X.K X.mg X.base (L2N.CX X.prog X.w) k f sp) (hr : Room (k + 1) X.A) (tk : Takes X W) (I : L2.Inv X pins σ H s) (r : Vals vs us)
    (h : ∀ x dx, H x = Option.none → H dx = Option.none → dx ≠ x → sp (V.ref x :: vs) (upd (upd H dx (.own x)) x (.ins C dx [])) (fun v H2 => v = .non ∧ Q (.ref x) H2) fun c d H => W c d σ H) :
    wpAny (model X.prog X.w) X.A (call (.ref C) us) (EP X pins σ Q) X.xe s := by
  have hq := h (s.heap.objs.size + 1) s.heap.objs.size (I.hok.fresh (Nat.le_succ _)) (I.hok.fresh (Nat.le_refl _)) (Nat.ne_of_lt (Nat.lt_succ_self _))
  have I2 := Inv.made (C := C) I
  have r2 : Vals (V.ref (s.heap.objs.size + 1) :: vs) (Value.ref (s.heap.objs.size + 1) :: us) := .cons rfl r
  refine wpAny_call (make_map (f := f) I.kIn M.makes M.init (beq_iff_eq.mp M.fn) (codeAny_mono (F _ X.stack _ _ (Value.ref (s.heap.objs.size + 1) :: us) _ _ _ (hr.make C us []) (I2.env0.make C us []) r2 hq) fun r s' hq' => ?_))
  cases r with
  | error e => exact passAt tk σ pins _ _ e s' I2 hq'
  | ok fl =>
    cases fl with
    | ret u =>
      obtain ⟨v, H', I3, rv, ev, q3⟩ := I2.after hq'
      subst ev
      exact ⟨rv, ⟨V.ref (s.heap.objs.size + 1), H', I3, rfl, q3⟩⟩
    | next => exact False.elim hq'
    | brk => exact False.elim hq'
    | cont => exact False.elim hq'
theorem pe_makeW (M : Mk X.K C f) (F : FnR X.prog X.w X.K X.mg X.base (L2N.CX X.prog X.w) k f sp) (hr : Room (k + 1) X.A) (tk : Takes X W) (hg : Gl X x) (hm : X.mg x = some (.ref C)) (ha : PA X (e :: es) t) (hdb : (x == ("__debug__" : Str)) = false := by decide)
    (he : starEach (e :: es) X.env = (false, eval e X.env) :: starEach es X.env := by rfl) (hpl : (backTo pos (starEach es X.env)).any (·.1) = false := by rfl) : PE X (.Call (.Name x p) (e :: es) [] pos) (tMakeW C sp W t) :=
  ⟨fun pins s σ H Q I h => wpAny_Call_Name_kw (ld_glob I hg hm (PySem.W.callWith_K (h₀ := X.base) I.ok.mod.kin M.kp (thn (ha.run pos pins s σ H _ I h) fun us s1 ⟨vs, H1, I1, r, q⟩ => ⟨I1.kIn, run_makeW M F hr tk I1 r q⟩) he hpl) hdb)⟩
theorem pe_makeW0 (M : Mk X.K C f) (F : FnR X.prog X.w X.K X.mg X.base (L2N.CX X.prog X.w) k f sp) (hr : Room (k + 1) X.A) (tk : Takes X W) (hg : Gl X x) (hm : X.mg x = some (.ref C)) (hdb : (x == ("__debug__" : Str)) = false := by decide) : PE X (.Call (.Name x p) [] [] pos) (tMakeW C sp W tNil) :=
  ⟨fun pins s σ H Q I h => wpAny_Call_Name_kw (ld_glob I hg hm (PySem.W.callWith_K0 I.kIn M.kp (run_makeW (us := []) M F hr tk I .nil h)) hdb)⟩
end
/-- C(e, ..): __init__ gets a bare instance to fill -/
def dMake (C : String) (sd : SpD) (a : TDA) : TDE := fun en Q Qe => a en (fun ds en1 => sd (.obj C [] [] :: ds) (fun r outs => r = .non ∧ match outs with
  | [d] => Q d en1
  | _ => False) fun x _ => Qe x en1) Qe
theorem sim_make {C : String} {sd : SpD} {t : TA} {d : TDA} (h : SimA K W t d) : SimO K W (tMakeW (He.ga K C) (spOf K [0] sd) W t) (dMake C sd d) := fun G F H σ en Q Qd Qe R q x k =>
  h G F H σ en _ _ Qe R q x fun vs ds F1 H1 en1 e1 R1 i1 q1 a dx ha hdx ne => by
    have hs : Same H1 (upd (upd H1 dx (.own a)) a (.ins (He.ga K C) dx [])) := fun b o e => by
      rw [upd_ne (ne_of_none e ha), upd_ne (ne_of_none e hdx)]
      exact e
    have R2 := R1.grow hs
    have io : ioOf (V.ref a :: vs) [0] = [(0, a)] := by simp [ioOf]
    have na : F1 a = none := R1.free ha
    have ns : ∀ (i : Nat) b e, en1[i]? = some (some (Ent.ow b e)) → σ[i]? ≠ some (some (V.ref a)) := fun i b e h1 h2 => by
      obtain ⟨a', k1, _, k3, _⟩ := R1.ow i b e h1
      rw [h2] at k1
      cases k1
      exact k3.there ha
    -- the state behind __init__
    have after : ∀ F2 H2, Post F1 (upd (upd H1 dx (.own a)) a (.ins (He.ga K C) dx [])) F2 H2 [a] → Rel K G F2 H2 σ en1 := fun F2 H2 p => by
      refine R2.step (fun z => z = a) p.f p.le (fun c k1 k2 => .inl ?_) (fun c u q m => p.keep c u q (by simpa using m)) (fun c z => by subst z; exact ⟨(R1.free0 ha).1, p.there c (by simp)⟩) rfl (fun i d e => .inl e) fun j b e k1 => ?_
      · cases q : upd (upd H1 dx (.own a)) a (.ins (He.ga K C) dx []) c with
        | none => rfl
        | some o => exact absurd (p.new c k1 (by rw [q]; simp)) k2
      · obtain ⟨a2, q1, q2, q3, _⟩ := R2.ow j b e k1
        have ne2 : a2 ≠ a := fun z => by
          subst z
          exact ns j b e k1 q1
        refine ⟨a2, e, q1, k1, q3.move p.f ?_⟩
        cases w : upd (upd H1 dx (.own a)) a (.ins (He.ga K C) dx []) a2 with
        | none => exact absurd w q3.there
        | some u => exact p.keep a2 u w (by simpa using ne2)
    refine ⟨F1, .obj C [] [] :: ds, _, _, R2.le, ⟨by simp [i1.length], fun j e hj hn => ?_, fun j e hj hn => ?_, fun j l a m1 m2 _ _ => by simp at m1 m2; rw [m1, m2]⟩, q1, fun v r outs F2 H2 p i2 os q2 => ?_, fun y outs cls d F2 H2 p i2 os q2 => ?_⟩
    · cases j with
      | zero => exact absurd (by simp) hn
      | succ j => exact i1.get (by simpa using hj)
    · have : j = 0 := by simpa using hn
      subst this
      cases hj
      exact ⟨a, rfl, na, dx, [], upd_same, rfl, rfl⟩
    · rw [io] at p os
      obtain ⟨er, q2⟩ := q2
      subst er
      cases os with
      | cons o os =>
        cases os
        have i2 : v = .non := i2
        exact ⟨i2, k a _ F2 H2 en1 (e1.trans p.f) (after F2 H2 p) ⟨p.new a na (by rw [upd_same]; simp), o, R1.free0 ha, ns⟩ q2⟩
    · rw [io] at p os
      cases os with
      | cons o os =>
        cases os
        exact x y F2 H2 σ en1 cls d (after F2 H2 p) i2 q2
section
variable {k : Nat} {f : Addr} {C : String} {sd : SpD} {x : Str} {p pos : Pos} {e : Expr} {es : List Expr} {t : TA} {d : TDA}
theorem do_make (M : Mk X.K (He.ga X.K C) f) (F : FnD X.prog X.w X.K X.mg X.base k f [0] sd) (hr : Room (k + 1) X.A) (tk : Takes X W) (hg : Gl X x) (hm : X.mg x = some (.ref (He.ga X.K C))) (ha : DA X W (e :: es) t d) (hdb : (x == ("__debug__" : Str)) = false := by decide)
    (he : starEach (e :: es) X.env = (false, eval e X.env) :: starEach es X.env := by rfl) (hpl : (backTo pos (starEach es X.env)).any (·.1) = false := by rfl) : DO X W (.Call (.Name x p) (e :: es) [] pos) (tMakeW (He.ga X.K C) (spOf (kk X) [0] sd) W t) (dMake C sd d) := ⟨pe_makeW M F hr tk hg hm ha.pa hdb he hpl, sim_make ha.sim⟩
theorem do_make0 (M : Mk X.K (He.ga X.K C) f) (F : FnD X.prog X.w X.K X.mg X.base k f [0] sd) (hr : Room (k + 1) X.A) (tk : Takes X W) (hg : Gl X x) (hm : X.mg x = some (.ref (He.ga X.K C))) (hdb : (x == ("__debug__" : Str)) = false := by decide) :
    DO X W (.Call (.Name x p) [] [] pos) (tMakeW (He.ga X.K C) (spOf (kk X) [0] sd) W tNil) (dMake C sd dNil) := ⟨pe_makeW0 M F hr tk hg hm hdb, sim_make fun G F H σ en Q Qd Qe R q x k => k [] [] F H en (Same.refl F) R rfl q⟩
end

/-! ### properties -/
def tPropR (C : Addr) (sp : Sp) (ta : TE) : TE := fun σ H Q => ta σ H fun x H1 => ∃ a dx fs, x = .ref a ∧ H1 a = some (.ins C dx fs) ∧ sp [.ref a] H1 Q fun _ _ _ => False
def dProp (C : String) (sd : SpD) (o : TDE) : TDE := fun en Q Qe => o en (fun d en1 => match d with
  | .obj C' ns vs => C' = C ∧ sd [.obj C' ns vs] (fun r _ => Q r en1) fun _ _ => False
  | _ => False) Qe
theorem getprop_R {k : Nat} {C p g a dx : Addr} {fs : List (Str × V)} {f : Str} {sp : Sp} {pins : List (Addr × Obj)} {σ : L2.St} {H : Hp} {s : Shared} {Q : VK} {b : Bool} {E' : Value → Shared → Prop} (I : L2.Inv X pins σ H s) (ea : H a = some (.ins C dx fs)) (c : Cls X.K C) (hp : PropOf X.K C f p g)
    (F : FnR X.prog X.w X.K X.mg X.base (L2N.CX X.prog X.w) k g sp) (hr : Room (k + 1) X.A) (h : sp [.ref a] H Q fun _ _ _ => False) : wpAny (model X.prog X.w) X.A (getAttr (.ref a) f b) (EP X pins σ Q) E' s := by
  obtain ⟨mA, O, _, _, _, _⟩ := ins_get I.hok ea
  obtain ⟨od, J, _⟩ := O.look
  obtain ⟨rest, hrec⟩ := hp.rec_
  have I1 := I.tok (s.toks + 1)
  have hc : (PySem.W.clsIn X.K C).isSome = true := by
    obtain ⟨cd, hc, _⟩ := PySem.W.any_some c.hd
    rw [hc]
    rfl
  refine PySem.W.get_bind I.kIn J (PySem.W.plainGet_of (c.get f)).1 (PySem.W.findObj_data hc hp.at_ hp.get hp.tak) (PySem.W.plainGet_of (c.get f)).2 (wpAny_call (PySem.W.prop_get (s := { s with toks := s.toks + 1 }) I.kIn hrec ?_))
  refine codeAny_mono (F X.A.in1 X.stack { s with toks := s.toks + 1 } H [.ref a] [.ref a] Q _ hr.in1 I1.env0.in1 (.cons rfl .nil) h) fun r s' hq => ?_
  cases r with
  | error er =>
    obtain ⟨_, _, _, _, _, _, _, _, _, _, _, _, z⟩ := hq
    exact z.elim
  | ok fl =>
    cases fl with
    | ret u =>
      obtain ⟨v, H', I3, rv, q3⟩ := I1.after hq
      show wpAny _ _ (handedOut u) _ _ _
      rw [PySem.W.handedOut_of (handed_of rv)]
      exact wpAny_pure ⟨v, H', I3, rv, q3⟩
    | next => exact False.elim hq
    | brk => exact False.elim hq
    | cont => exact False.elim hq
theorem de_prop {k : Nat} {C : String} {p g : Addr} {f : Str} {sd : SpD} {e : Expr} {pos : Pos} {te : TE} {td : TDE} (h : DE X W e te td) (c : Cls X.K (He.ga X.K C)) (hp : PropOf X.K (He.ga X.K C) f p g) (F : FnD X.prog X.w X.K X.mg X.base k g [] sd) (hr : Room (k + 1) X.A)
    (hb : attributeBase e f X.env (eval e X.env) = eval e X.env := by rfl) : DE X W (.Attribute e f pos) (tPropR (He.ga X.K C) (spOf (kk X) [] sd) te) (dProp C sd td) :=
  ⟨⟨fun pins s σ H Q I hq => attr_of hb (thn (h.pe.run pins s σ H _ I hq) fun u s1 ⟨x, H1, I1, rx, a, dx, fs, ex, ea, q⟩ => by
    subst ex
    obtain rfl : u = Value.ref a := rx
    exact getprop_R I1 ea c hp F hr q)⟩, fun G F' H σ en Q Qd Qe R q x k => h.sim G F' H σ en _ _ Qe R q x fun v d F1 H1 en1 e1 R1 i1 q1 => by
    cases d with
    | obj C' ns ds =>
      obtain ⟨rfl, q1⟩ := q1
      obtain ⟨a, dx, vs, rfl, s, n, l⟩ := id i1
      exact ⟨a, dx, _, rfl, R1.le _ _ s, sp_run (ds := [.obj C' ns ds]) (Qd := fun r => Qd r en1) (Qe := fun _ => False) R1 (IsL.single i1) q1 (fun v r F3 H3 e3 R3 i3 q3 => k v r F3 H3 en1 (e1.trans e3) R3 i3 q3) fun _ _ _ _ _ _ _ z => z⟩
    | _ => exact q1.elim⟩

/-! ### own operators -/
/-- a call by values, of an instance of C first -/
def rOwn2 (C : Addr) (sp : Sp) (W : WX) (σ : L2.St) : R2 := fun x y H Q => ∃ a dx fs b dy gs, x = .ref a ∧ H a = some (.ins C dx fs) ∧ y = .ref b ∧ H b = some (.ins C dy gs) ∧ sp [x, y] H Q fun c d H => W c d σ H
def tOwn2 (C : Addr) (sp : Sp) (W : WX) (ta tb : TE) : TE := fun σ H Q => ta σ H fun x H1 => tb σ H1 fun y H2 => rOwn2 C sp W σ x y H2 Q
def dOwn2 (C : String) (sd : SpD) (da db : TDE) : TDE := fun en Q Qe => da en (fun x en1 => db en1 (fun y en2 => (∃ ns vs, x = .obj C ns vs) ∧ (∃ ns vs, y = .obj C ns vs) ∧ sd [x, y] (fun r _ => Q r en2) fun x _ => Qe x en2) Qe) Qe
theorem call_own {k : Nat} {f : Addr} {sp : Sp} {pins : List (Addr × Obj)} {σ : L2.St} {H : Hp} {s : Shared} {Q : VK} {us : List Value} {vs : List V} (F : FnR X.prog X.w X.K X.mg X.base (L2N.CX X.prog X.w) k f sp) (hr : Room k X.A) (tk : Takes X W)
    (I : L2.Inv X pins σ H s) (r : Vals vs us) (h : sp vs H Q (fun c d H => W c d σ H)) : wpAny (model X.prog X.w) X.A (call (.ref f) us) (PySem.W.CmpBack (EP X pins σ Q)) X.xe s :=
  thn (wpAny_call (run_D F hr tk I r h)) fun u s' q => by
    obtain ⟨v, H', I', rv, q'⟩ := id q
    cases v with
    | non => cases (show u = Value.none from rv); exact q
    | bl b => cases (show u = Value.bool b from rv); exact q
    | int b => obtain ⟨t, e⟩ := (show ∃ t, u = Value.int b t from rv); cases e; exact q
    | str b => obtain ⟨t, e⟩ := (show ∃ t, u = Value.str b t from rv); cases e; exact q
    | byt b => obtain ⟨t, e⟩ := (show ∃ t, u = Value.bytes b t from rv); cases e; exact q
    | flt b => obtain ⟨t, e⟩ := (show ∃ t, u = Value.float b t from rv); cases e; exact q
    | ref b => cases (show u = Value.ref b from rv); exact q
    | ty b => cases (show u = Value.type b from rv); exact q
/-- what of the text an own operator must have -/
structure BinOk (K : Fg) (C f : Addr) (name : Str) : Prop where
  sf : PySem.W.selfFirst K C = true
  at_ : PySem.W.findIn K (.ref C) name = some (some (.ref f))
  fn : PySem.W.isFn K (.ref f) = true
theorem sim_own2 {C : String} {sd : SpD} {ta tb : TE} {da db : TDE} (ha : Sim K W ta da) (hb : Sim K W tb db) : Sim K W (tOwn2 (He.ga K C) (spOf K [] sd) W ta tb) (dOwn2 C sd da db) := fun G F H σ en Q Qd Qe R q x k =>
  ha G F H σ en _ _ Qe R q x fun v d F1 H1 en1 e1 R1 i1 q1 => hb G F1 H1 σ en1 _ _ Qe R1 q1 x fun u d2 F2 H2 en2 e2 R2 i2 q2 => by
    obtain ⟨⟨ns, ds, rfl⟩, ⟨ms, es, rfl⟩, q2⟩ := q2
    have i1 := Is.mono e2 _ _ i1
    obtain ⟨a, dx, vs, rfl, s, n, l⟩ := id i1
    obtain ⟨b, dy, ws, rfl, s', n', l'⟩ := id i2
    exact ⟨a, dx, _, b, dy, _, rfl, R2.le _ _ s, rfl, R2.le _ _ s', sp_run (ds := [.obj C ns ds, .obj C ms es]) (Qd := fun r => Qd r en2) (Qe := fun x => Qe x en2) R2 ⟨_, _, rfl, i1, IsL.single i2⟩ q2 (fun v r F3 H3 e3 R3 i3 q3 => k v r F3 H3 en2 ((e1.trans e2).trans e3) R3 i3 q3)
      fun y cls d F3 H3 R3 i3 q3 => x y F3 H3 σ en2 cls d R3 i3 q3⟩
theorem de_own2 {k : Nat} {f : Addr} {C : String} {sd : SpD} {op : Operator} {a b : Expr} {pos : Pos} {ta tb : TE} {da db : TDE} (B : BinOk X.K (He.ga X.K C) f (PySem.dunder op.info.2)) (F : FnD X.prog X.w X.K X.mg X.base k f [] sd) (hr : Room k X.A) (tk : Takes X W) (ha : DE X W a ta da) (hb : DE X W b tb db) :
    DE X W (.BinOp a op b pos) (tOwn2 (He.ga X.K C) (spOf (kk X) [] sd) W ta tb) (dOwn2 C sd da db) := ⟨⟨fun pins s σ H Q I h => wpAny_BinOp (binT ha.pe hb.pe I h fun v u s2 x y H2 I2 rx ry q => by
      obtain ⟨a, dx, fs, b, dy, gs, rfl, ea, rfl, eb, q⟩ := q
      obtain rfl : v = Value.ref a := rx
      obtain rfl : u = Value.ref b := ry
      obtain ⟨mA, J, _⟩ := ins_get I2.hok ea
      obtain ⟨mB, J', _⟩ := ins_get I2.hok eb
      obtain ⟨od, J, _⟩ := J.look
      obtain ⟨od', J', _⟩ := J'.look
      obtain ⟨m, hF⟩ := I2.fr
      exact PySem.W.binop_K hF I2.ok.mod.kin J J'.type B.sf B.at_ B.fn (call_own (vs := [.ref a, .ref b]) F hr tk I2 (.cons rfl (.cons rfl .nil)) q))⟩, sim_own2 ha.sim hb.sim⟩
/-- == and its like, by an own method, of two instances of one class -/
structure CmpOk (K : Fg) (C f : Addr) (name : Str) : Prop where
  at_ : PySem.W.findIn K (.ref C) name = some (some (.ref f))
  fn : PySem.W.isFn K (.ref f) = true
theorem cmp_own {k : Nat} {f C : Addr} {sp : Sp} {op : CmpOp} {pins : List (Addr × Obj)} {σ : L2.St} {H : Hp} {s : Shared} {Q : VK} {x y : V} {v u : Value} (B : CmpOk X.K C f (cmpInfo op).2.1) (F : FnR X.prog X.w X.K X.mg X.base (L2N.CX X.prog X.w) k f sp) (hr : Room k X.A) (tk : Takes X W)
    (I : L2.Inv X pins σ H s) (rx : RelV x v) (ry : RelV y u) (q : rOwn2 C sp W σ x y H Q) (ho : compareOp op v u = richCompare op v u) : wpAny (model X.prog X.w) X.A (compareOp op v u) (EP X pins σ Q) X.xe s := by
  obtain ⟨a, dx, fs, b, dy, gs, rfl, ea, rfl, eb, q⟩ := q
  obtain rfl : v = Value.ref a := rx
  obtain rfl : u = Value.ref b := ry
  obtain ⟨mA, J, _⟩ := ins_get I.hok ea
  obtain ⟨mB, J', _⟩ := ins_get I.hok eb
  obtain ⟨od, J, _⟩ := J.look
  obtain ⟨od', J', _⟩ := J'.look
  obtain ⟨m, hF⟩ := I.fr
  rw [ho]
  exact PySem.W.cmp_K (op := op) (tb := .ref C) hr.units0 hF I.ok.mod.kin J J'.type (by simp [PySem.W.notFirst]) B.at_ B.fn (call_own (vs := [.ref a, .ref b]) F hr tk I (.cons rfl (.cons rfl .nil)) q)
theorem de_cmpO {k : Nat} {f : Addr} {C : String} {sd : SpD} {op : CmpOp} {a b : Expr} {pos : Pos} {ta tb : TE} {da db : TDE} (B : CmpOk X.K (He.ga X.K C) f (cmpInfo op).2.1) (F : FnD X.prog X.w X.K X.mg X.base k f [] sd) (hr : Room k X.A) (tk : Takes X W) (ha : DE X W a ta da) (hb : DE X W b tb db) (hm : behindInMarks op b = false)
    (ho : ∀ v u, compareOp op v u = richCompare op v u := by intro _ _; rfl) : DE X W (.Compare a [op] [b] pos) (tOwn2 (He.ga X.K C) (spOf (kk X) [] sd) W ta tb) (dOwn2 C sd da db) :=
  ⟨⟨fun pins s σ H Q I h => wpAny_Compare1 (binT ha.pe hb.pe I h fun v u s2 x y H2 I2 rx ry q => cmp_own B F hr tk I2 rx ry q (ho v u)) hm⟩, sim_own2 ha.sim hb.sim⟩
/-- ~x by an own method -/
def tOwn1 (C : Addr) (sp : Sp) (W : WX) (ta : TE) : TE := fun σ H Q => ta σ H fun x H1 => ∃ a dx fs, x = .ref a ∧ H1 a = some (.ins C dx fs) ∧ sp [x] H1 Q fun c d H => W c d σ H
def dOwn1 (C : String) (sd : SpD) (da : TDE) : TDE := fun en Q Qe => da en (fun x en1 => (∃ ns vs, x = .obj C ns vs) ∧ sd [x] (fun r _ => Q r en1) fun x _ => Qe x en1) Qe
theorem de_inv {k : Nat} {f : Addr} {C : String} {sd : SpD} {a : Expr} {pos : Pos} {ta : TE} {da : TDE} (B : CmpOk X.K (He.ga X.K C) f "__invert__") (F : FnD X.prog X.w X.K X.mg X.base k f [] sd) (hr : Room k X.A) (tk : Takes X W) (ha : DE X W a ta da) :
    DE X W (.UnaryOp .Invert a pos) (tOwn1 (He.ga X.K C) (spOf (kk X) [] sd) W ta) (dOwn1 C sd da) :=
  ⟨⟨fun pins s σ H Q I h => PyProof.Rows.UnaryOp_ (thn (ha.pe.run pins s σ H _ I h) fun v s1 ⟨x, H1, I1, rx, a, dx, fs, ex, ea, q⟩ => by
    subst ex
    obtain rfl : v = Value.ref a := rx
    obtain ⟨mA, J, _⟩ := ins_get I1.hok ea
    obtain ⟨od, J, _⟩ := J.look
    obtain ⟨m, hF⟩ := I1.fr
    exact PySem.W.ksp_inv hF I1.ok.mod.kin J B.at_ B.fn (wpAny_call (run_D (vs := [.ref a]) F hr tk I1 (.cons rfl .nil) q)))⟩, fun G F' H σ en Q Qd Qe R q x k => ha.sim G F' H σ en _ _ Qe R q x fun v d F1 H1 en1 e1 R1 i1 q1 => by
    obtain ⟨⟨ns, ds, rfl⟩, q1⟩ := q1
    obtain ⟨a, dx, vs, rfl, s, n, l⟩ := id i1
    exact ⟨a, dx, _, rfl, R1.le _ _ s, sp_run (ds := [.obj C ns ds]) (Qd := fun r => Qd r en1) (Qe := fun x => Qe x en1) R1 (IsL.single i1) q1 (fun v r F3 H3 e3 R3 i3 q3 => k v r F3 H3 en1 (e1.trans e3) R3 i3 q3)
      fun y cls d F3 H3 R3 i3 q3 => x y F3 H3 σ en1 cls d R3 i3 q3⟩⟩
end
end DL

/-! The D layer, part 7: lists that change, comprehensions, the module's constants. -/
namespace DL
open PySem L2

section
variable {X : Cx} {W : WX} {K : KW}
/-! ### the module's constants -/
theorem pe_const {y : Str} {p : Pos} {v : V} {u : Value} (hg : Gl X y) (hm : X.mg y = some u) (r : RelV v u) (hd : (y == ("__debug__" : Str)) = false := by decide) : PE X (.Name y p) (tC v) := ⟨fun _ _ _ H _ I h => ld_glob I hg hm ⟨v, H, I, r, h⟩ hd⟩
theorem de_const {y : Str} {p : Pos} {v : V} {u : Value} {d : D} (hg : Gl X y) (hm : X.mg y = some u) (r : RelV v u) (i : ∀ F, Is (kk X) F d v) (hd : (y == ("__debug__" : Str)) = false := by decide) : DE X W (.Name y p) (tC v) (dC d) := ⟨pe_const hg hm r hd, sim_c i⟩
/-- a name of the module that is there in its tables: an int, a text, a tuple of flat values -/
theorem is_tupC {y : Str} {ds : List D} {vs : List V} {F : Hp} (h : SqT K F (He.ga K y) vs) (l : IsL K F ds vs) : Is K F (.tup ds) (.ref (He.ga K y)) := ⟨_, vs, rfl, h, l⟩

/-! ### append, pop, extend of a name's own list -/
section
variable {i : Nat} {y : Str} {p apos cpos : Pos} {e : Expr} {te : TE} {td : TDE}
def dApp (i : Nat) (e : TDE) : TDE := fun en Q Qe => (ownAt en i).isSome = true ∧ e en (fun d en1 => match ownAt en1 i with
  | some (b, .lst ds) => ds.length < sizeLine ∧ Q .non (en1.set i (some (.ow b (.lst (ds ++ [d])))))
  | _ => False) Qe
/-- an own list stands there -/
theorem own_isL {G : Gh} {F H : Hp} {σ : L2.St} {en : En} {b : Bool} {d : D} (R : Rel K G F H σ en) (h : ownAt en i = some (b, d)) (hl : ∃ ds, d = .lst ds) : ∃ a, σ[i]? = some (some (V.ref a)) ∧ ∃ xs, SqL K H a xs := by
  obtain ⟨ds, rfl⟩ := hl
  obtain ⟨a, h1, _, ⟨vs, h2, _⟩, _⟩ := R.ow i b _ (ownAt_eq h)
  exact ⟨a, h1, vs, SqL.of h2⟩
def isLst : D → Bool
  | .lst _ => true
  | _ => false
theorem isLst_of {d : D} (h : isLst d = true) : ∃ ds, d = .lst ds := by
  cases d with
  | lst ds => exact ⟨ds, rfl⟩
  | _ => cases h
/-- the slot i holds one's own list -/
def ownL (en : En) (i : Nat) : Bool := match ownAt en i with
  | some (_, .lst _) => true
  | _ => false
theorem ownL_of {en : En} (h : ownL en i = true) : ∃ b ds, ownAt en i = some (b, .lst ds) := by
  unfold ownL at h
  split at h
  · rename_i b ds e
    exact ⟨b, ds, e⟩
  · cases h
/-- a method of a list that changes it, by its effect on data: the list, the arguments, what is wanted of the value and of the list left -/
abbrev LM := List D → List D → (D → List D → Prop) → Prop
def SimL (K : KW) (r : V → List V → Hp → VK → Prop) (m : LM) : Prop := ∀ (F H : Hp) (a : Addr) (ds : List D) (vs : List V) (es : List D) (ws : List V) (Q : VK) (Qd : D → List D → Prop), Same F H → F a = none → H a = some (.lst vs) → IsL K F ds vs → IsL K F es ws → m ds es Qd →
  (∀ z dz us ls, Is K F dz z → IsL K F ls us → Qd dz ls → Q z (upd H a (.lst us))) → r (.ref a) ws H Q
def dLM (i : Nat) (m : LM) (a : TDA) : TDE := fun en Q Qe => ownL en i = true ∧ a en (fun es en1 => match ownAt en1 i with
  | some (b, .lst ds) => m ds es fun z ls => Q z (en1.set i (some (.ow b (.lst ls))))
  | _ => False) Qe
theorem sim_lm {r : V → List V → Hp → VK → Prop} {m : LM} {t : TA} {d : TDA} (hm : SimL K r m) (h : SimA K W t d) : Sim K W (tBM K "list" r (tVar i) t) (dLM i m d) := fun G F H σ en Q Qd Qe R q x k => by
  obtain ⟨q0, q⟩ := q
  obtain ⟨b0, ds0, e0⟩ := ownL_of q0
  obtain ⟨a, h1, _, ⟨vs0, h2, _⟩, _⟩ := R.ow i b0 _ (ownAt_eq e0)
  refine ⟨_, h1, .inl ⟨rfl, vs0, SqL.of h2⟩, h G F H σ en _ _ Qe R q x fun ws es F1 H1 en1 e1 R1 i1 q1 => ?_⟩
  split at q1
  · rename_i b ds e2
    have e2 := ownAt_eq e2
    obtain ⟨a', h1', n1, ⟨vs, h3, l3⟩, _⟩ := R1.ow i b _ e2
    rw [h1] at h1'
    cases h1'
    exact hm F1 H1 a ds vs es ws Q _ R1.le n1 h3 l3 i1 q1 fun z dz us ls iz il q2 => k z dz F1 _ _ e1 (R1.write (e := .lst ls) e2 h1 ⟨us, upd_same, il⟩) iz q2
  · exact q1.elim
end
def appM : LM := fun ds es Q => match es with
  | [d] => ds.length < sizeLine ∧ Q .non (ds ++ [d])
  | _ => False
theorem sim_app : SimL K rAppend appM := by
  intro F H a ds vs es ws Q Qd e na ha l le q k
  unfold appM at q
  split at q
  · obtain ⟨v, r, rfl, iv, ir⟩ := le
    cases ir
    exact ⟨a, vs, v, rfl, rfl, ha, by rw [l.length]; exact q.1, k .non .non _ _ rfl (l.append (IsL.single iv)) q.2⟩
  · exact q.elim
def popM : LM := fun ds es Q => match es with
  | [] => ∃ d, ds.getLast? = some d ∧ Q d ds.dropLast
  | _ => False
theorem IsL.dropLast {F : Hp} {ds : List D} {vs : List V} (l : IsL K F ds vs) : IsL K F ds.dropLast vs.dropLast := by
  rw [List.dropLast_eq_take, List.dropLast_eq_take, l.length]
  exact l.take _
theorem sim_pop : SimL K rPop popM := by
  intro F H a ds vs es ws Q Qd e na ha l le q k
  unfold popM at q
  split at q
  · cases le
    obtain ⟨d, h1, h2⟩ := q
    rw [List.getLast?_eq_getElem?] at h1
    obtain ⟨v, h3, h4⟩ := l.get h1
    exact ⟨a, vs, v, rfl, rfl, ha, by rw [l.length]; exact h3, k v d _ _ h4 l.dropLast h2⟩
  · exact q.elim
def extM : LM := fun ds es Q => match es with
  | [.lst xs] => ds.length + xs.length ≤ sizeLine ∧ Q .non (ds ++ xs)
  | _ => False
theorem sim_ext : SimL K rExtend extM := by
  intro F H a ds vs es ws Q Qd e na ha l le q k
  unfold extM at q
  split at q
  · obtain ⟨v, r, rfl, ⟨b, us, rfl, hb, lb⟩, ir⟩ := le
    cases ir
    exact ⟨a, b, vs, us, rfl, rfl, ha, e _ _ hb, by rw [l.length, lb.length]; exact q.1, k .non .non _ _ rfl (l.append lb) q.2⟩
  · exact q.elim
section
variable {i : Nat} {y : Str} {p apos cpos : Pos} {e : Expr} {es : List Expr} {t : TA} {d : TDA} {name : Str} {id : String} {r : V → List V → Hp → VK → Prop} {m : LM}
theorem de_lm (slot : Slot "list" name id) (hty : typeOf (.builtin id) = pure (.type "method_descriptor")) (hm : MtR X id r) (sm : SimL (kk X) r m) (ha : DA X W (e :: es) t d) (hN : X.N[i]? = some y := by rfl) (hv : Vis X.env.scope y := by first | exact Or.inl rfl | exact Or.inr (Or.inl rfl) | exact Or.inr (Or.inr rfl))
    (hd2 : (y == ("__debug__" : Str)) = false := by decide) (hcd : (y == ("__classdict__" : Str)) = false := by decide) (hbase : attributeBase (.Name y p) name X.env (eval (.Name y p) X.env) = eval (.Name y p) X.env := by rfl)
    (hfew : ((backTo cpos (starEach (e :: es) X.env)).all (fun x => !x.1) && (backToKw cpos (keywordEach [] X.env)).all (fun x => x.1.isSome) && decide ((e :: es).length + ([] : List Keyword).length + (if ([] : List Keyword).isEmpty then 0 else 1) < 30)) = true := by rfl)
    (hline : (apos.endLine == cpos.line) = true := by rfl) (hst : starEach (e :: es) X.env = (false, eval e X.env) :: starEach es X.env := by rfl) (hpl : (backTo cpos (starEach es X.env)).any (·.1) = false := by rfl) :
    DE X W (.Call (.Attribute (.Name y p) name apos) (e :: es) [] cpos) (tBM X.K "list" r (tVar i) t) (dLM i m d) := ⟨pe_bm PySem.F.plainAttrs_list slot hty hm (pe_var hN hv hd2 hcd) ha.pa hbase hfew hline hst hpl, sim_lm sm ha.sim⟩
theorem de_lm0 (slot : Slot "list" name id) (hty : typeOf (.builtin id) = pure (.type "method_descriptor")) (hm : MtR X id r) (sm : SimL (kk X) r m) (hN : X.N[i]? = some y := by rfl) (hv : Vis X.env.scope y := by first | exact Or.inl rfl | exact Or.inr (Or.inl rfl) | exact Or.inr (Or.inr rfl))
    (hd2 : (y == ("__debug__" : Str)) = false := by decide) (hcd : (y == ("__classdict__" : Str)) = false := by decide) (hbase : attributeBase (.Name y p) name X.env (eval (.Name y p) X.env) = eval (.Name y p) X.env := by rfl) (hline : (apos.endLine == cpos.line) = true := by rfl) :
    DE X W (.Call (.Attribute (.Name y p) name apos) [] [] cpos) (tBM0 X.K "list" r (tVar i)) (dLM i m dNil) := ⟨pe_bm0 PySem.F.plainAttrs_list slot hty hm (pe_var hN hv hd2 hcd) hbase hline, sim_lm (W := W) sm (fun G F H σ en Q Qd Qe R q x k => k [] [] F H en (Same.refl F) R rfl q)⟩
end
/-! ### x[k] = e of a name's own list -/
def ownC (en : En) (i : Nat) : Bool := match ownAt en i with
  | some (_, .lst _) => true
  | some (_, .dct _ _) => true
  | _ => false
theorem ownC_of {en : En} {i : Nat} (h : ownC en i = true) : ∃ b d, ownAt en i = some (b, d) := by
  unfold ownC at h
  cases e : ownAt en i with
  | none => rw [e] at h; cases h
  | some x => exact ⟨x.1, x.2, rfl⟩
def rSetDct (K : KW) : TSet := fun o i v H Q => ∃ a ks kvs us k, o = .ref a ∧ (a == sysModules) = false ∧ H a = some (.ext (DkΦ K.w a ks kvs us)) ∧ ks.length < sizeLine ∧ Kfit K H ks kvs k i ∧ Q (upd H a (.ext (DkΦ K.w a (putN ks k) (putV ks kvs k i) (putL ks us k v))))
theorem set_dct (hu : X.A.units + 64 < cLine) : PSet X (rSetDct (kk X)) := by
  intro pins s σ H o i v ov iv u Q I ro ri rv ⟨a, ks, kvs, us, k, e, hs, he, hz, hf, q⟩
  subst e
  cases ro
  exact dd_setItem hu I hs he hz hf ri rv fun s' I' => ⟨_, I', q⟩
def rSetX (K : KW) : TSet := fun o i v H Q => rSetL o i v H Q ∨ rSetDct K o i v H Q
theorem set_X (hu : X.A.units + 64 < cLine) : PSet X (rSetX (kk X)) := by
  intro pins s σ H o i v ov iv u Q I ro ri rv q
  rcases q with q | q
  · exact set_list pins s σ H o i v ov iv u Q I ro ri rv q
  · exact set_dct hu pins s σ H o i v ov iv u Q I ro ri rv q
def dStore (i : Nat) (ix e : TDE) : TDS := fun B en => e en (fun d en1 => ownC en1 i = true ∧ ix en1 (fun j en2 => match ownAt en2 i, j with
  | some (b, .lst ds), .int k => ∃ m, ixN ds.length k = some m ∧ B.nx (en2.set i (some (.ow b (.lst (ds.set m d)))))
  | some (b, .dct ds es), j => fitD ds j = true ∧ ds.length < sizeLine ∧ B.nx (en2.set i (some (.ow b (.dct (putDk ds j) (putDv ds es j d)))))
  | _, _ => False) B.ex) B.ex
theorem ds_store (hu : X.A.units + 64 < cLine) {i : Nat} {y : Str} {p pos tpos : Pos} {e ix : Expr} {te ti : TE} {td di : TDE} (h : DE X W e te td) (hi : DE X W ix ti di) (hN : X.N[i]? = some y := by rfl) (hv : Vis X.env.scope y := by first | exact Or.inl rfl | exact Or.inr (Or.inl rfl) | exact Or.inr (Or.inr rfl))
    (hd2 : (y == ("__debug__" : Str)) = false := by decide) (hcd : (y == ("__classdict__" : Str)) = false := by decide)
    (ha : ∀ v, assign (.Subscript (.Name y p) ix tpos) X.env v = (do let ov ← holding [v] (eval (.Name y p) X.env); let iv ← holding [v, ov] (eval ix X.env); standAt tpos; holding [v, ov, iv] (setItem ov iv v); release [v, ov, iv] []) := by intro _; rfl)
    (hs : swapsWithSole [.Subscript (.Name y p) ix tpos] e pos.line X.env = pure false := by rfl) (hw : swappedStores [.Subscript (.Name y p) ix tpos] e X.env = pure none := by rfl)
    (h1 : (assignEach [.Subscript (.Name y p) ix tpos] X.env).map (·.2) = [assign (.Subscript (.Name y p) ix tpos) X.env] := by rfl) : DS X W (.Assign [.Subscript (.Name y p) ix tpos] e pos) (tAsg te (gSub (tVar i) ti (rSetX (kk X)))) (dStore i di td) :=
  ⟨ps_asg h.pe (pg_sub (pe_var hN hv hd2 hcd) hi.pe (set_X hu) ha) hs hw h1, fun G F H σ en D' B R q k => h.sim G F H σ en _ _ _ R q k.ex fun v d F1 H1 en1 e1 R1 i1 q1 => by
    obtain ⟨q0, q1⟩ := q1
    obtain ⟨b0, ds0, e0⟩ := ownC_of q0
    obtain ⟨a, h1, _⟩ := R1.ow i b0 _ (ownAt_eq e0)
    refine ⟨_, h1, hi.sim G F1 H1 σ en1 _ _ _ R1 q1 k.ex fun j dj F2 H2 en2 e2 R2 i2 q2 => ?_⟩
    split at q2
    · rename_i b ds kk e3
      have e3 := ownAt_eq e3
      obtain ⟨a', h1', n1, ⟨vs, h3, l3⟩, _⟩ := R2.ow i b _ e3
      rw [h1] at h1'
      cases h1'
      cases i2
      obtain ⟨m, hm, q3⟩ := q2
      exact .inl ⟨a, vs, kk, m, rfl, rfl, h3, by rw [l3.length]; exact hm, k.nx F2 _ σ _ (R2.write (e := .lst (ds.set m d)) e3 h1 ⟨_, upd_same, IsL.set m l3 (Is.mono e2 _ _ i1)⟩) q3⟩
    · rename_i b ds es e3
      have e3 := ownAt_eq e3
      obtain ⟨a', h1', n1, ⟨ks, kvs, us, h3, hs3, ⟨hk3, hz3⟩, l3, m3⟩, _⟩ := R2.ow i b _ e3
      rw [h1] at h1'
      cases h1'
      obtain ⟨f, hz, q3⟩ := q2
      obtain ⟨j, hj⟩ := fit_some f
      have hl := nkL_len hk3
      obtain ⟨p1, p2⟩ := putK_of hj i2 hk3 l3
      refine .inr ⟨a, ks, kvs, us, j, rfl, hs3, h3, by omega, kfit_of R2.le hk3 l3 hj i2 f, k.nx F2 _ σ _ (R2.write (e := .dct _ _) e3 h1 ⟨_, _, _, upd_same, hs3, ⟨p1, ?_⟩, p2, put_of hj (Is.mono e2 _ _ i1) hk3 m3⟩) q3⟩
      unfold putN
      split
      · exact hz3
      · rw [List.length_append]; simp; omega
    · exact q2.elim⟩

/-! ### comprehensions -/
def wipeE (en : En) : List Nat → En
  | [] => en
  | v :: vs => (wipeE en vs).set v none
/-- the outer names of a comprehension's own are as they were -/
def backE (en0 en : En) : List Nat → En
  | [] => en
  | v :: vs => (backE en0 en vs).set v (match en0[v]? with
    | some (some (.fz d)) => some (.fz d)
    | _ => none)
theorem Rel.sigma {G : Gh} {F H : Hp} {σ σ' : L2.St} {en : En} (R : Rel K G F H σ en) (hl : σ'.length = σ.length) (h : ∀ (i : Nat) e, en[i]? = some (some e) → σ'[i]? = σ[i]?) : Rel K G F H σ' en where
  le := R.le
  f0 := R.f0
  pr := R.pr
  io := R.io
  len := hl.trans R.len
  fz := fun i d e => by rw [h i _ e]; exact R.fz i d e
  ow := fun i b d e => by rw [h i _ e]; exact R.ow i b d e
  sep := fun i j b c d e a h1 h2 h3 h4 => by
    rw [h i _ h1] at h3
    rw [h j _ h2] at h4
    exact R.sep i j b c d e a h1 h2 h3 h4
  xc := fun i a c d x e => by rw [h i _ e]; exact R.xc i a c d x e
theorem wipeE_get {en : En} {i : Nat} {e : Ent} : ∀ {vs : List Nat}, (wipeE en vs)[i]? = some (some e) → en[i]? = some (some e) ∧ i ∉ vs
  | [], h => ⟨h, by simp⟩
  | v :: vs, h => by
    unfold wipeE at h
    by_cases z : i = v
    · subst z
      have hlt := get_lt h
      rw [List.length_set] at hlt
      rw [List.getElem?_set_self hlt] at h
      cases h
    · rw [List.getElem?_set_ne (fun q => z q.symm)] at h
      obtain ⟨h1, h2⟩ := wipeE_get h
      exact ⟨h1, by simp only [List.mem_cons, not_or]; exact ⟨z, h2⟩⟩
theorem wipe_get {σ : L2.St} {i : Nat} : ∀ {vs : List Nat}, i ∉ vs → (wipe σ vs)[i]? = σ[i]?
  | [], _ => rfl
  | v :: vs, h => by
    simp only [List.mem_cons, not_or] at h
    unfold wipe
    rw [List.getElem?_set_ne (fun q => h.1 q.symm)]
    exact wipe_get h.2
theorem Rel.wiped {G : Gh} {F H : Hp} {σ : L2.St} {en : En} (R : Rel K G F H σ en) (vs : List Nat) : Rel K G F H (wipe σ vs) (wipeE en vs) := by
  have h1 : ∀ l : List Nat, Rel K G F H σ (wipeE en l) := fun l => by
    induction l with
    | nil => exact R
    | cons v l ih => exact ih.drop none (fun _ _ q => nomatch q) fun _ q => nomatch q
  exact (h1 vs).sigma (wipe_length σ vs) fun i e h => wipe_get (wipeE_get h).2
theorem backE_fz {en0 en : En} {i : Nat} {e : Ent} : ∀ {vs : List Nat}, (backE en0 en vs)[i]? = some (some e) → (i ∉ vs ∧ en[i]? = some (some e)) ∨ (i ∈ vs ∧ ∃ d, e = .fz d ∧ en0[i]? = some (some (.fz d)))
  | [], h => .inl ⟨by simp, h⟩
  | v :: vs, h => by
    unfold backE at h
    by_cases z : i = v
    · subst z
      have hlt := get_lt h
      rw [List.length_set] at hlt
      rw [List.getElem?_set_self hlt] at h
      have h := Option.some.inj h
      split at h
      · rename_i d e0
        cases h
        exact .inr ⟨by simp, d, rfl, e0⟩
      · cases h
    · rw [List.getElem?_set_ne (fun q => z q.symm)] at h
      rcases backE_fz h with ⟨h1, h2⟩ | ⟨h1, h2⟩
      · exact .inl ⟨by simp only [List.mem_cons, not_or]; exact ⟨z, h1⟩, h2⟩
      · exact .inr ⟨List.mem_cons_of_mem _ h1, h2⟩
theorem backE_len {en0 en : En} : ∀ vs : List Nat, (backE en0 en vs).length = en.length
  | [] => rfl
  | v :: vs => by unfold backE; rw [List.length_set, backE_len vs]
theorem backE_wipe {en0 en : En} {vs : List Nat} : backE en0 (wipeE en vs) vs = backE en0 en vs := by
  have hl : ∀ l : List Nat, (wipeE en l).length = en.length := fun l => by
    induction l with
    | nil => rfl
    | cons v l ih => unfold wipeE; rw [List.length_set, ih]
  have hin : ∀ (x y : En) (l : List Nat), x.length = y.length → (∀ i : Nat, i ∉ l → x[i]? = y[i]?) → backE en0 x l = backE en0 y l := fun x y l => by
    intro h1 h2
    apply List.ext_getElem?
    intro i
    by_cases m : i ∈ l
    · have g : ∀ (l : List Nat), i ∈ l → (backE en0 x l)[i]? = (backE en0 y l)[i]? := by
        intro l
        induction l with
        | nil => intro m; simp at m
        | cons v l ih =>
          intro m
          unfold backE
          by_cases z : i = v
          · subst z
            by_cases hlt : i < x.length
            · rw [List.getElem?_set_self (by rw [backE_len]; exact hlt), List.getElem?_set_self (by rw [backE_len, ← h1]; exact hlt)]
            · rw [List.getElem?_eq_none (by rw [List.length_set, backE_len]; omega), List.getElem?_eq_none (by rw [List.length_set, backE_len]; omega)]
          · rw [List.getElem?_set_ne (fun q => z q.symm), List.getElem?_set_ne (fun q => z q.symm)]
            exact ih (by simpa [z] using m)
      exact g l m
    · have g : ∀ (x : En) (l : List Nat), i ∉ l → (backE en0 x l)[i]? = x[i]? := by
        intro x l
        induction l with
        | nil => intro _; rfl
        | cons v l ih =>
          intro m
          simp only [List.mem_cons, not_or] at m
          unfold backE
          rw [List.getElem?_set_ne (fun q => m.1 q.symm)]
          exact ih m.2
      rw [g x l m, g y l m]
      exact h2 i m
  refine hin _ _ vs (hl vs) fun i m => ?_
  have g : ∀ (l : List Nat), i ∉ l → (wipeE en l)[i]? = en[i]? := by
    intro l
    induction l with
    | nil => intro _; rfl
    | cons v l ih =>
      intro m
      simp only [List.mem_cons, not_or] at m
      unfold wipeE
      rw [List.getElem?_set_ne (fun q => m.1 q.symm)]
      exact ih m.2
  exact g vs m
theorem Rel.back {G : Gh} {F0 H0 F H : Hp} {σ : L2.St} {en0 en : En} {vs : List Nat} (R0 : Rel K G F0 H0 σ en0) (e : Same F0 F) (R : Rel K G F H (wipe σ vs) en) : Rel K G F H σ (backE en0 en vs) where
  le := R.le
  f0 := R.f0
  pr := R.pr
  io := R.io
  len := by
    have := R.len
    rw [wipe_length] at this
    rw [backE_len]
    exact this
  fz := fun i d h => by
    rcases backE_fz h with ⟨h1, h2⟩ | ⟨_, d', h1, h2⟩
    · obtain ⟨v, k1, k2⟩ := R.fz i d h2
      rw [wipe_get h1] at k1
      exact ⟨v, k1, k2⟩
    · cases h1
      obtain ⟨v, k1, k2⟩ := R0.fz i d h2
      exact ⟨v, k1, Is.mono e _ _ k2⟩
  ow := fun i b d h => by
    rcases backE_fz h with ⟨h1, h2⟩ | ⟨_, d', h1, h2⟩
    · obtain ⟨a, k1, k2⟩ := R.ow i b d h2
      rw [wipe_get h1] at k1
      exact ⟨a, k1, k2⟩
    · cases h1
  sep := fun i j b c d e a h1 h2 h3 h4 => by
    rcases backE_fz h1 with ⟨n1, m1⟩ | ⟨_, d', z, _⟩
    · rcases backE_fz h2 with ⟨n2, m2⟩ | ⟨_, d', z, _⟩
      · exact R.sep i j b c d e a m1 m2 (by rw [wipe_get n1]; exact h3) (by rw [wipe_get n2]; exact h4)
      · cases z
    · cases z
  xc := fun i a c d x h => by
    rcases backE_fz h with ⟨n1, m1⟩ | ⟨_, d', z, _⟩
    · obtain ⟨k1, k2, k3⟩ := R.xc i a c d x m1
      rw [wipe_get n1] at k2
      exact ⟨k1, k2, k3⟩
    · cases z
/-- an object that no slot holds, and that stays through what is read now -/
structure Aside (K : KW) (G : Gh) (F H : Hp) (σ : L2.St) (en : En) (a : Addr) (ds : List D) : Prop where
  nf : F a = none
  at_ : ∃ vs, H a = some (.lst vs) ∧ IsL K F ds vs
  n0 : ¬ G.P a ∧ ∀ p ∈ G.io, p.2 ≠ a
  ns : ∀ (i : Nat) b e, en[i]? = some (some (Ent.ow b e)) → σ[i]? ≠ some (some (V.ref a))
/-- the ghost under which it stays -/
def Gh.plus (G : Gh) (H : Hp) (a : Addr) : Gh := ⟨G.F0, fun b => if b = a then H a else G.H0 b, fun b => G.P b ∨ b = a, G.io, G.xi⟩
section
variable {G : Gh} {F H F' H' : Hp} {σ σ' : L2.St} {en en' : En} {a : Addr} {ds : List D}
theorem Aside.plus (T : Aside K G F H σ en a ds) (R : Rel K G F H σ en) : Rel K (G.plus H a) F H σ en :=
  { R with
    pr := fun b z => by
      by_cases h : b = a
      · subst h
        obtain ⟨vs, k, _⟩ := T.at_
        show H b = (if b = b then H b else G.H0 b) ∧ (if b = b then H b else G.H0 b) ≠ none ∧ _
        rw [if_pos rfl]
        exact ⟨rfl, by rw [k]; simp, fun _ => T.nf⟩
      · show H b = (if b = a then H a else G.H0 b) ∧ (if b = a then H a else G.H0 b) ≠ none ∧ _
        rw [if_neg h]
        exact R.pr b (z.elim id fun q => absurd q h)
    ow := fun i b d e => by
      obtain ⟨c, h1, h2, h3, h4, h5⟩ := R.ow i b d e
      exact ⟨c, h1, h2, h3, fun z => z.elim h4 fun q => T.ns i b d e (by rw [← q]; exact h1), h5⟩ }
theorem Aside.minus (T : Aside K G F H σ en a ds) (h0 : G.F0 a = none) (R : Rel K (G.plus H a) F' H' σ' en') (e : Same F F') : Rel K G F' H' σ' en' ∧ Aside K G F' H' σ' en' a ds := by
  have p := R.pr a (.inr rfl)
  have p1 : H' a = (if a = a then H a else G.H0 a) := p.1
  rw [if_pos rfl] at p1
  have na : F' a = none := p.2.2 h0
  refine ⟨{ R with
    pr := fun b z => ?_
    ow := fun i b d k => ?_ }, na, ?_, T.n0, fun i b d k1 k2 => ?_⟩
  · have hne : b ≠ a := fun q => T.n0.1 (by rw [← q]; exact z)
    have w := R.pr b (.inl z)
    have w1 : H' b = (if b = a then H a else G.H0 b) := w.1
    have w2 : (if b = a then H a else G.H0 b) ≠ none := w.2.1
    rw [if_neg hne] at w1 w2
    exact ⟨w1, w2, w.2.2⟩
  · obtain ⟨c, h1, h2, h3, h4, h5⟩ := R.ow i b d k
    exact ⟨c, h1, h2, h3, fun z => h4 (.inl z), h5⟩
  · obtain ⟨vs, k, l⟩ := T.at_
    exact ⟨vs, p1.trans k, IsL.mono e _ _ l⟩
  · obtain ⟨c, h1, h2, h3, h4, h5⟩ := R.ow i b d k1
    rw [k2] at h1
    cases h1
    exact h4 (.inr rfl)
/-- such a list grows -/
theorem Aside.push (T : Aside K G F H σ en a ds) (R : Rel K G F H σ en) {d : D} {vs : List V} {v : V} (hv : H a = some (.lst vs)) (i : Is K F d v) : Rel K G F (upd H a (.lst (vs ++ [v]))) σ en ∧ Aside K G F (upd H a (.lst (vs ++ [v]))) σ en a (ds ++ [d]) := by
  obtain ⟨ws, k, l⟩ := T.at_
  rw [hv] at k
  cases k
  refine ⟨?_, T.nf, ⟨_, upd_same, l.append (IsL.single i)⟩, T.n0, T.ns⟩
  refine R.step (fun z => z = a) (Same.refl F) (fun c u q => ?_) (fun c k1 k2 => absurd k1 k2) (fun c u q m => by rw [upd_ne m]; exact q) (fun c z => by subst z; exact ⟨T.n0.1, by rw [upd_same]; simp⟩) rfl (fun j f q => .inl q) fun j b f q => ?_
  · have ne : c ≠ a := fun z => by
      subst z
      rw [T.nf] at q
      cases q
    rw [upd_ne ne]
    exact R.le _ _ q
  · obtain ⟨a2, q1, q2, q3, _⟩ := R.ow j b f q
    refine ⟨a2, f, q1, q, q3.move (Same.refl F) (upd_ne fun z => ?_)⟩
    subst z
    exact T.ns j b f q q1
end
def lcD (vs : List Nat) (g : TDG) (c : TDT) (e : TDE) : List D → List D → En → (List D → En → Prop) → Prop
  | [], acc, en, Q => Q acc en
  | d :: ds, acc, en, Q => g d (wipeE en vs) fun en1 => c en1 (fun b en2 => if b = true then e en2 (fun x en3 => acc.length < sizeLine ∧ lcD vs g c e ds (acc ++ [x]) en3 Q) (fun _ _ => False) else lcD vs g c e ds acc en2 Q) fun _ _ => False
/-- [e for t in it if c] -/
def dLc (vs : List Nat) (it : TDI) (g : TDG) (c : TDT) (e : TDE) : TDE := fun en Q Qe => it en (fun ds en1 => lcD vs g c e ds [] (wipeE en1 vs) fun acc en2 => Q (.lst acc) (backE en1 en2 vs)) Qe
abbrev W0 : WX := fun _ _ _ _ => False
theorem xr0 {G : Gh} : XR K W0 G (fun _ _ => False) := fun _ _ _ _ _ _ _ _ _ z => z
def dYes : TDT := fun en Q _ => Q true en
structure DTs (X : Cx) (ifs : List Expr) (t : TT) (d : TDT) : Prop where
  pts : PTs X ifs t
  sim : SimT (kk X) W0 t d
theorem dts_nil : DTs X [] tYes dYes := ⟨pts_nil, fun G F H σ en Q Qd Qe R q x k => k true F H en (Same.refl F) R q⟩
theorem dts_one {c : Expr} {t : TT} {d : TDT} (h : DT X W0 c t d) : DTs X [c] t d := ⟨pts_one h.pt, h.sim⟩
theorem wipe_wipe (σ : L2.St) : ∀ vs : List Nat, wipe (wipe σ vs) vs = wipe σ vs := fun vs => by
  apply List.ext_getElem?
  intro i
  by_cases h : i ∈ vs
  · have e : ∀ (τ : L2.St) (l : List Nat), i ∈ l → i < τ.length → (wipe τ l)[i]? = some none := by
      intro τ l
      induction l with
      | nil => intro m; simp at m
      | cons v l ih =>
        intro m hl
        unfold wipe
        by_cases z : i = v
        · subst z
          rw [List.getElem?_set_self (by rw [wipe_length]; exact hl)]
        · rw [List.getElem?_set_ne (fun q => z q.symm)]
          exact ih (by simpa [z] using m) hl
    by_cases hl : i < σ.length
    · rw [e _ vs h (by rw [wipe_length]; exact hl), e _ vs h hl]
    · rw [List.getElem?_eq_none (by rw [wipe_length, wipe_length]; omega), List.getElem?_eq_none (by rw [wipe_length]; omega)]
  · rw [wipe_get h]
theorem Rel.rewipe {G : Gh} {F H : Hp} {σ σ2 : L2.St} {en : En} {vs : List Nat} (R : Rel K G F H σ2 en) (e : wipe σ2 vs = wipe σ vs) : Rel K G F H (wipe σ vs) (wipeE en vs) := by
  rw [← e]
  exact R.wiped vs
/-- the target of a comprehension stores its own names alone -/
def OwnTg (g : TG) (vs : List Nat) : Prop := ∀ x τ H (Q : L2.St → Hp → Prop), g x τ H (fun σ2 H2 => wipe σ2 vs = wipe τ vs → Q σ2 H2) → g x τ H fun σ2 H2 => wipe σ2 vs = wipe τ vs ∧ Q σ2 H2
theorem wipe_set {σ : L2.St} {i : Nat} {x : Option V} : ∀ {vs : List Nat}, i ∈ vs → wipe (σ.set i x) vs = wipe σ vs
  | v :: vs, h => by
    unfold wipe
    by_cases z : i = v
    · subst z
      by_cases m : i ∈ vs
      · rw [wipe_set m]
      · have e : ∀ (l : List Nat), i ∉ l → wipe (σ.set i x) l = (wipe σ l).set i x := by
          intro l
          induction l with
          | nil => intro _; rfl
          | cons u l ih =>
            intro hm
            simp only [List.mem_cons, not_or] at hm
            unfold wipe
            rw [ih hm.2, List.set_comm _ _ hm.1]
        rw [e vs m, List.set_set]
    · rw [wipe_set (by simpa [z] using h)]
theorem own_name {i : Nat} {vs : List Nat} (h : i ∈ vs) : OwnTg (gName i) vs := fun x τ H Q q => ⟨wipe_set h, q (wipe_set h)⟩
theorem do_lc {elt tg iter : Expr} {ifs : List Expr} {scope : Scope} {own : List (Str × Nat)} {pos : Pos} {wi : TI} {di : TDI} {g : TG} {gd : TDG} {tt : TT} {td : TDT} {te : TE} {ed : TDE} (hc : X.calm = true) (hN : X.N.Nodup) (hi : DI X W tg iter wi di) (ok : BlkOk X.N X.env.scope scope own)
    (ho : OwnTg g (own.map (·.2)))
    (hg0 : DG (X.blk X.s_0 X.H_0 scope (compEnvC scope [] 0 X.env) []) tg g gd) (hg : ∀ (s : Shared) (H : Hp) (C : Addr) (cl : List (Str × Addr)) (fp : List Addr), DG (X.blk s H scope (compEnvC scope cl C X.env) fp) tg g gd) (ht0 : DTs (X.blk X.s_0 X.H_0 scope (compEnvC scope [] 0 X.env) []) ifs tt td) (ht : ∀ (s : Shared) (H : Hp) (C : Addr) (cl : List (Str × Addr)) (fp : List Addr), DTs (X.blk s H scope (compEnvC scope cl C X.env) fp) ifs tt td)
    (he0 : DE (X.blk X.s_0 X.H_0 scope (compEnvC scope [] 0 X.env) []) W0 elt te ed) (he : ∀ (s : Shared) (H : Hp) (C : Addr) (cl : List (Str × Addr)) (fp : List Addr), DE (X.blk s H scope (compEnvC scope cl C X.env) fp) W0 elt te ed) (hs : ∀ x, foldedSetIterable iter X.env x = pure x := by intro _; rfl) :
    DO X W (.ListComp elt [⟨tg, iter, ifs, 0⟩] scope pos) (tLc wi g tt te (own.map (·.2))) (dLc (own.map (·.2)) di gd td ed) :=
  ⟨pe_lc hc hN hi.pi ok (fun s H C cl fp => (hg s H C cl fp).pg) (fun s H C cl fp => (ht s H C cl fp).pts) (fun s H C cl fp => (he s H C cl fp).pe) hs, fun G F H σ en Q Qd Qe R q x k => by
    have sg : SimG (kk X) g gd := (hg X.s_0 X.H_0 0 [] []).sim
    have st : SimT (kk X) W0 tt td := (ht X.s_0 X.H_0 0 [] []).sim
    have se : Sim (kk X) W0 te ed := (he X.s_0 X.H_0 0 [] []).sim
    generalize own.map (·.2) = vs at ho q k ⊢
    refine hi.sim G F H σ en _ _ Qe R q x fun J ds F1 H1 en1 e1 R1 it q1 D hD => ?_
    have n1 : F1 D = none := R1.free hD
    have n0 : G.F0 D = none := R1.f0.free n1
    have R1' : Rel (kk X) G F1 (upd H1 D (.lst [])) (wipe σ vs) (wipeE en1 vs) := (R1.fresh hD).wiped vs
    have T1 : Aside (kk X) G F1 (upd H1 D (.lst [])) (wipe σ vs) (wipeE en1 vs) D [] := ⟨n1, ⟨[], upd_same, rfl⟩, R1.free0 hD, fun i b e h1 h2 => by
      obtain ⟨h3, h4⟩ := wipeE_get h1
      rw [wipe_get h4] at h2
      obtain ⟨a', k1, _, k3, _⟩ := R1.ow i b e h3
      rw [h2] at k1
      cases k1
      exact k3.there hD⟩
    refine ⟨fun i m H => m = ds.length - i ∧ i ≤ ds.length ∧ ∃ F en acc, Same F1 F ∧ Rel (kk X) G F H (wipe σ vs) (wipeE en vs) ∧ Aside (kk X) G F H (wipe σ vs) (wipeE en vs) D acc ∧ lcD vs gd td ed (ds.drop i) acc en fun acc en2 => Qd (.lst acc) (backE en1 en2 vs), ⟨ds.length, by simp, Nat.zero_le _, F1, wipeE en1 vs, [], Same.refl _, ?_, ?_, q1⟩, ?_⟩
    · have := R1'.wiped vs
      rwa [wipe_wipe] at this
    · refine ⟨n1, T1.at_, T1.n0, fun i b e h1 h2 => T1.ns i b e (wipeE_get h1).1 h2⟩
    rintro i m H ⟨rfl, hi, F2, en2, acc, e2, R2, T2, q2⟩
    by_cases hlt : i < ds.length
    · refine .inr ⟨it.go i F2 H e2 R2.le hlt, fun H' => ∃ F en acc, Same F1 F ∧ Rel (kk X) G F H' (wipe σ vs) (wipeE en vs) ∧ Aside (kk X) G F H' (wipe σ vs) (wipeE en vs) D acc ∧ lcD vs gd td ed (ds.drop (i + 1)) acc en fun acc en2 => Qd (.lst acc) (backE en1 en2 vs),
        fun H' ⟨F3, en3, acc3, e3, R3, T3, q3⟩ => ⟨ds.length - (i + 1), by omega, rfl, hlt, F3, en3, acc3, e3, R3, T3, q3⟩, fun x H' y => ?_⟩
      -- the turn, with the new list aside
      have R2p := T2.plus R2
      obtain ⟨F3, e3, R3, d, hd, id⟩ := it.yld i (G.plus H D) F2 H (wipe σ vs) _ x H' e2 R2p hlt y
      have hd' : ds[i] = d := by rw [List.getElem?_eq_getElem hlt] at hd; exact Option.some.inj hd
      rw [List.drop_eq_getElem_cons hlt, hd'] at q2
      have og := ho x (wipe σ vs) H'
      rw [wipe_wipe] at og
      refine og _ ?_
      refine sg (G.plus H D) F3 H' (wipe σ vs) _ d x _ _ R3 id q2 fun F4 H4 σ4 en4 e4 R4 q4 hw => ?_
      refine st (G.plus H D) F4 H4 σ4 en4 _ _ _ R4 q4 xr0 fun b F5 H5 en5 e5 R5 q5 => ?_
      have e25 : Same F2 F5 := (e3.trans e4).trans e5
      cases b with
      | false =>
        obtain ⟨R6, T6⟩ := T2.minus n0 R5 e25
        refine ⟨F5, en5, acc, e2.trans e25, R6.rewipe hw, ⟨T6.nf, T6.at_, T6.n0, fun i b e h1 h2 => ?_⟩, q5⟩
        obtain ⟨h3, h4⟩ := wipeE_get h1
        rw [wipe_get h4] at h2
        have h5 : (wipe σ4 vs)[i]? = (wipe σ vs)[i]? := by rw [hw]
        rw [wipe_get h4, wipe_get h4, h2] at h5
        exact T6.ns i b e h3 h5
      | true =>
        refine se (G.plus H D) F5 H5 σ4 en5 _ _ _ R5 q5 xr0 fun z dz F6 H6 en6 e6 R6 i6 q6 => ?_
        obtain ⟨R7, T7⟩ := T2.minus n0 R6 (e25.trans e6)
        obtain ⟨vs', hv, lv⟩ := T7.at_
        obtain ⟨R8, T8⟩ := T7.push R7 hv i6
        refine ⟨vs', hv, by rw [lv.length]; exact q6.1, F6, en6, acc ++ [dz], e2.trans (e25.trans e6), R8.rewipe hw, ⟨T8.nf, T8.at_, T8.n0, fun i b e h1 h2 => ?_⟩, q6.2⟩
        obtain ⟨h3, h4⟩ := wipeE_get h1
        rw [wipe_get h4] at h2
        have h5 : (wipe σ4 vs)[i]? = (wipe σ vs)[i]? := by rw [hw]
        rw [wipe_get h4, wipe_get h4, h2] at h5
        exact T8.ns i b e h3 h5
    · have e : i = ds.length := by omega
      subst e
      rw [List.drop_length] at q2
      refine .inl ⟨it.stop F2 H e2 R2.le, ?_⟩
      have R3 := R1.back (en := wipeE en2 vs) e2 R2
      have eb : backE en1 (wipeE en2 vs) vs = backE en1 en2 vs := backE_wipe
      rw [eb] at R3
      refine k D _ F2 H _ (e1.trans e2) R3 ⟨T2.nf, ?_, T2.n0, fun i b e h1 h2 => ?_⟩ q2
      · obtain ⟨vs', hv, lv⟩ := T2.at_
        exact ⟨vs', hv, lv⟩
      · rw [← eb] at h1
        rcases backE_fz h1 with ⟨n1, m1⟩ | ⟨_, d', z, _⟩
        · exact T2.ns i b e m1 (by rw [wipe_get n1]; exact h2)
        · cases z⟩
end
end DL

/-! The D layer, part 8: more statements, isinstance by tables, what the head tells. -/
namespace DL
open PySem L2

section
variable {X : Cx} {W : WX} {K : KW}
theorem sim_set {i : Nat} {te : TE} {td : TDE} (h : Sim K W te td) : SimS K W (tAsg te (gName i)) (dSet i td) := fun G F H σ en D' B R q k => h G F H σ en _ _ _ R q k.ex fun v d F1 H1 en1 e1 R1 i1 q1 => k.nx F1 H1 _ _ (R1.put i1) q1
def tGS (t : TS) : TS := fun D σ H => t { D with nx := fun σ' H' => Lk (D.nx σ') H' } σ H
theorem ps_GS {X : Cx} {st : Stmt} {t : TS} (h : PS X st t) : PS X st (tGS t) := by
  refine ⟨fun pins s σ H D I hw => ?_⟩
  refine thn (h.run pins s σ _ _ I hw) fun f s1 q => ?_
  cases f with
  | next => obtain ⟨σ', H', I2, q⟩ := q; obtain ⟨H2, I3, q3⟩ := lk_inv q I2; exact ⟨σ', H2, I3, q3⟩
  | brk => exact q
  | cont => exact q
  | ret v => exact q
theorem sim_setG {i : Nat} {te : TE} {td : TDE} (h : SimO K W te td) : SimS K W (tGS (tAsg te (gName i))) (dSet i td) := fun G F H σ en D' B R q k => h G F H σ en _ _ _ R q k.ex fun a d F1 H1 en1 e1 R1 T1 q1 => T1.freeze R1 fun F2 H2 e2 R2 i2 => k.nx F2 H2 _ _ (R2.put i2) q1
theorem sim_setO {i : Nat} {te : TE} {td : TDE} (h : SimO K W te td) : SimS K W (tAsg te (gName i)) (dSetO i td) := fun G F H σ en D' B R q k => h G F H σ en _ _ _ R q k.ex fun a d F1 H1 en1 e1 R1 T1 q1 => k.nx F1 H1 _ _ (R1.putO T1) q1
section
variable {i : Nat} {y : Str} {py : Pos} {elt tg iter : Expr} {ifs : List Expr} {scope : Scope} {own : List (Str × Nat)} {pos spos : Pos} {wi : TI} {di : TDI} {g : TG} {gd : TDG} {tt : TT} {td : TDT} {te : TE} {ed : TDE}
/-- y = [..] on one line -/
theorem ps_lcS (hc : X.calm = true) (hN : X.N.Nodup) (hy : X.N[i]? = some y) (hyl : X.env.scope.names.lookup y = some .local) (hsw : swapsWith (.ListComp elt [⟨tg, iter, ifs, 0⟩] scope pos) (some (.Name y py)) spos.line X.env = pure true) (hi : DI X W tg iter wi di) (ok : BlkOk X.N X.env.scope scope own)
    (ho : OwnTg g (own.map (·.2)))
    (hg0 : DG (X.blk X.s_0 X.H_0 scope (compEnvC scope [] 0 X.env) []) tg g gd) (hg : ∀ (s : Shared) (H : Hp) (C : Addr) (cl : List (Str × Addr)) (fp : List Addr), DG (X.blk s H scope (compEnvC scope cl C X.env) fp) tg g gd) (ht0 : DTs (X.blk X.s_0 X.H_0 scope (compEnvC scope [] 0 X.env) []) ifs tt td) (ht : ∀ (s : Shared) (H : Hp) (C : Addr) (cl : List (Str × Addr)) (fp : List Addr), DTs (X.blk s H scope (compEnvC scope cl C X.env) fp) ifs tt td)
    (he0 : DE (X.blk X.s_0 X.H_0 scope (compEnvC scope [] 0 X.env) []) W0 elt te ed) (he : ∀ (s : Shared) (H : Hp) (C : Addr) (cl : List (Str × Addr)) (fp : List Addr), DE (X.blk s H scope (compEnvC scope cl C X.env) fp) W0 elt te ed) (hs : ∀ x, foldedSetIterable iter X.env x = pure x := by intro _; rfl) :
    PS X (.Assign [.Name y py] (.ListComp elt [⟨tg, iter, ifs, 0⟩] scope pos) spos) (tAsg (tLc wi g tt te (own.map (·.2))) (gName i)) ∧ SimO (kk X) W (tLc wi g tt te (own.map (·.2))) (dLc (own.map (·.2)) di gd td ed) :=
  ⟨ps_setLc hc hN hy hyl hsw hi.pi ok (fun s H C cl fp => (hg s H C cl fp).pg) (fun s H C cl fp => (ht s H C cl fp).pts) (fun s H C cl fp => (he s H C cl fp).pe) hs, (do_lc (pos := pos) hc hN hi ok ho hg0 hg ht0 ht he0 he hs).sim⟩
theorem ds_lc (h : PS X (.Assign [.Name y py] (.ListComp elt [⟨tg, iter, ifs, 0⟩] scope pos) spos) (tAsg (tLc wi g tt te (own.map (·.2))) (gName i)) ∧ SimO (kk X) W (tLc wi g tt te (own.map (·.2))) (dLc (own.map (·.2)) di gd td ed)) :
    DS X W (.Assign [.Name y py] (.ListComp elt [⟨tg, iter, ifs, 0⟩] scope pos) spos) (tGS (tAsg (tLc wi g tt te (own.map (·.2))) (gName i))) (dSet i (dLc (own.map (·.2)) di gd td ed)) := ⟨ps_GS h.1, sim_setG h.2⟩
theorem ds_lcO (h : PS X (.Assign [.Name y py] (.ListComp elt [⟨tg, iter, ifs, 0⟩] scope pos) spos) (tAsg (tLc wi g tt te (own.map (·.2))) (gName i)) ∧ SimO (kk X) W (tLc wi g tt te (own.map (·.2))) (dLc (own.map (·.2)) di gd td ed)) :
    DS X W (.Assign [.Name y py] (.ListComp elt [⟨tg, iter, ifs, 0⟩] scope pos) spos) (tAsg (tLc wi g tt te (own.map (·.2))) (gName i)) (dSetO i (dLc (own.map (·.2)) di gd td ed)) := ⟨h.1, sim_setO h.2⟩
end
end

/-! ### isinstance by tables -/
def inCs (cs : List String) (b : Bool) (C : String) : Option Bool := if C ∈ cs then some b else none
def isiInt (cs : List String) : D → Option Bool
  | .int _ => some true | .bl _ => some true | .obj C _ _ => inCs cs false C
  | _ => some false
def isiBool (cs : List String) : D → Option Bool
  | .bl _ => some true | .obj C _ _ => inCs cs false C
  | _ => some false
def isiStr (cs : List String) : D → Option Bool
  | .str _ => some true | .obj C _ _ => inCs cs false C
  | _ => some false
def isiTup (cs : List String) : D → Option Bool
  | .tup _ => some true | .obj C _ _ => inCs cs false C
  | _ => some false
def isiLst (cs : List String) : D → Option Bool
  | .lst _ => some true | .lck _ => some true | .obj C _ _ => inCs cs false C
  | _ => some false
def isiDct (cs : List String) : D → Option Bool
  | .dct _ _ => some true | .obj C _ _ => inCs cs false C
  | _ => some false
/-- an own class: subs, it and those below it; cs, the others -/
def isiCls (subs cs : List String) : D → Option Bool
  | .obj C _ _ => if C ∈ subs then some true else inCs cs false C
  | _ => some false
def isiCB (K : Fg) (C : Addr) : Bool := PySem.W.plainGet K C Str.empty && (PySem.W.hasDictIn K C && (PySem.W.plainOver K C && (He.eqO (PySem.W.findIn K (.ref C) "__setattr__") (some (some (.builtin "object.__setattr__"))) &&
  (He.eqO (PySem.W.findIn K (.ref C) "__class__") (some (some (.builtin "object.__class__"))) && (He.eqO (PySem.W.specialIn K (.builtin "object.__class__") "__get__") (some (some (.builtin "getset_descriptor.__get__"))) &&
  (decide (PySem.W.takesIn K (.builtin "object.__class__") = some true) && decide (PySem.W.mroIn K C (.type "object") = some true)))))))
theorem isiCB_ok {K : Fg} {C : Addr} (h : isiCB K C = true) : IsiC K C := by
  obtain ⟨h1, h⟩ := He.ba h
  obtain ⟨h2, h⟩ := He.ba h
  obtain ⟨h3, h⟩ := He.ba h
  obtain ⟨h4, h⟩ := He.ba h
  obtain ⟨h5, h⟩ := He.ba h
  obtain ⟨h6, h⟩ := He.ba h
  obtain ⟨h7, h8⟩ := He.ba h
  exact ⟨⟨h1, h2, h3, He.eqO_ok h4⟩, He.eqO_ok h5, He.eqO_ok h6, of_decide_eq_true h7, of_decide_eq_true h8⟩
def kindsD (cs : List String) : List D := [D.non, .bl true, .int 0, .str Str.empty, .tup [], .lst [], .lck [], .dct [] []] ++ cs.map fun C => D.obj C [] []
/-- the answers for the kinds of data, for the own classes -/
def isiChk (K : Fg) (c : Value) (b : D → Option Bool) (cs : List String) : Bool :=
  (kindsD cs).all fun d => match b d with
    | some k => decide (PySem.W.kitOne K (tyVal K (tyD d)) c = some k) && (match d with
      | .obj C _ _ => isiCB K (He.ga K C)
      | _ => true)
    | none => true
theorem isi_at {K : Fg} {c : Value} {b : D → Option Bool} {cs : List String} (h : isiChk K c b cs = true) {d d' : D} {k : Bool} (m : d' ∈ kindsD cs)
    (e : tyD d = tyD d') (eb : b d = b d') (hk : b d = some k) : PySem.W.kitOne K (tyVal K (tyD d)) c = some k ∧ ∀ C ns vs, d' = .obj C ns vs → IsiC K (He.ga K C) := by
  have h1 := List.all_eq_true.mp h d' m
  rw [← eb, hk] at h1
  obtain ⟨h2, h3⟩ := He.ba h1
  rw [e]
  refine ⟨of_decide_eq_true h2, fun C ns vs q => ?_⟩
  subst q
  exact isiCB_ok h3
theorem isi_ok {K : Fg} {c : Value} {b : D → Option Bool} {cs : List String} (h : isiChk K c b cs = true) (u1 : ∀ x, b (.bl x) = b (.bl true)) (u2 : ∀ x, b (.int x) = b (.int 0)) (u3 : ∀ x, b (.str x) = b (.str Str.empty)) (u4 : ∀ x, b (.tup x) = b (.tup [])) (u5 : ∀ x, b (.lst x) = b (.lst []))
    (u6 : ∀ x, b (.lck x) = b (.lck [])) (u7 : ∀ x y, b (.dct x y) = b (.dct [] [])) (u8 : ∀ C x y, b (.obj C x y) = b (.obj C [] [])) (u9 : ∀ C k, b (.obj C [] []) = some k → C ∈ cs) : IsiOk K c b := by
  intro d k hk
  cases d with
  | non => exact ⟨(isi_at (d := .non) h (d' := .non) (by simp [kindsD]) rfl rfl hk).1, fun _ _ _ z => nomatch z⟩
  | bl x => exact ⟨(isi_at (d := .bl x) h (d' := .bl true) (by simp [kindsD]) rfl (u1 x) hk).1, fun _ _ _ z => nomatch z⟩
  | int x => exact ⟨(isi_at (d := .int x) h (d' := .int 0) (by simp [kindsD]) rfl (u2 x) hk).1, fun _ _ _ z => nomatch z⟩
  | str x => exact ⟨(isi_at (d := .str x) h (d' := .str Str.empty) (by simp [kindsD]) rfl (u3 x) hk).1, fun _ _ _ z => nomatch z⟩
  | tup x => exact ⟨(isi_at (d := .tup x) h (d' := .tup []) (by simp [kindsD]) rfl (u4 x) hk).1, fun _ _ _ z => nomatch z⟩
  | lst x => exact ⟨(isi_at (d := .lst x) h (d' := .lst []) (by simp [kindsD]) rfl (u5 x) hk).1, fun _ _ _ z => nomatch z⟩
  | lck x => exact ⟨(isi_at (d := .lck x) h (d' := .lck []) (by simp [kindsD]) rfl (u6 x) hk).1, fun _ _ _ z => nomatch z⟩
  | dct x y => exact ⟨(isi_at (d := .dct x y) h (d' := .dct [] []) (by simp [kindsD]) rfl (u7 x y) hk).1, fun _ _ _ z => nomatch z⟩
  | obj C x y =>
    have hC : C ∈ cs := u9 C k (by rw [← u8 C x y]; exact hk)
    obtain ⟨h1, h2⟩ := isi_at (d := .obj C x y) h (d' := .obj C [] []) (by simp [kindsD, hC]) rfl (u8 C x y) hk
    exact ⟨h1, fun C' ns vs z => by cases z; exact h2 C [] [] rfl⟩
theorem inCs_of {cs : List String} {b : Bool} {C : String} {k : Bool} (h : inCs cs b C = some k) : C ∈ cs := by
  unfold inCs at h
  split at h
  · assumption
  · cases h
section
variable {K : Fg} {cs subs : List String} {c : Value}
theorem isiInt_ok (h : isiChk K c (isiInt cs) cs = true) : IsiOk K c (isiInt cs) := isi_ok h (fun _ => rfl) (fun _ => rfl) (fun _ => rfl) (fun _ => rfl) (fun _ => rfl) (fun _ => rfl) (fun _ _ => rfl) (fun _ _ _ => rfl) fun _ _ z => inCs_of z
theorem isiBool_ok (h : isiChk K c (isiBool cs) cs = true) : IsiOk K c (isiBool cs) := isi_ok h (fun _ => rfl) (fun _ => rfl) (fun _ => rfl) (fun _ => rfl) (fun _ => rfl) (fun _ => rfl) (fun _ _ => rfl) (fun _ _ _ => rfl) fun _ _ z => inCs_of z
theorem isiStr_ok (h : isiChk K c (isiStr cs) cs = true) : IsiOk K c (isiStr cs) := isi_ok h (fun _ => rfl) (fun _ => rfl) (fun _ => rfl) (fun _ => rfl) (fun _ => rfl) (fun _ => rfl) (fun _ _ => rfl) (fun _ _ _ => rfl) fun _ _ z => inCs_of z
theorem isiTup_ok (h : isiChk K c (isiTup cs) cs = true) : IsiOk K c (isiTup cs) := isi_ok h (fun _ => rfl) (fun _ => rfl) (fun _ => rfl) (fun _ => rfl) (fun _ => rfl) (fun _ => rfl) (fun _ _ => rfl) (fun _ _ _ => rfl) fun _ _ z => inCs_of z
theorem isiLst_ok (h : isiChk K c (isiLst cs) cs = true) : IsiOk K c (isiLst cs) := isi_ok h (fun _ => rfl) (fun _ => rfl) (fun _ => rfl) (fun _ => rfl) (fun _ => rfl) (fun _ => rfl) (fun _ _ => rfl) (fun _ _ _ => rfl) fun _ _ z => inCs_of z
theorem isiDct_ok (h : isiChk K c (isiDct cs) cs = true) : IsiOk K c (isiDct cs) := isi_ok h (fun _ => rfl) (fun _ => rfl) (fun _ => rfl) (fun _ => rfl) (fun _ => rfl) (fun _ => rfl) (fun _ _ => rfl) (fun _ _ _ => rfl) fun _ _ z => inCs_of z
theorem isiCls_ok (h : isiChk K c (isiCls subs cs) (subs ++ cs) = true) : IsiOk K c (isiCls subs cs) := isi_ok h (fun _ => rfl) (fun _ => rfl) (fun _ => rfl) (fun _ => rfl) (fun _ => rfl) (fun _ => rfl) (fun _ _ => rfl) (fun _ _ _ => rfl) fun C k z => by
  have z : (if C ∈ subs then some true else inCs cs false C) = some k := z
  split at z
  · exact List.mem_append_left _ (by assumption)
  · exact List.mem_append_right _ (inCs_of z)
end

/-! ### the head's facts -/
/-- a def as it stands behind the top: where, its row's own text -/
structure DefX where
  at_ : Fg → Addr
  name : Str
  qual : Str
  params : Arguments
  body : List Stmt
  scope : Scope
  dfl : List He.Dv := []
  kwd : List (Str × He.Dv) := []
  clos : List Str := []
abbrev FnWX : Type := Option (Str × Str × Arguments × FuncBody × Scope × Addr × List Str × Addr)
def fnAt (K : Fg) (a : Addr) : FnWX := match K.lookup a with
  | some ⟨_, _, .func fd, _⟩ => some (fd.name, fd.qualname, fd.params, fd.body, fd.scope, fd.globals, fd.closure.map (·.1), fd.builtins)
  | _ => none
def DefX.val (d : DefX) : FnWX := some (d.name, d.qual, d.params, .stmts d.body, d.scope, mainGlobals, d.clos, builtinsNs)
def DefX.dvs (K : Fg) (d : DefX) : List V := d.dfl.map (He.Dv.v K)
def DefX.kws (K : Fg) (d : DefX) : List (Str × V) := d.kwd.map fun q => (q.1, q.2.v K)
def DefX.ok (K : Fg) (d : DefX) : Bool := PySem.W.keepIn K (.ref (d.at_ K)) && (match K.lookup (d.at_ K) with
  | some ⟨_, _, .func fd, _⟩ => PySem.W.codeIn K fd.code d.qual && (He.dflB K fd.defaults (d.dvs K) && He.kwdB K fd.kwdefaults (d.kws K))
  | _ => false)
theorem DefX.funC {K : Fg} {d : DefX} (e : fnAt K (d.at_ K) = d.val) (c : d.ok K = true) : ∃ (cl : List (Str × Addr)) (oc : Value) (od : Option Addr) (dV kV doc pm : Value) (an : Option Addr) (cdv ct : Value) (osl : Array (Option Value)), cl.map (·.1) = d.clos ∧
    K.lookup (d.at_ K) = some ⟨oc, od, .func (PySem.W.fnX d.name d.qual d.params d.body d.scope cl dV kV doc pm an cdv ct), osl⟩ ∧ PySem.W.codeIn K cdv d.qual = true ∧ DflV K dV (d.dvs K) ∧ KwdV K kV (d.kws K) ∧ PySem.W.keepIn K (.ref (d.at_ K)) = true := by
  obtain ⟨kp, c2⟩ := He.ba c
  unfold fnAt at e
  cases q : K.lookup (d.at_ K) with
  | none => rw [q] at c2; cases c2
  | some o =>
    obtain ⟨oc, od, dt, osl⟩ := o
    rw [q] at c2 e
    cases dt with
    | func fd =>
      obtain ⟨n1, n2, n3, n4, n5, n6, n7, n8, n9, n10, n11, n12, n13, n14, n15⟩ := fd
      have e2 : (some (n1, n2, n3, n4, n5, n6, n7.map (·.1), n15) : FnWX) = some (d.name, d.qual, d.params, .stmts d.body, d.scope, mainGlobals, d.clos, builtinsNs) := e
      simp only [Option.some.injEq, Prod.mk.injEq] at e2
      obtain ⟨h1, h2, h3, h4, h5, h6, h7, h8⟩ := e2
      subst h1 h2 h3 h4 h5 h6 h8
      obtain ⟨k1, k2⟩ := He.ba (show (PySem.W.codeIn K n13 d.qual && (He.dflB K n8 (d.dvs K) && He.kwdB K n9 (d.kws K))) = true from c2)
      obtain ⟨k3, k4⟩ := He.ba k2
      exact ⟨n7, oc, od, n8, n9, n10, n11, n12, n13, n14, osl, h7, rfl, k1, He.dflB_ok k3, He.kwdB_ok k4, kp⟩
    | _ => cases c2
theorem DefX.funD {K : Fg} {d : DefX} (h0 : d.clos = []) (e : fnAt K (d.at_ K) = d.val) (c : d.ok K = true) : ∃ fd, FunD K d.name d.qual d.params d.body d.scope (d.dvs K) (d.kws K) (d.at_ K) fd := by
  obtain ⟨cl, oc, od, dV, kV, doc, pm, an, cdv, ct, osl, hc, q, k1, k3, k4, kp⟩ := DefX.funC e c
  rw [h0] at hc
  have hc : cl = [] := List.map_eq_nil_iff.mp hc
  subst hc
  exact ⟨_, ⟨oc, od, dV, kV, doc, pm, an, cdv, ct, osl, rfl, q, k1, k3, k4⟩, kp⟩
abbrev AlX : Type := (Bool × List FnWX) × List (Option (List (Option (Str × Int))))
def obsX (fx : List (Fg → Bool)) (fn : List DefX) (ts : List He.Tab) (K : Fg) : AlX := (((fx.all fun f => f K) && fn.all fun d => d.ok K, fn.map fun d => fnAt K (d.at_ K)), ts.map fun t => He.dicW K (t.1 K))
def valX (fn : List DefX) (ts : List He.Tab) (w : World) : AlX := ((true, fn.map DefX.val), ts.map fun t => some (He.keysIn w.params t.2))
def SaysX (fx : List (Fg → Bool)) (fn : List DefX) (ts : List He.Tab) (w : World) (K : Fg) : Prop := obsX fx fn ts K = valX fn ts w
def obsXG (n : Nat) (fx : List (Fg → Bool)) (fn : List DefX) (ts : List He.Tab) (g : Addr → Option Obj) : AlX := obsX fx fn ts (He.frG g (He.asD g n ++ [PySem.cStatics]))
def hookX (n : Nat) (fx : List (Fg → Bool)) (fn : List DefX) (ts : List He.Tab) : PySem.W.Hook where
  α := AlX
  obs := fun s => obsXG n fx fn ts s.heap.get?
  val := fun w => valX fn ts w
  says := fun w h => ∃ K : Fg, K.In h ∧ SaysX fx fn ts w K
  of := fun _ _ e => ⟨_, He.frG_in, e⟩
  keeps := fun _ _ _ ⟨K, hK, c⟩ k => ⟨K, PySem.W.Frag.In.keeps hK k, c⟩
theorem obsXG_eq {n : Nat} {fx : List (Fg → Bool)} {fn : List DefX} {ts : List He.Tab} {g : Addr → Option Obj} {s : Shared} (h : ∀ a, g a = s.heap.get? a) : obsXG n fx fn ts g = (hookX n fx fn ts).obs s := by
  have e : g = s.heap.get? := funext h
  rw [e] <;> rfl
section
variable {fx : List (Fg → Bool)} {fn : List DefX} {ts : List He.Tab} {w : World} {K : Fg}
theorem SaysX.fact (c : SaysX fx fn ts w K) (i : Nat) {f : Fg → Bool} (h : fx[i]? = some f := by rfl) : f K = true := by
  have c1 := (He.ba (show ((fx.all fun f => f K) && fn.all fun d => d.ok K) = true from congrArg (fun z : AlX => z.1.1) c)).1
  exact List.all_eq_true.mp c1 f (List.mem_of_getElem? h)
theorem SaysX.defC (c : SaysX fx fn ts w K) (i : Nat) {d : DefX} (h : fn[i]? = some d := by rfl) : fnAt K (d.at_ K) = d.val ∧ d.ok K = true := by
  have c2 := (He.ba (show ((fx.all fun f => f K) && fn.all fun d => d.ok K) = true from congrArg (fun z : AlX => z.1.1) c)).2
  have e : fn.map (fun d => fnAt K (d.at_ K)) = fn.map DefX.val := congrArg (fun z : AlX => z.1.2) c
  have e2 : (fn.map fun d => fnAt K (d.at_ K))[i]? = (fn.map DefX.val)[i]? := by rw [e]
  rw [List.getElem?_map, List.getElem?_map, h] at e2
  exact ⟨Option.some.inj e2, List.all_eq_true.mp c2 d (List.mem_of_getElem? h)⟩
theorem SaysX.def_ (c : SaysX fx fn ts w K) (i : Nat) {d : DefX} (h : fn[i]? = some d := by rfl) (h0 : d.clos = [] := by rfl) : ∃ fd, FunD K d.name d.qual d.params d.body d.scope (d.dvs K) (d.kws K) (d.at_ K) fd :=
  DefX.funD h0 (c.defC i h).1 (c.defC i h).2
theorem SaysX.tab (c : SaysX fx fn ts w K) (i : Nat) {t : He.Tab} (h : ts[i]? = some t := by rfl) : ∃ es n, KDict K w (t.1 K) es n := by
  have e : ts.map (fun t => He.dicW K (t.1 K)) = ts.map fun t => some (He.keysIn w.params t.2) := congrArg (fun z : AlX => z.2) c
  have e2 : (ts.map fun t => He.dicW K (t.1 K))[i]? = (ts.map fun t => some (He.keysIn w.params t.2))[i]? := by rw [e]
  rw [List.getElem?_map, List.getElem?_map, h] at e2
  exact He.dicW_ok (Option.some.inj e2)
end
/-- the facts, with the module's names -/
def TX (fx : List (Fg → Bool)) (fn : List DefX) (ts : List He.Tab) (w : World) (K : Fg) (mg : Str → Option Value) : Prop := ∃ h : Heap, K.In h ∧ h.Ns mainGlobals mg ∧ SaysX fx fn ts w K
/-- where a property's getter, a static method's def stands -/
def prA (K : Fg) (C f : Str) : Addr := match PySem.W.recIn K (He.ma K (He.ga K C) f) "property" with
  | some (.ref g :: _) => g
  | _ => 0
def stA (K : Fg) (C f : Str) : Addr := match PySem.W.recIn K (stP K C f) "staticmethod" with
  | some (.ref g :: _) => g
  | _ => 0
where stP (K : Fg) (C f : Str) : Addr := match PySem.W.findCls K (.ref (He.ga K C)) (.type "type") f with
  | some (.get _ (.ref p) _ _) => p
  | _ => 0
def prB (C f : Str) (K : Fg) : Bool := He.eqO (PySem.W.findIn K (.ref (He.ga K C)) f) (some (some (.ref (He.ma K (He.ga K C) f)))) && (He.eqO (PySem.W.specialIn K (.ref (He.ma K (He.ga K C) f)) "__get__") (some (some (.builtin "property.__get__"))) &&
  (decide (PySem.W.takesIn K (.ref (He.ma K (He.ga K C) f)) = some true) && (match PySem.W.recIn K (He.ma K (He.ga K C) f) "property" with
    | some (.ref _ :: _) => true
    | _ => false)))
theorem prB_ok {K : Fg} {C f : Str} (h : prB C f K = true) : PropOf K (He.ga K C) f (He.ma K (He.ga K C) f) (prA K C f) := by
  obtain ⟨h1, h⟩ := He.ba h
  obtain ⟨h2, h⟩ := He.ba h
  obtain ⟨h3, h4⟩ := He.ba h
  refine ⟨He.eqO_ok h1, He.eqO_ok h2, of_decide_eq_true h3, ?_⟩
  unfold prA
  split at h4
  · rename_i g rest e
    rw [e]
    exact ⟨rest, rfl⟩
  · cases h4
def stB (C f : Str) (K : Fg) : Bool := PySem.W.readsIn K (He.ga K C) (.type "type") && (He.eqO (PySem.W.specialIn K (.ref (He.ga K C)) "__getattribute__") (some (some (.builtin "type.__getattribute__"))) && ((match PySem.W.findCls K (.ref (He.ga K C)) (.type "type") f with
  | some (.get g (.ref _) o t) => decide (g = .builtin "staticmethod.__get__") && (decide (o = .none) && decide (t = .ref (He.ga K C)))
  | _ => false) && ((match PySem.W.recIn K (stA.stP K C f) "staticmethod" with
    | some (.ref _ :: _) => true
    | _ => false) && PySem.W.keepIn K (.ref (stA K C f)))))
theorem stB_ok {K : Fg} {C f : Str} (h : stB C f K = true) : Stat K (He.ga K C) (.type "type") f (stA.stP K C f) (stA K C f) := by
  obtain ⟨h1, h⟩ := He.ba h
  obtain ⟨h2, h⟩ := He.ba h
  obtain ⟨h3, h⟩ := He.ba h
  obtain ⟨h4, h5⟩ := He.ba h
  refine ⟨⟨h1, He.eqO_ok h2⟩, ?_, ?_, h5⟩
  · unfold stA.stP
    split at h3
    · rename_i g a o t e
      obtain ⟨k1, k⟩ := He.ba h3
      obtain ⟨k2, k3⟩ := He.ba k
      rw [e, of_decide_eq_true k1, of_decide_eq_true k2, of_decide_eq_true k3]
    · cases h3
  · unfold stA
    split at h4
    · rename_i g rest e
      rw [e]
      exact ⟨rest, rfl⟩
    · cases h4
/-- an own operator: the class is first in its order, the method is a def -/
def opB (C m : Str) (K : Fg) : Bool := PySem.W.selfFirst K (He.ga K C) && (He.eqO (PySem.W.findIn K (.ref (He.ga K C)) m) (some (some (.ref (He.ma K (He.ga K C) m)))) && PySem.W.isFn K (.ref (He.ma K (He.ga K C) m)))
theorem opB_ok {K : Fg} {C m : Str} (h : opB C m K = true) : BinOk K (He.ga K C) (He.ma K (He.ga K C) m) m := by
  obtain ⟨h1, h⟩ := He.ba h
  obtain ⟨h2, h3⟩ := He.ba h
  exact ⟨h1, He.eqO_ok h2, h3⟩
theorem BinOk.cmp {K : Fg} {C f : Addr} {m : Str} (h : BinOk K C f m) : CmpOk K C f m := ⟨h.at_, h.fn⟩
/-- the module's tuple of flat values -/
def tupB (x : Str) (vs : List He.Dv) (K : Fg) : Bool := He.tupB K x vs
end DL

/-! The D layer, part 9: what is never reached; a constant tuple's index. -/
namespace DL
open PySem L2

def tNeverE : TE := fun _ _ _ => False
def deNever : TDE := fun _ _ _ => False
section
variable {X : Cx} {W : WX} {K : Fg}
theorem de_never {e : Expr} : DE X W e tNeverE deNever := ⟨⟨fun _ _ _ _ _ _ h => h.elim⟩, fun _ _ _ _ _ _ _ _ _ q => q.elim⟩
theorem fnD_no {P : Program} {w : World} {mg : Str → Option Value} {base : Heap} {k : Nat} {f : Addr} {io : List Nat} : FnD P w K mg base k f io (fun _ _ _ => False) :=
  fun _ _ _ _ _ _ _ _ _ _ _ h => by
    obtain ⟨_, _, _, _, _, _, h, _⟩ := h
    exact h.elim
/-- a constant tuple has no attributes of its own -/
def tupNB (x : Str) (K : Fg) : Bool := match K.lookup (He.ga K x) with
  | some ⟨.type c, .none, _, _⟩ => decide (c = "tuple")
  | _ => false
theorem tupNB_ok {x : Str} {H : Hp} (h : tupNB x K = true) : tyV K "tuple" (.ref (He.ga K x)) H := by
  unfold tupNB at h
  split at h
  · rename_i c _ _ e
    exact .inr (.inl ⟨rfl, _, e, by rw [of_decide_eq_true h], rfl⟩)
  · cases h
def dTupIx (ys : List Str) (e : TDE) : TDE := fun en Q Qe => e en (fun d en1 => ∃ z j, d = .str z ∧ ys[j]? = some z ∧ (∀ m, m < j → ys[m]? ≠ some z) ∧ Q (.int (j : Nat)) en1) Qe
def tTupIx (K : Fg) (y : Str) (te : TE) : TE := tBM K "tuple" (fun x xs H Q => ∃ p, ∃ ys : List Str, ∃ z j, x = .ref p ∧ xs = [.str z] ∧ SqT K H p (ys.map V.str) ∧ ys[j]? = some z ∧ (∀ m, m < j → ys[m]? ≠ some z) ∧ Q (.int (j : Nat)) H) (tC (.ref (He.ga K y))) (tCons te tNil)
theorem de_tupIx {y : Str} {p apos cpos : Pos} {e : Expr} {ys : List Str} {te : TE} {td : TDE} (hg : Gl X y) (hm : X.mg y = some (.ref (He.ga X.K y))) (ht : tupNB y X.K = true) (hs : ∀ F, SqT X.K F (He.ga X.K y) (ys.map V.str)) (ha : DE X W e te td)
    (hd : (y == ("__debug__" : Str)) = false := by decide)
    (hbase : attributeBase (.Name y p) "index" X.env (eval (.Name y p) X.env) = eval (.Name y p) X.env := by rfl)
    (hfew : ((backTo cpos (starEach [e] X.env)).all (fun x => !x.1) && (backToKw cpos (keywordEach [] X.env)).all (fun x => x.1.isSome)
      && decide ([e].length + ([] : List Keyword).length + (if ([] : List Keyword).isEmpty then 0 else 1) < 30)) = true := by rfl)
    (hline : (apos.endLine == cpos.line) = true := by rfl) (hst : starEach [e] X.env = (false, eval e X.env) :: starEach [] X.env := by rfl) (hplain : (backTo cpos (starEach [] X.env)).any (·.1) = false := by rfl) :
    DE X W (.Call (.Attribute (.Name y p) "index" apos) [e] [] cpos) (tTupIx X.K y te) (dTupIx ys td) :=
  ⟨pe_bm PySem.F.plainAttrs_tuple PySem.F.slot_tuple_index PySem.F.type_tuple_index mt_tup_index (pe_const hg hm rfl hd) (pa_cons ha.pe pa_nil hst) hbase hfew hline hst hplain, fun G F H σ en Q Qd Qe R q x k => by
    refine ⟨tupNB_ok ht, ha.sim G F H σ en _ _ Qe R q x fun v d F1 H1 en1 e1 R1 i1 q1 => ?_⟩
    obtain ⟨z, j, rfl, h1, h2, q2⟩ := q1
    cases i1
    exact ⟨_, ys, z, j, rfl, rfl, hs _, h1, h2, k _ (.int (j : Nat)) F1 H1 en1 e1 R1 (by rfl) q2⟩⟩
end
end DL

/-! The D layer, part 10: what the readings unfold to. -/
namespace DL
open PySem L2

/-- ds[k] = d -/
def setD (ds : List D) (k : Int) (d : D) (Q : List D → Prop) : Prop := ∃ m, ixN ds.length k = some m ∧ Q (ds.set m d)
theorem atI_nonneg {α : Type} {l : List α} {i : Int} {j : Nat} (h : i = j) : atI l i = l[j]? := by
  subst h
  unfold atI ixN
  by_cases q : (j : Int) < l.length
  · simp [q]
  · simp only [q]
    have : ¬ j < l.length := by omega
    simp [this]
theorem ixN_nat {n : Nat} {i : Int} {j : Nat} (h : i = j) (h' : j < n) : ixN n i = some j := by
  subst h
  unfold ixN
  have : (j : Int) < n := by omega
  simp [this]
@[simp ↓] theorem r_C {d : D} {en : En} {Q : D → En → Prop} {Qe : Qx} : dC d en Q Qe = Q d en := by rfl
@[simp ↓] theorem r_Var {i : Nat} {en : En} {Q : D → En → Prop} {Qe : Qx} : dVar i en Q Qe = (match en[i]? with | some (some (.fz d)) => Q d en | some (some (.ow false d)) => Q d (en.set i (some (.fz d))) | _ => False) := by rfl
@[simp ↓] theorem r_Give {i : Nat} {en : En} {Q : D → En → Prop} {Qe : Qx} : dGive i en Q Qe = (match en[i]? with | some (some (.ow false d)) => Q d (en.set i none) | _ => False) := by rfl
@[simp ↓] theorem r_Op {rd : RD} {a b : TDE} {en : En} {Q : D → En → Prop} {Qe : Qx} : dOp rd a b en Q Qe = a en (fun x en1 => b en1 (fun y en2 => rd x y fun z => Q z en2) Qe) Qe := by rfl
@[simp ↓] theorem r_Un {rd : UD} {a : TDE} {en : En} {Q : D → En → Prop} {Qe : Qx} : dUn rd a en Q Qe = a en (fun x en1 => rd x fun z => Q z en1) Qe := by rfl
@[simp ↓] theorem r_Test {a : TDE} {en : En} {Q : Bool → En → Prop} {Qe : Qx} : dTest a en Q Qe = a en (fun d en1 => match d with | .bl b => Q b en1 | _ => False) Qe := by rfl
@[simp ↓] theorem r_Tru {a : TDE} {en : En} {Q : Bool → En → Prop} {Qe : Qx} : dTru a en Q Qe = a en (fun d en1 => match truD d with | some b => Q b en1 | none => False) Qe := by rfl
@[simp ↓] theorem r_Yes {en : En} {Q : Bool → En → Prop} {Qe : Qx} : dYes en Q Qe = Q true en := by rfl
@[simp ↓] theorem r_Chain {r1 r2 : RD} {a b c : TDE} {en : En} {Q : D → En → Prop} {Qe : Qx} : dChain r1 r2 a b c en Q Qe = a en (fun x en1 => b en1 (fun y en2 => r1 x y fun z => match z with | .bl true => c en2 (fun w en3 => r2 y w fun u => Q u en3) Qe | .bl false => Q (.bl false) en2 | _ => False) Qe) Qe := by rfl
@[simp ↓] theorem r_And {t u : TDT} {en : En} {Q : Bool → En → Prop} {Qe : Qx} : dAnd t u en Q Qe = t en (fun b en1 => if b = true then u en1 Q Qe else Q false en1) Qe := by rfl
@[simp ↓] theorem r_Or {t u : TDT} {en : En} {Q : Bool → En → Prop} {Qe : Qx} : dOr t u en Q Qe = t en (fun b en1 => if b = true then Q true en1 else u en1 Q Qe) Qe := by rfl
@[simp ↓] theorem r_Not {t : TDT} {en : En} {Q : Bool → En → Prop} {Qe : Qx} : dNot t en Q Qe = t en (fun b en1 => Q (!b) en1) Qe := by rfl
@[simp ↓] theorem r_If {t : TDT} {a b : TDE} {en : En} {Q : D → En → Prop} {Qe : Qx} : dIf t a b en Q Qe = t en (fun c en1 => if c = true then a en1 Q Qe else b en1 Q Qe) Qe := by rfl
@[simp ↓] theorem r_AndV {a b : TDE} {en : En} {Q : D → En → Prop} {Qe : Qx} : dAndV a b en Q Qe = a en (fun d en1 => match truD d with | some true => b en1 Q Qe | some false => Q d en1 | none => False) Qe := by rfl
@[simp ↓] theorem r_OrV {a b : TDE} {en : En} {Q : D → En → Prop} {Qe : Qx} : dOrV a b en Q Qe = a en (fun d en1 => match truD d with | some true => Q d en1 | some false => b en1 Q Qe | none => False) Qe := by rfl
@[simp ↓] theorem r_NotV {a : TDE} {en : En} {Q : D → En → Prop} {Qe : Qx} : dNotV a en Q Qe = a en (fun d en1 => match truD d with | some b => Q (.bl (!b)) en1 | none => False) Qe := by rfl
@[simp ↓] theorem r_Nil {en : En} {Q : List D → En → Prop} {Qe : Qx} : dNil en Q Qe = Q [] en := by rfl
@[simp ↓] theorem r_Cons {a : TDE} {r : TDA} {en : En} {Q : List D → En → Prop} {Qe : Qx} : dCons a r en Q Qe = a en (fun d en1 => r en1 (fun ds en2 => Q (d :: ds) en2) Qe) Qe := by rfl
@[simp ↓] theorem r_Tup {a : TDA} {en : En} {Q : D → En → Prop} {Qe : Qx} : dTup a en Q Qe = a en (fun ds en1 => ds.length ≤ sizeLine ∧ Q (.tup ds) en1) Qe := by rfl
@[simp ↓] theorem r_Lst {a : TDA} {en : En} {Q : D → En → Prop} {Qe : Qx} : dLst a en Q Qe = a en (fun ds en1 => ds.length ≤ sizeLine ∧ Q (.lst ds) en1) Qe := by rfl
@[simp ↓] theorem r_Next {B : DEnds} {en : En} : dNext B en = B.nx en := by rfl
@[simp ↓] theorem r_Seq {t u : TDS} {B : DEnds} {en : En} : dSeq t u B en = t { B with nx := u B } en := by rfl
@[simp ↓] theorem r_IfS {c : TDT} {t u : TDS} {B : DEnds} {en : En} : dIfS c t u B en = c en (fun b en1 => if b = true then t B en1 else u B en1) B.ex := by rfl
@[simp ↓] theorem r_Ret {e : TDE} {B : DEnds} {en : En} : dRet e B en = (B.fr = false ∧ e en B.rt B.ex) := by rfl
@[simp ↓] theorem r_RetO {e : TDE} {B : DEnds} {en : En} : dRetO e B en = (B.fr = true ∧ e en B.rt B.ex) := by rfl
@[simp ↓] theorem r_RetN {B : DEnds} {en : En} : dRetN B en = (B.fr = false ∧ B.rt .non en) := by rfl
@[simp ↓] theorem r_Drop {e : TDE} {B : DEnds} {en : En} : dDrop e B en = e en (fun _ en1 => B.nx en1) B.ex := by rfl
@[simp ↓] theorem r_Break {B : DEnds} {en : En} : dBreak B en = B.bk en := by rfl
@[simp ↓] theorem r_Cont {B : DEnds} {en : En} : dCont B en = B.ct en := by rfl
@[simp ↓] theorem r_Never {B : DEnds} {en : En} : dNever B en = False := by rfl
@[simp ↓] theorem r_deNever {en : En} {Q : D → En → Prop} {Qe : Qx} : deNever en Q Qe = False := by rfl
@[simp ↓] theorem r_Set {i : Nat} {e : TDE} {B : DEnds} {en : En} : dSet i e B en = e en (fun d en1 => B.nx (en1.set i (some (.fz d)))) B.ex := by rfl
@[simp ↓] theorem r_SetO {i : Nat} {e : TDE} {B : DEnds} {en : En} : dSetO i e B en = e en (fun d en1 => B.nx (en1.set i (some (.ow false d)))) B.ex := by rfl
@[simp ↓] theorem r_addI {i j : Int} {Q : D → Prop} : addD (.int i) (.int j) Q = Q (.int (i + j)) := by rfl
@[simp ↓] theorem r_addS {i j : Str} {Q : D → Prop} : addD (.str i) (.str j) Q = (i.length + j.length ≤ sizeLine ∧ Q (.str (i ++ j))) := by rfl
@[simp ↓] theorem r_addL {i j : List D} {Q : D → Prop} : addD (.lst i) (.lst j) Q = (i.length + j.length ≤ sizeLine ∧ Q (.lst (i ++ j))) := by rfl
@[simp ↓] theorem r_addT {i j : List D} {Q : D → Prop} : addD (.tup i) (.tup j) Q = (i.length + j.length ≤ sizeLine ∧ Q (.tup (i ++ j))) := by rfl
@[simp ↓] theorem r_subI {i j : Int} {Q : D → Prop} : subD (.int i) (.int j) Q = Q (.int (i - j)) := by rfl
@[simp ↓] theorem r_mulI {i j : Int} {Q : D → Prop} : mulD (.int i) (.int j) Q = ((CMul i j ∨ CMulW i j) ∧ Q (.int (i * j))) := by rfl
@[simp ↓] theorem r_divI {i j : Int} {Q : D → Prop} : divD (.int i) (.int j) Q = ((CDivN i j ∨ CDivW i j) ∧ Q (.int (i.fdiv j))) := by rfl
@[simp ↓] theorem r_modI {i j : Int} {Q : D → Prop} : modD (.int i) (.int j) Q = (j ≠ 0 ∧ Q (.int (i.fmod j))) := by rfl
@[simp ↓] theorem r_powI {i j : Int} {Q : D → Prop} : powD (.int i) (.int j) Q = (CPow i j ∧ Q (.int (i ^ j.toNat))) := by rfl
@[simp ↓] theorem r_negI {i : Int} {Q : D → Prop} : negD (.int i) Q = Q (.int (-i)) := by rfl
@[simp ↓] theorem r_lt {i j : Int} {Q : D → Prop} : ltD (.int i) (.int j) Q = Q (.bl (decide (i < j))) := by rfl
@[simp ↓] theorem r_le {i j : Int} {Q : D → Prop} : leD (.int i) (.int j) Q = Q (.bl (decide (i ≤ j))) := by rfl
@[simp ↓] theorem r_gt {i j : Int} {Q : D → Prop} : gtD (.int i) (.int j) Q = Q (.bl (decide (j < i))) := by rfl
@[simp ↓] theorem r_ge {i j : Int} {Q : D → Prop} : geD (.int i) (.int j) Q = Q (.bl (decide (j ≤ i))) := by rfl
@[simp ↓] theorem r_isN {n : Bool} {x : D} {Q : D → Prop} : isD n x .non Q = Q (.bl (isNon x != n)) := by rfl
@[simp ↓] theorem r_isB {n b : Bool} {x : D} {Q : D → Prop} : isD n x (.bl b) Q = Q (.bl (isBl b x != n)) := by rfl
@[simp ↓] theorem r_isNon  : isNon .non = true := by rfl
@[simp ↓] theorem r_eqI {i j : Int} {n : Bool} {Q : D → Prop} : eqBD n (.int i) (.int j) Q = Q (.bl (decide (i = j) != n)) := by rfl
@[simp ↓] theorem r_eqS {i j : Str} {n : Bool} {Q : D → Prop} : eqBD n (.str i) (.str j) Q = Q (.bl (decide (i = j) != n)) := by rfl
@[simp ↓] theorem r_eqB {i j : Bool} {n : Bool} {Q : D → Prop} : eqBD n (.bl i) (.bl j) Q = Q (.bl (decide (i = j) != n)) := by rfl
@[simp ↓] theorem r_eqN {n : Bool} {Q : D → Prop} : eqBD n .non .non Q = Q (.bl (true != n)) := by rfl
@[simp ↓] theorem r_eqNI {i : Int} {n : Bool} {Q : D → Prop} : eqBD n .non (.int i) Q = Q (.bl (false != n)) := by rfl
@[simp ↓] theorem r_eqIN {i : Int} {n : Bool} {Q : D → Prop} : eqBD n (.int i) .non Q = Q (.bl (false != n)) := by rfl
@[simp ↓] theorem r_eqSN {i : Str} {n : Bool} {Q : D → Prop} : eqBD n (.str i) .non Q = Q (.bl (false != n)) := by rfl
@[simp ↓] theorem r_eqNS {i : Str} {n : Bool} {Q : D → Prop} : eqBD n .non (.str i) Q = Q (.bl (false != n)) := by rfl
@[simp ↓] theorem r_eqIS {i : Int} {j : Str} {n : Bool} {Q : D → Prop} : eqBD n (.int i) (.str j) Q = Q (.bl (false != n)) := by rfl
@[simp ↓] theorem r_eqSI {i : Int} {j : Str} {n : Bool} {Q : D → Prop} : eqBD n (.str j) (.int i) Q = Q (.bl (false != n)) := by rfl
@[simp ↓ high] theorem r_ixL0 {a : D} {l : List D} {Q : D → Prop} : ixD (.lst (a :: l)) (.int 0) Q = Q a := propext ⟨fun ⟨d, h, q⟩ => by
  rw [atI_nonneg (i := 0) (j := 0) rfl] at h
  cases h
  exact q, fun q => ⟨_, (atI_nonneg (i := 0) (j := 0) rfl).trans rfl, q⟩⟩
@[simp ↓ high] theorem r_ixK0 {a : D} {l : List D} {Q : D → Prop} : ixD (.lck (a :: l)) (.int 0) Q = Q a := propext ⟨fun ⟨d, h, q⟩ => by
  rw [atI_nonneg (i := 0) (j := 0) rfl] at h
  cases h
  exact q, fun q => ⟨_, (atI_nonneg (i := 0) (j := 0) rfl).trans rfl, q⟩⟩
@[simp ↓ high] theorem r_ixT0 {a : D} {l : List D} {Q : D → Prop} : ixD (.tup (a :: l)) (.int 0) Q = Q a := propext ⟨fun ⟨d, h, q⟩ => by
  rw [atI_nonneg (i := 0) (j := 0) rfl] at h
  cases h
  exact q, fun q => ⟨_, (atI_nonneg (i := 0) (j := 0) rfl).trans rfl, q⟩⟩
@[simp ↓ high] theorem r_set0 {a z : D} {l : List D} {Q : List D → Prop} : setD (a :: l) 0 z Q = Q (z :: l) := propext ⟨fun ⟨m, h, q⟩ => by
  rw [ixN_nat (i := 0) (j := 0) rfl (by simp)] at h
  cases h
  exact q, fun q => ⟨0, ixN_nat rfl (by simp), q⟩⟩
@[simp ↓ high] theorem r_ixL1 {a b : D} {l : List D} {Q : D → Prop} : ixD (.lst (a :: b :: l)) (.int 1) Q = Q b := propext ⟨fun ⟨d, h, q⟩ => by
  rw [atI_nonneg (i := 1) (j := 1) rfl] at h
  cases h
  exact q, fun q => ⟨_, (atI_nonneg (i := 1) (j := 1) rfl).trans rfl, q⟩⟩
@[simp ↓ high] theorem r_ixK1 {a b : D} {l : List D} {Q : D → Prop} : ixD (.lck (a :: b :: l)) (.int 1) Q = Q b := propext ⟨fun ⟨d, h, q⟩ => by
  rw [atI_nonneg (i := 1) (j := 1) rfl] at h
  cases h
  exact q, fun q => ⟨_, (atI_nonneg (i := 1) (j := 1) rfl).trans rfl, q⟩⟩
@[simp ↓ high] theorem r_ixT1 {a b : D} {l : List D} {Q : D → Prop} : ixD (.tup (a :: b :: l)) (.int 1) Q = Q b := propext ⟨fun ⟨d, h, q⟩ => by
  rw [atI_nonneg (i := 1) (j := 1) rfl] at h
  cases h
  exact q, fun q => ⟨_, (atI_nonneg (i := 1) (j := 1) rfl).trans rfl, q⟩⟩
@[simp ↓ high] theorem r_set1 {a b z : D} {l : List D} {Q : List D → Prop} : setD (a :: b :: l) 1 z Q = Q (a :: z :: l) := propext ⟨fun ⟨m, h, q⟩ => by
  rw [ixN_nat (i := 1) (j := 1) rfl (by simp)] at h
  cases h
  exact q, fun q => ⟨1, ixN_nat rfl (by simp), q⟩⟩
@[simp ↓ high] theorem r_ixL2 {a b c : D} {l : List D} {Q : D → Prop} : ixD (.lst (a :: b :: c :: l)) (.int 2) Q = Q c := propext ⟨fun ⟨d, h, q⟩ => by
  rw [atI_nonneg (i := 2) (j := 2) rfl] at h
  cases h
  exact q, fun q => ⟨_, (atI_nonneg (i := 2) (j := 2) rfl).trans rfl, q⟩⟩
@[simp ↓ high] theorem r_ixK2 {a b c : D} {l : List D} {Q : D → Prop} : ixD (.lck (a :: b :: c :: l)) (.int 2) Q = Q c := propext ⟨fun ⟨d, h, q⟩ => by
  rw [atI_nonneg (i := 2) (j := 2) rfl] at h
  cases h
  exact q, fun q => ⟨_, (atI_nonneg (i := 2) (j := 2) rfl).trans rfl, q⟩⟩
@[simp ↓ high] theorem r_ixT2 {a b c : D} {l : List D} {Q : D → Prop} : ixD (.tup (a :: b :: c :: l)) (.int 2) Q = Q c := propext ⟨fun ⟨d, h, q⟩ => by
  rw [atI_nonneg (i := 2) (j := 2) rfl] at h
  cases h
  exact q, fun q => ⟨_, (atI_nonneg (i := 2) (j := 2) rfl).trans rfl, q⟩⟩
@[simp ↓ high] theorem r_set2 {a b c z : D} {l : List D} {Q : List D → Prop} : setD (a :: b :: c :: l) 2 z Q = Q (a :: b :: z :: l) := propext ⟨fun ⟨m, h, q⟩ => by
  rw [ixN_nat (i := 2) (j := 2) rfl (by simp)] at h
  cases h
  exact q, fun q => ⟨2, ixN_nat rfl (by simp), q⟩⟩
@[simp ↓ high] theorem r_ixL3 {a b c d : D} {l : List D} {Q : D → Prop} : ixD (.lst (a :: b :: c :: d :: l)) (.int 3) Q = Q d := propext ⟨fun ⟨d, h, q⟩ => by
  rw [atI_nonneg (i := 3) (j := 3) rfl] at h
  cases h
  exact q, fun q => ⟨_, (atI_nonneg (i := 3) (j := 3) rfl).trans rfl, q⟩⟩
@[simp ↓ high] theorem r_ixK3 {a b c d : D} {l : List D} {Q : D → Prop} : ixD (.lck (a :: b :: c :: d :: l)) (.int 3) Q = Q d := propext ⟨fun ⟨d, h, q⟩ => by
  rw [atI_nonneg (i := 3) (j := 3) rfl] at h
  cases h
  exact q, fun q => ⟨_, (atI_nonneg (i := 3) (j := 3) rfl).trans rfl, q⟩⟩
@[simp ↓ high] theorem r_ixT3 {a b c d : D} {l : List D} {Q : D → Prop} : ixD (.tup (a :: b :: c :: d :: l)) (.int 3) Q = Q d := propext ⟨fun ⟨d, h, q⟩ => by
  rw [atI_nonneg (i := 3) (j := 3) rfl] at h
  cases h
  exact q, fun q => ⟨_, (atI_nonneg (i := 3) (j := 3) rfl).trans rfl, q⟩⟩
@[simp ↓ high] theorem r_set3 {a b c d z : D} {l : List D} {Q : List D → Prop} : setD (a :: b :: c :: d :: l) 3 z Q = Q (a :: b :: c :: z :: l) := propext ⟨fun ⟨m, h, q⟩ => by
  rw [ixN_nat (i := 3) (j := 3) rfl (by simp)] at h
  cases h
  exact q, fun q => ⟨3, ixN_nat rfl (by simp), q⟩⟩
@[simp ↓ high] theorem r_ixL4 {a b c d e : D} {l : List D} {Q : D → Prop} : ixD (.lst (a :: b :: c :: d :: e :: l)) (.int 4) Q = Q e := propext ⟨fun ⟨d, h, q⟩ => by
  rw [atI_nonneg (i := 4) (j := 4) rfl] at h
  cases h
  exact q, fun q => ⟨_, (atI_nonneg (i := 4) (j := 4) rfl).trans rfl, q⟩⟩
@[simp ↓ high] theorem r_ixK4 {a b c d e : D} {l : List D} {Q : D → Prop} : ixD (.lck (a :: b :: c :: d :: e :: l)) (.int 4) Q = Q e := propext ⟨fun ⟨d, h, q⟩ => by
  rw [atI_nonneg (i := 4) (j := 4) rfl] at h
  cases h
  exact q, fun q => ⟨_, (atI_nonneg (i := 4) (j := 4) rfl).trans rfl, q⟩⟩
@[simp ↓ high] theorem r_ixT4 {a b c d e : D} {l : List D} {Q : D → Prop} : ixD (.tup (a :: b :: c :: d :: e :: l)) (.int 4) Q = Q e := propext ⟨fun ⟨d, h, q⟩ => by
  rw [atI_nonneg (i := 4) (j := 4) rfl] at h
  cases h
  exact q, fun q => ⟨_, (atI_nonneg (i := 4) (j := 4) rfl).trans rfl, q⟩⟩
@[simp ↓ high] theorem r_set4 {a b c d e z : D} {l : List D} {Q : List D → Prop} : setD (a :: b :: c :: d :: e :: l) 4 z Q = Q (a :: b :: c :: d :: z :: l) := propext ⟨fun ⟨m, h, q⟩ => by
  rw [ixN_nat (i := 4) (j := 4) rfl (by simp)] at h
  cases h
  exact q, fun q => ⟨4, ixN_nat rfl (by simp), q⟩⟩
@[simp ↓ high] theorem r_ixL5 {a b c d e f : D} {l : List D} {Q : D → Prop} : ixD (.lst (a :: b :: c :: d :: e :: f :: l)) (.int 5) Q = Q f := propext ⟨fun ⟨d, h, q⟩ => by
  rw [atI_nonneg (i := 5) (j := 5) rfl] at h
  cases h
  exact q, fun q => ⟨_, (atI_nonneg (i := 5) (j := 5) rfl).trans rfl, q⟩⟩
@[simp ↓ high] theorem r_ixK5 {a b c d e f : D} {l : List D} {Q : D → Prop} : ixD (.lck (a :: b :: c :: d :: e :: f :: l)) (.int 5) Q = Q f := propext ⟨fun ⟨d, h, q⟩ => by
  rw [atI_nonneg (i := 5) (j := 5) rfl] at h
  cases h
  exact q, fun q => ⟨_, (atI_nonneg (i := 5) (j := 5) rfl).trans rfl, q⟩⟩
@[simp ↓ high] theorem r_ixT5 {a b c d e f : D} {l : List D} {Q : D → Prop} : ixD (.tup (a :: b :: c :: d :: e :: f :: l)) (.int 5) Q = Q f := propext ⟨fun ⟨d, h, q⟩ => by
  rw [atI_nonneg (i := 5) (j := 5) rfl] at h
  cases h
  exact q, fun q => ⟨_, (atI_nonneg (i := 5) (j := 5) rfl).trans rfl, q⟩⟩
@[simp ↓ high] theorem r_set5 {a b c d e f z : D} {l : List D} {Q : List D → Prop} : setD (a :: b :: c :: d :: e :: f :: l) 5 z Q = Q (a :: b :: c :: d :: e :: z :: l) := propext ⟨fun ⟨m, h, q⟩ => by
  rw [ixN_nat (i := 5) (j := 5) rfl (by simp)] at h
  cases h
  exact q, fun q => ⟨5, ixN_nat rfl (by simp), q⟩⟩
@[simp ↓ high] theorem r_ixL6 {a b c d e f g : D} {l : List D} {Q : D → Prop} : ixD (.lst (a :: b :: c :: d :: e :: f :: g :: l)) (.int 6) Q = Q g := propext ⟨fun ⟨d, h, q⟩ => by
  rw [atI_nonneg (i := 6) (j := 6) rfl] at h
  cases h
  exact q, fun q => ⟨_, (atI_nonneg (i := 6) (j := 6) rfl).trans rfl, q⟩⟩
@[simp ↓ high] theorem r_ixK6 {a b c d e f g : D} {l : List D} {Q : D → Prop} : ixD (.lck (a :: b :: c :: d :: e :: f :: g :: l)) (.int 6) Q = Q g := propext ⟨fun ⟨d, h, q⟩ => by
  rw [atI_nonneg (i := 6) (j := 6) rfl] at h
  cases h
  exact q, fun q => ⟨_, (atI_nonneg (i := 6) (j := 6) rfl).trans rfl, q⟩⟩
@[simp ↓ high] theorem r_ixT6 {a b c d e f g : D} {l : List D} {Q : D → Prop} : ixD (.tup (a :: b :: c :: d :: e :: f :: g :: l)) (.int 6) Q = Q g := propext ⟨fun ⟨d, h, q⟩ => by
  rw [atI_nonneg (i := 6) (j := 6) rfl] at h
  cases h
  exact q, fun q => ⟨_, (atI_nonneg (i := 6) (j := 6) rfl).trans rfl, q⟩⟩
@[simp ↓ high] theorem r_set6 {a b c d e f g z : D} {l : List D} {Q : List D → Prop} : setD (a :: b :: c :: d :: e :: f :: g :: l) 6 z Q = Q (a :: b :: c :: d :: e :: f :: z :: l) := propext ⟨fun ⟨m, h, q⟩ => by
  rw [ixN_nat (i := 6) (j := 6) rfl (by simp)] at h
  cases h
  exact q, fun q => ⟨6, ixN_nat rfl (by simp), q⟩⟩
@[simp ↓] theorem r_ixL {l : List D} {i : Int} {Q : D → Prop} : ixD (.lst l) (.int i) Q = ∃ d, atI l i = some d ∧ Q d := by rfl
@[simp ↓] theorem r_ixK {l : List D} {i : Int} {Q : D → Prop} : ixD (.lck l) (.int i) Q = ∃ d, atI l i = some d ∧ Q d := by rfl
@[simp ↓] theorem r_ixT {l : List D} {i : Int} {Q : D → Prop} : ixD (.tup l) (.int i) Q = ∃ d, atI l i = some d ∧ Q d := by rfl
@[simp ↓] theorem r_ixV {i : Nat} {b : TDE} {en : En} {Q : D → En → Prop} {Qe : Qx} : dIxV i b en Q Qe = ((peek en i).isSome = true ∧ b en (fun y en2 => match peek en2 i with | some x => ixD x y fun z => Q z en2 | none => False) Qe) := by rfl
@[simp ↓] theorem r_peek {en : En} {i : Nat} : peek en i = (match en[i]? with | some (some (.fz d)) => some d | some (some (.ow _ d)) => some d | _ => none) := by rfl
@[simp ↓] theorem r_ownAt {en : En} {i : Nat} : ownAt en i = (match en[i]? with | some (some (.ow b d)) => some (b, d) | _ => none) := by rfl
@[simp ↓] theorem r_ownC {en : En} {i : Nat} : ownC en i = (match ownAt en i with | some (_, .lst _) => true | some (_, .dct _ _) => true | _ => false) := by rfl
@[simp ↓] theorem r_ownL {en : En} {i : Nat} : ownL en i = (match ownAt en i with | some (_, .lst _) => true | _ => false) := by rfl
@[simp ↓] theorem r_outAt {en : En} {i : Nat} : outAt en i = (match en[i]? with | some (some (.ow true d)) => some d | _ => none) := by rfl
@[simp ↓] theorem r_outs0 {en : En} : outsE [] en = some [] := by rfl
@[simp ↓] theorem r_outs1 {en : En} {i : Nat} {r : List Nat} : outsE (i :: r) en = (match outAt en i, outsE r en with | some d, some ds => some (d :: ds) | _, _ => none) := by rw [outsE] <;> rfl
@[simp ↓] theorem r_NoP {en : En} {Q : Option Int → En → Prop} {Qe : Qx} : dNoP en Q Qe = Q none en := by rfl
@[simp ↓] theorem r_SomeP {e : TDE} {en : En} {Q : Option Int → En → Prop} {Qe : Qx} : dSomeP e en Q Qe = e en (fun d en1 => match d with | .int i => Q (some i) en1 | _ => False) Qe := by rfl
@[simp ↓] theorem r_Sl {e : TDE} {l h : TDO} {en : En} {Q : D → En → Prop} {Qe : Qx} : dSl e l h en Q Qe = e en (fun x en1 => l en1 (fun lo en2 => h en2 (fun hi en3 => sliceD x lo hi fun z => Q z en3) Qe) Qe) Qe := by rfl
@[simp ↓] theorem r_SlL {e : TDE} {l h : TDO} {en : En} {Q : D → En → Prop} {Qe : Qx} : dSlL e l h en Q Qe = e en (fun x en1 => l en1 (fun lo en2 => h en2 (fun hi en3 => sliceL x lo hi fun z => Q z en3) Qe) Qe) Qe := by rfl
@[simp ↓] theorem r_SlV {i : Nat} {l h : TDO} {en : En} {Q : D → En → Prop} {Qe : Qx} : dSlV i l h en Q Qe = ((peek en i).isSome = true ∧ l en (fun lo en2 => h en2 (fun hi en3 => match peek en3 i with | some x => sliceL x lo hi fun z => Q z en3 | none => False) Qe) Qe) := by rfl
@[simp ↓] theorem r_slDL {x : List D} {lo hi : Option Int} {Q : D → Prop} : sliceD (.lst x) lo hi Q = Q (.lst (cutD x lo hi)) := by rfl
@[simp ↓] theorem r_slDK {x : List D} {lo hi : Option Int} {Q : D → Prop} : sliceD (.lck x) lo hi Q = Q (.lst (cutD x lo hi)) := by rfl
@[simp ↓] theorem r_slLL {x : List D} {lo hi : Option Int} {Q : D → Prop} : sliceL (.lst x) lo hi Q = Q (.lst (cutD x lo hi)) := by rfl
@[simp ↓] theorem r_slLK {x : List D} {lo hi : Option Int} {Q : D → Prop} : sliceL (.lck x) lo hi Q = Q (.lst (cutD x lo hi)) := by rfl
@[simp ↓] theorem r_slDT {x : List D} {lo hi : Option Int} {Q : D → Prop} : sliceD (.tup x) lo hi Q = Q (.tup (cutD x lo hi)) := by rfl
@[simp ↓] theorem r_slDS {x : Str} {lo hi : Option Int} {Q : D → Prop} : sliceD (.str x) lo hi Q = (x.length ≤ sizeLine ∧ Q (.str (cutS x lo hi))) := by rfl
@[simp ↓] theorem r_gName {i : Nat} {d : D} {en : En} {Q : En → Prop} : dgName i d en Q = Q (en.set i (some (.fz d))) := by rfl
@[simp ↓] theorem r_gTupT {n : Nat} {u : TDGs} {l : List D} {en : En} {Q : En → Prop} : dgTup n u (.tup l) en Q = (l.length = n ∧ u l en Q) := by rfl
@[simp ↓] theorem r_gNil {ds : List D} {en : En} {Q : En → Prop} : dgNil ds en Q = (ds = [] ∧ Q en) := by rfl
@[simp ↓] theorem r_gCons {t : TDG} {u : TDGs} {d : D} {r : List D} {en : En} {Q : En → Prop} : dgCons t u (d :: r) en Q = t d en fun en1 => u r en1 Q := by rfl
@[simp ↓] theorem r_Asg {e : TDE} {g : TDG} {B : DEnds} {en : En} : dAsg e g B en = e en (fun d en1 => g d en1 B.nx) B.ex := by rfl
@[simp ↓] theorem r_iSeq {e : TDE} {en : En} {Q : List D → En → Prop} {Qe : Qx} : diSeq e en Q Qe = e en (fun d en1 => match itemsD d with | some ds => Q ds en1 | none => False) Qe := by rfl
@[simp ↓] theorem r_itL {l : List D} : itemsD (.lst l) = some l := by rfl
@[simp ↓] theorem r_itK {l : List D} : itemsD (.lck l) = some l := by rfl
@[simp ↓] theorem r_itD {l m : List D} : itemsD (.dct l m) = some l := by rfl
@[simp ↓] theorem r_ixD {l m : List D} {j : D} {Q : D → Prop} : ixD (.dct l m) j Q = (fitD l j = true ∧ ∃ e, lkD l m j = some e ∧ Q e) := by rfl
@[simp ↓] theorem r_inDct {n : Bool} {l m : List D} {x : D} {Q : D → Prop} : inD n x (.dct l m) Q = (fitD l x = true ∧ Q (.bl ((lkD l m x).isSome != n))) := by rfl
@[simp ↓] theorem r_lenDD {l m : List D} : lenD1 (.dct l m) = some l.length := by rfl
@[simp ↓] theorem r_iVals {e : TDE} {en : En} {Q : List D → En → Prop} {Qe : Qx} : diVals e en Q Qe = e en (fun d en1 => match d with | .dct _ es => Q es en1 | _ => False) Qe := by rfl
@[simp ↓] theorem r_iItems {e : TDE} {en : En} {Q : List D → En → Prop} {Qe : Qx} : diItems e en Q Qe = e en (fun d en1 => match d with | .dct ds es => ds.length = es.length ∧ Q (pairsD ds es) en1 | _ => False) Qe := by rfl
@[simp ↓] theorem r_itT {l : List D} : itemsD (.tup l) = some l := by rfl
@[simp ↓] theorem r_iRng1 {t : TDA} {en : En} {Q : List D → En → Prop} {Qe : Qx} : diRng1 t en Q Qe = t en (fun ds en1 => match ds with | [.int j] => -(2 ^ 62) ≤ j ∧ j < 2 ^ 62 ∧ Q (rangeD 0 j.toNat) en1 | _ => False) Qe := by rfl
@[simp ↓] theorem r_iRng2 {t : TDA} {en : En} {Q : List D → En → Prop} {Qe : Qx} : diRng2 t en Q Qe = t en (fun ds en1 => match ds with | [.int i, .int j] => (-(2 ^ 62) ≤ i ∧ i < 2 ^ 62 ∧ -(2 ^ 62) ≤ j ∧ j < 2 ^ 62) ∧ Q (rangeD i (j - i).toNat) en1 | _ => False) Qe := by rfl
@[simp ↓] theorem r_For {it : TDI} {g : TDG} {b : TDS} {B : DEnds} {en : En} : dFor it g b B en = it en (fun ds en1 => loopD g b B ds en1) B.ex := by rfl
@[simp ↓] theorem r_Blt {c : CD} {a : TDA} {en : En} {Q : D → En → Prop} {Qe : Qx} : dBlt c a en Q Qe = a en (fun ds en1 => c ds fun z => Q z en1) Qe := by rfl
@[simp ↓] theorem r_len_lst {l : List D} {Q : D → Prop} : lenD [.lst l] Q = Q (.int l.length) := propext ⟨fun ⟨n, h, q⟩ => by
  cases h
  exact q, fun q => ⟨_, rfl, q⟩⟩
@[simp ↓] theorem r_len_lck {l : List D} {Q : D → Prop} : lenD [.lck l] Q = Q (.int l.length) := propext ⟨fun ⟨n, h, q⟩ => by
  cases h
  exact q, fun q => ⟨_, rfl, q⟩⟩
@[simp ↓] theorem r_len_tup {l : List D} {Q : D → Prop} : lenD [.tup l] Q = Q (.int l.length) := propext ⟨fun ⟨n, h, q⟩ => by
  cases h
  exact q, fun q => ⟨_, rfl, q⟩⟩
 theorem r_len {d : D} {Q : D → Prop} : lenD [d] Q = ∃ n, lenD1 d = some n ∧ Q (.int n) := by rfl
@[simp ↓] theorem r_lenL {l : List D} : lenD1 (.lst l) = some l.length := by rfl
@[simp ↓] theorem r_lenK {l : List D} : lenD1 (.lck l) = some l.length := by rfl
@[simp ↓] theorem r_lenT {l : List D} : lenD1 (.tup l) = some l.length := by rfl
@[simp ↓] theorem r_LenV {i : Nat} {en : En} {Q : D → En → Prop} {Qe : Qx} : dLenV i en Q Qe = (match peek en i with | some d => lenD [d] fun z => Q z en | none => False) := by rfl
@[simp ↓] theorem r_intI {i : Int} {Q : D → Prop} : intD [.int i] Q = Q (.int i) := by rfl
@[simp ↓] theorem r_intB {i : Bool} {Q : D → Prop} : intD [.bl i] Q = Q (.int (if i then 1 else 0)) := by rfl
@[simp ↓] theorem r_boolI {i : Int} {Q : D → Prop} : boolD [.int i] Q = Q (.bl (i != 0)) := by rfl
@[simp ↓] theorem r_boolB {i : Bool} {Q : D → Prop} : boolD [.bl i] Q = Q (.bl i) := by rfl
@[simp ↓] theorem r_Isi {b : D → Option Bool} {a : TDE} {en : En} {Q : D → En → Prop} {Qe : Qx} : dIsi b a en Q Qe = a en (fun d en1 => match b d with | some k => Q (.bl k) en1 | none => False) Qe := by rfl
@[simp ↓] theorem r_Fld {cs : List String} {f : String} {e : TDE} {en : En} {Q : D → En → Prop} {Qe : Qx} : dFld cs f e en Q Qe = e en (fun d en1 => match d with | .obj C ns vs => C ∈ cs ∧ ∃ x, getF ns vs f = some x ∧ Q x en1 | _ => False) Qe := by rfl
@[simp ↓] theorem r_FldV {i : Nat} {cs : List String} {f : String} {en : En} {Q : D → En → Prop} {Qe : Qx} : dFldV i cs f en Q Qe = (match peek en i with | some (.obj C ns vs) => C ∈ cs ∧ ∃ x, getF ns vs f = some x ∧ Q x en | _ => False) := by rfl
@[simp ↓] theorem r_FldS {i : Nat} {cs : List String} {f : String} {e : TDE} {B : DEnds} {en : En} : dFldS i cs f e B en = e en (fun d en1 => match ownAt en1 i with | some (b, .obj C ns vs) => C ∈ cs ∧ ns.length < 1000 ∧ B.nx (en1.set i (some (.ow b (.obj C (putF' ns vs f d).1 (putF' ns vs f d).2)))) | _ => False) B.ex := by rfl
@[simp ↓] theorem r_Meth {C m : String} {sd : SpD} {o : TDE} {a : TDA} {en : En} {Q : D → En → Prop} {Qe : Qx} : dMeth C m sd o a en Q Qe = o en (fun d en1 => match d with | .obj C' ns vs => C' = C ∧ m ∉ ns ∧ a en1 (fun ds en2 => sd (.obj C' ns vs :: ds) (fun r _ => Q r en2) fun x _ => Qe x en2) Qe | _ => False) Qe := by rfl
@[simp ↓] theorem r_Make {C : String} {sd : SpD} {a : TDA} {en : En} {Q : D → En → Prop} {Qe : Qx} : dMake C sd a en Q Qe = a en (fun ds en1 => sd (.obj C [] [] :: ds) (fun r outs => r = .non ∧ match outs with | [d] => Q d en1 | _ => False) fun x _ => Qe x en1) Qe := by rfl
@[simp ↓] theorem r_Prop {C : String} {sd : SpD} {o : TDE} {en : En} {Q : D → En → Prop} {Qe : Qx} : dProp C sd o en Q Qe = o en (fun d en1 => match d with | .obj C' ns vs => C' = C ∧ sd [.obj C' ns vs] (fun r _ => Q r en1) fun _ _ => False | _ => False) Qe := by rfl
@[simp ↓] theorem r_Own2 {C : String} {sd : SpD} {a b : TDE} {en : En} {Q : D → En → Prop} {Qe : Qx} : dOwn2 C sd a b en Q Qe = a en (fun x en1 => b en1 (fun y en2 => (∃ ns vs, x = .obj C ns vs) ∧ (∃ ns vs, y = .obj C ns vs) ∧ sd [x, y] (fun r _ => Q r en2) fun x _ => Qe x en2) Qe) Qe := by rfl
@[simp ↓] theorem r_Own1 {C : String} {sd : SpD} {a : TDE} {en : En} {Q : D → En → Prop} {Qe : Qx} : dOwn1 C sd a en Q Qe = a en (fun x en1 => (∃ ns vs, x = .obj C ns vs) ∧ sd [x] (fun r _ => Q r en1) fun x _ => Qe x en1) Qe := by rfl
@[simp ↓] theorem r_Call {sd : SpD} {a : TDA} {en : En} {Q : D → En → Prop} {Qe : Qx} : dCall sd a en Q Qe = a en (fun ds en1 => sd ds (fun r _ => Q r en1) fun x _ => Qe x en1) Qe := by rfl
@[simp ↓] theorem r_CallIO {i : Nat} {sd : SpD} {a : TDA} {en : En} {Q : D → En → Prop} {Qe : Qx} : dCallIO i sd a en Q Qe = ((ownAt en i).isSome = true ∧ a en (fun ds en1 => match ownAt en1 i with | some (b, d) => sd (d :: ds) (fun r outs => (match outs with | [d'] => Q r (en1.set i (some (.ow b d'))) | _ => False)) (fun x outs => (match outs with | [d'] => Qe x (en1.set i (some (.ow b d'))) | _ => False)) | none => False) Qe) := by rfl
@[simp ↓] theorem r_LM {i : Nat} {m : LM} {a : TDA} {en : En} {Q : D → En → Prop} {Qe : Qx} : dLM i m a en Q Qe = (ownL en i = true ∧ a en (fun es en1 => match ownAt en1 i with | some (b, .lst ds) => m ds es fun z ls => Q z (en1.set i (some (.ow b (.lst ls)))) | _ => False) Qe) := by rfl
@[simp ↓] theorem r_app {l : List D} {d : D} {Q : D → List D → Prop} : appM l [d] Q = (l.length < sizeLine ∧ Q .non (l ++ [d])) := by rfl
@[simp ↓] theorem r_pop {l : List D} {Q : D → List D → Prop} : popM l [] Q = ∃ d, l.getLast? = some d ∧ Q d l.dropLast := by rfl
@[simp ↓] theorem r_ext {l x : List D} {Q : D → List D → Prop} : extM l [.lst x] Q = (l.length + x.length ≤ sizeLine ∧ Q .non (l ++ x)) := by rfl
@[simp ↓] theorem r_Store {i : Nat} {x e : TDE} {B : DEnds} {en : En} : dStore i x e B en = e en (fun d en1 => ownC en1 i = true ∧ x en1 (fun j en2 => match ownAt en2 i, j with | some (b, .lst ds), .int k => setD ds k d fun ls => B.nx (en2.set i (some (.ow b (.lst ls)))) | some (b, .dct ds es), j => fitD ds j = true ∧ ds.length < sizeLine ∧ B.nx (en2.set i (some (.ow b (.dct (putDk ds j) (putDv ds es j d))))) | _, _ => False) B.ex) B.ex := by rfl
@[simp ↓] theorem r_Lc {vs : List Nat} {it : TDI} {g : TDG} {c : TDT} {e : TDE} {en : En} {Q : D → En → Prop} {Qe : Qx} : dLc vs it g c e en Q Qe = it en (fun ds en1 => lcD vs g c e ds [] (wipeE en1 vs) fun acc en2 => Q (.lst acc) (backE en1 en2 vs)) Qe := by rfl
@[simp ↓] theorem r_TupIx {ys : List Str} {e : TDE} {en : En} {Q : D → En → Prop} {Qe : Qx} : dTupIx ys e en Q Qe = e en (fun d en1 => ∃ z j, d = .str z ∧ ys[j]? = some z ∧ (∀ m, m < j → ys[m]? ≠ some z) ∧ Q (.int (j : Nat)) en1) Qe := by rfl
@[simp ↓] theorem r_tru_non  : truD .non = some false := by rfl
@[simp ↓] theorem r_tru_bl {b : Bool} : truD (.bl b) = some b := by rfl
@[simp ↓] theorem r_tru_int {b : Int} : truD (.int b) = some (b != 0) := by rfl
@[simp ↓] theorem r_tru_lst {b : List D} : truD (.lst b) = some (!b.isEmpty) := by rfl
@[simp ↓] theorem r_tru_lck {b : List D} : truD (.lck b) = some (!b.isEmpty) := by rfl
@[simp ↓] theorem r_tru_tup {b : List D} : truD (.tup b) = some (!b.isEmpty) := by rfl
@[simp ↓] theorem r_e_nx {io : List Nat} {Qd : D → List D → Prop} {Qe : Exn → List D → Prop} {fr : Bool} {en : En} : (endsD io Qd Qe fr).nx en = (fr = false ∧ ∃ outs, outsE io en = some outs ∧ Qd .non outs) := by rfl
@[simp ↓] theorem r_e_rt {io : List Nat} {Qd : D → List D → Prop} {Qe : Exn → List D → Prop} {fr : Bool} {en : En} {d : D} : (endsD io Qd Qe fr).rt d en = ∃ outs, outsE io en = some outs ∧ Qd d outs := by rfl
@[simp ↓] theorem r_e_ex {io : List Nat} {Qd : D → List D → Prop} {Qe : Exn → List D → Prop} {fr : Bool} {en : En} {x : Exn} : (endsD io Qd Qe fr).ex x en = ∃ outs, outsE io en = some outs ∧ Qe x outs := by rfl
@[simp ↓] theorem r_e_fr {io : List Nat} {Qd : D → List D → Prop} {Qe : Exn → List D → Prop} {fr : Bool} : (endsD io Qd Qe fr).fr = fr := by rfl
@[simp ↓] theorem r_len_dct {l m : List D} {Q : D → Prop} : lenD [.dct l m] Q = Q (.int l.length) := propext ⟨fun ⟨n, h, q⟩ => by
  cases h
  exact q, fun q => ⟨_, rfl, q⟩⟩
@[simp] theorem r_sizeLine : sizeLine = 16777216 := by unfold sizeLine; rfl
end DL

/-! The D layer, part 11: plain lemmas. -/
namespace DL
open PySem L2

theorem rangeD_zero {lo : Int} : rangeD lo 0 = [] := rfl
theorem rangeD_succ {lo : Int} {n : Nat} : rangeD lo (n + 1) = .int lo :: rangeD (lo + 1) n := by
  unfold rangeD
  rw [List.range_succ_eq_map, List.map_cons, List.map_map]
  congr 1
  · simp
  · apply List.map_congr_left
    intro i _
    simp only [Function.comp]
    congr 1
    push_cast
    omega
theorem atI_map {α β : Type} {f : α → β} {l : List α} {i : Int} : atI (l.map f) i = (atI l i).map f := by
  unfold atI
  rw [List.length_map]
  cases ixN l.length i with
  | none => rfl
  | some j => simp
theorem atI_some {α : Type} {l : List α} {i : Int} (h : -(l.length : Int) ≤ i) (h' : i < l.length) : ∃ a, atI l i = some a := by
  unfold atI ixN
  by_cases q : 0 ≤ i
  · have : i.toNat < l.length := by omega
    simp [q, h', this]
  · have : (i + l.length).toNat < l.length := by omega
    simp [q, h, this]
theorem cutD_map {α : Type} {f : α → D} {l : List α} {lo hi : Option Int} : ∃ k : List α, cutD (l.map f) lo hi = k.map f ∧ k.length ≤ l.length := by
  refine ⟨(l.drop (HT.sIx l.length 0 lo)).take (HT.sIx l.length l.length hi - HT.sIx l.length 0 lo), ?_, ?_⟩
  · unfold cutD
    rw [List.length_map, ← List.map_drop, ← List.map_take]
  · rw [List.length_take, List.length_drop]
    omega
theorem dCutHead {l : List D} {n : Nat} : cutD l none (some (n : Int)) = l.take n := by
  unfold cutD
  rw [HT.sIx_none, HT.sIx_nat, List.drop_zero, Nat.sub_zero]
  by_cases h : n ≤ l.length
  · rw [Nat.min_eq_left h]
  · rw [Nat.min_eq_right (by omega), List.take_of_length_le (by omega), List.take_of_length_le (by omega)]
theorem fmod_range {a m : Int} (h : 0 < m) : 0 ≤ a.fmod m ∧ a.fmod m < m := by
  rw [Int.fmod_eq_emod_of_nonneg _ (by omega)]
  exact ⟨Int.emod_nonneg _ (by omega), Int.emod_lt_of_pos _ h⟩
theorem last_split {α : Type} : ∀ (l : List α), 0 < l.length → ∃ r x, l = r ++ [x]
  | [], h => nomatch h
  | a :: r, _ => by
    rcases r with _ | ⟨b, r⟩
    · exact ⟨[], a, rfl⟩
    · obtain ⟨s, x, e⟩ := last_split (b :: r) (by simp)
      exact ⟨a :: s, x, by rw [e]; rfl⟩
theorem atI_mem {α : Type} {l : List α} {i : Int} {a : α} (h : atI l i = some a) : a ∈ l := by
  unfold atI at h
  cases e : ixN l.length i with
  | none => rw [e] at h; cases h
  | some j => rw [e] at h; exact List.mem_of_getElem? h
theorem mul_r {i j : Int} (h : -18446744073709551616 < j) (h' : j < 18446744073709551616) : CMul i j ∨ CMulW i j := .inl (.inr ⟨by simpa using h, by simpa using h'⟩)
theorem mul_l {i j : Int} (h : -18446744073709551616 < i) (h' : i < 18446744073709551616) : CMul i j ∨ CMulW i j := .inl (.inl ⟨by simpa using h, by simpa using h'⟩)
theorem div_r {i j : Int} (h : 0 < j) (h' : j < 1073741824) : CDivN i j ∨ CDivW i j := .inl ⟨by omega, by omega⟩
theorem pow_ok {i j : Int} (h : 0 ≤ j) (h' : j ≤ 1000000) (k : -18446744073709551616 < i) (k' : i < 18446744073709551616) : CPow i j := ⟨h, h', by
  have : (2 : Nat) ^ 64 = 18446744073709551616 := by decide
  rw [this]
  omega⟩
end DL

/-! The D layer, part 12: a law's end. -/
namespace DL
open PySem L2

theorem is_ints {K : KW} {F : Hp} : ∀ ns : List Int, IsL K F (ns.map D.int) (ns.map V.int)
  | [] => rfl
  | n :: ns => ⟨_, _, rfl, rfl, is_ints ns⟩
/-- what a law's def is asked -/
def LawSp (n : Nat) (sd : SpD) : Prop := ∀ ns : List Int, ns.length ≤ n → (∀ z ∈ ns, Builtin.Int.intBits z ≤ 1048576) → sd [.lck (ns.map D.int)] (fun r _ => r = .bl true) fun _ _ => False
theorem walk_law {l : PySem.W.OpenLaw} {n k : Nat} {q : Program} {loose : List Str} {XP : (Str → Option Value) → Heap → Prop} {YP : World → Heap → Prop} {d : DefRec} {sd : SpD} {x : Str} (hn : l.most = some n) (hn2 : n ≤ sizeLine) (hdf : d.params.defaults = []) (hr : Room k callerA) (hsd : LawSp n sd)
    (F : ∀ (w : World) (mg : Str → Option Value) (fa : Addr) (h : Heap), YP w h → h.Ns mainGlobals mg → mg d.name = some (.ref fa) →
      ∃ (K : Fg) (fd : FuncData), K.In h ∧ (∀ (s : Shared) (u : Value), BindsTo s fd ⟨[u], []⟩ [(x, u)]) ∧ ∀ base : Heap, K.In base → base.Ns mainGlobals mg → FnOk l.prog w K mg base (L2N.CX l.prog w) k fa fd [x] (spOf ⟨K, w⟩ [] sd)) :
    PySem.W.WalkO q loose XP YP l.row.toRowW d [] (fun f vs => PySem.call f vs) := by
  refine Att.attach_callB hn hdf fun w s₀ s₁ mg mb fa o pm cd doc a vs ns G Y ho hd hcd hmg hobj hints hlen hbits hg => ?_
  obtain ⟨K, fd, KX, hb, hF⟩ := F w mg fa _ Y G.T.g hmg
  refine law_call KX G.T.g G.T.b G.T.builtins G.T.nolimit hg hobj hints (Nat.le_trans hlen hn2) hr hF hb (fun H hO hS => ⟨H, _, _, _, Same.refl H, ⟨rfl, fun i e h1 h2 => ?_, fun i e h1 h2 => ?_, fun i j b h1 => ?_⟩, hsd ns hlen hbits, fun v r outs F' H' p i o q => ?_, fun x outs cls dd F' H' p i o q => q.elim⟩) fun H e s' c => ?_
  · cases i with
    | zero =>
      cases h1
      exact ⟨_, rfl, _, _, rfl, hS, is_ints ns⟩
    | succ i => cases h1
  · cases h2
  · cases h1
  · cases q
    exact i
  · obtain ⟨_, _, _, _, _, _, _, _, _, _, _, _, z⟩ := c
    exact z
end DL

/-! The D layer, part 18: the hook over what the used names reach; what was seen is a number, bit by bit. -/
namespace DL
open PySem L2

def refsB (g : Addr → Option Obj) (a : Addr) : List Addr := if Nat.blt a 4 = true then [] else match g a with
  | some o => He.refsD o
  | none => []
/-- those of a list that were not seen, and what is seen behind them -/
def pickB : List Addr → Nat → List Addr → List Addr × Nat
  | [], s, acc => (acc, s)
  | a :: r, s, acc => HandSHeadRun.frNat a fun a => match Nat.land (Nat.shiftRight s a) 1 with
    | 0 => HandSHeadRun.frNat (Nat.lor s (Nat.shiftLeft 1 a)) fun s => pickB r s (a :: acc)
    | _ + 1 => pickB r s acc
def goB (g : Addr → Option Obj) : Nat → List Addr → Nat → List Addr → List Addr
  | 0, _, _, all => all
  | n + 1, front, s, all => match pickB (front.flatMap (refsB g)) s [] with
    | (new, s) => goB g n new s (all ++ new)
def asB (g : Addr → Option Obj) (xs : List Str) (n : Nat) : List Addr := match pickB (xs.map (He.ga (He.frG g [mainGlobals]))) 0 [] with
  | (new, s) => goB g n new s (mainGlobals :: PySem.cStatics :: new)
def obsBG (xs : List Str) (n : Nat) (fx : List (Fg → Bool)) (fn : List DefX) (ts : List He.Tab) (g : Addr → Option Obj) : AlX := obsX fx fn ts (He.frG g (asB g xs n))
def hookB (xs : List Str) (n : Nat) (fx : List (Fg → Bool)) (fn : List DefX) (ts : List He.Tab) : PySem.W.Hook where
  α := AlX
  obs := fun s => obsBG xs n fx fn ts s.heap.get?
  val := fun w => valX fn ts w
  says := fun w h => ∃ K : Fg, K.In h ∧ SaysX fx fn ts w K
  of := fun _ _ e => ⟨_, He.frG_in, e⟩
  keeps := fun _ _ _ ⟨K, hK, c⟩ k => ⟨K, PySem.W.Frag.In.keeps hK k, c⟩
theorem obsBG_eq {xs : List Str} {n : Nat} {fx : List (Fg → Bool)} {fn : List DefX} {ts : List He.Tab} {g : Addr → Option Obj} {s : Shared} (h : ∀ a, g a = s.heap.get? a) : obsBG xs n fx fn ts g = (hookB xs n fx fn ts).obs s := by
  have e : g = s.heap.get? := funext h
  rw [e] <;> rfl
end DL

/-! The D layer, part 13: tuple(..), list(..), str(..), join, defs with *args, constant tables. -/
namespace DL
open PySem L2

section
variable {X : Cx} {W : WX} {K : KW}
/-! ### tuple(x), list(x), str(x) -/
def tupleD : CD := fun ds Q => match ds with
  | [.lst xs] => Q (.tup xs)
  | [.lck xs] => Q (.tup xs)
  | [.tup xs] => Q (.tup xs)
  | _ => False
abbrev rTupOf (K : Fg) : List V → Hp → VK → Prop := fun xs H Q => ∃ p ys, xs = [.ref p] ∧ ((SqL K H p ys ∧ ∀ l, H l = none → Q (.ref l) (upd H l (.tup ys))) ∨ (SqT K H p ys ∧ Q (.ref p) H))
theorem sim_tuple : SimC K (rTupOf K) tupleD := by
  intro G F H σ en ds vs Q Qd R i q k
  unfold tupleD at q
  split at q
  · obtain ⟨v, r, rfl, ⟨a, ws, rfl, ha, la⟩, ir⟩ := i
    cases ir
    refine ⟨a, ws, rfl, .inl ⟨SqL.of (R.le _ _ ha), fun p hp => ?_⟩⟩
    obtain ⟨h1, h2, h3⟩ := new_tup R la hp
    exact k _ _ _ _ h1 h2 h3 q
  · obtain ⟨v, r, rfl, ⟨a, ws, rfl, ha, la⟩, ir⟩ := i
    cases ir
    refine ⟨a, ws, rfl, .inl ⟨SqL.same R.le ha, fun p hp => ?_⟩⟩
    obtain ⟨h1, h2, h3⟩ := new_tup R la hp
    exact k _ _ _ _ h1 h2 h3 q
  · obtain ⟨v, r, rfl, ⟨a, ws, rfl, ha, la⟩, ir⟩ := i
    cases ir
    exact ⟨a, ws, rfl, .inr ⟨SqT.same R.le ha, k (.ref a) (.tup _) F H (Same.refl F) R ⟨a, ws, rfl, ha, la⟩ q⟩⟩
  · exact q.elim
def seqOf : D → Option (List D)
  | .lst xs => some xs
  | .lck xs => some xs
  | .tup xs => some xs
  | _ => none
def dList (a : TDE) : TDE := fun en Q Qe => a en (fun d en1 => match seqOf d with
  | some xs => Q (.lst xs) en1
  | none => False) Qe
abbrev rLstOf (K : Fg) : List V → Hp → VK → Prop := fun xs H Q => ∃ p ys, xs = [.ref p] ∧ (SqL K H p ys ∨ SqT K H p ys) ∧ ∀ l, H l = none → Q (.ref l) (upd H l (.lst ys))
theorem seq_is {F H : Hp} (e : Same F H) : ∀ {d : D} {v : V} {xs : List D}, Is K F d v → seqOf d = some xs → ∃ p ws, v = .ref p ∧ (SqL K H p ws ∨ SqT K H p ws) ∧ IsL K F xs ws
  | .lst ds, _, _, ⟨a, ws, q, ha, la⟩, h => by cases h; exact ⟨a, ws, q, .inl (SqL.of (e _ _ ha)), la⟩
  | .lck ds, _, _, ⟨a, ws, q, ha, la⟩, h => by cases h; exact ⟨a, ws, q, .inl (SqL.same e ha), la⟩
  | .tup ds, _, _, ⟨a, ws, q, ha, la⟩, h => by cases h; exact ⟨a, ws, q, .inr (SqT.same e ha), la⟩
  | .non, _, _, _, h => nomatch h
  | .bl _, _, _, _, h => nomatch h
  | .int _, _, _, _, h => nomatch h
  | .str _, _, _, _, h => nomatch h
  | .dct _ _, _, _, _, h => nomatch h
  | .obj _ _ _, _, _, _, h => nomatch h
theorem do_list {x : Str} {p pos : Pos} {e : Expr} {te : TE} {td : TDE} (hx : x = "list") (hg : Gl X x) (hm : X.mg x = none) (h : DE X W e te td) (hdb : (x == ("__debug__" : Str)) = false := by decide)
    (he : starEach [e] X.env = (false, eval e X.env) :: starEach [] X.env := by rfl) : DO X W (.Call (.Name x p) [e] [] pos) (tCB (rLstOf X.K) (tCons te tNil)) (dList td) :=
  ⟨by
    subst hx
    exact pe_callTy call_list_of hg hm PyProof.Rows.boot_list (pa_cons h.pe pa_nil he) (by decide) (by decide) he rfl, fun G F H σ en Q Qd Qe R q x k => h.sim G F H σ en _ _ Qe R q x fun v d F1 H1 en1 e1 R1 i1 q1 => by
      split at q1
      · rename_i xs hs
        obtain ⟨a, ws, rfl, ha, la⟩ := seq_is R1.le i1 hs
        exact ⟨a, ws, rfl, ha, fun p hp => by
          obtain ⟨h1, h2⟩ := new_lst R1 la hp
          exact k _ _ _ _ en1 e1 h1 h2 q1⟩
      · exact q1.elim⟩
def strD : CD := fun ds Q => match ds with
  | [.int i] => i.natAbs.log2 < 1920 ∧ Q (.str (toString i))
  | [.str a] => Q (.str a)
  | _ => False
abbrev rStrV : List V → Hp → VK → Prop := fun xs H Q => (∃ i, xs = [.int i] ∧ i.natAbs.log2 < 1920 ∧ Q (.str (toString i)) H) ∨ ∃ a, xs = [.str a] ∧ Q (.str a) H
theorem call_strV : CallR X (.type "str") rStrV := call_str_int.or SkE.call_str_str
theorem sim_str : SimC K rStrV strD := by
  intro G F H σ en ds vs Q Qd R i q k
  unfold strD at q
  split at q
  · obtain ⟨v, r, rfl, iv, ir⟩ := i
    cases ir; cases iv
    exact .inl ⟨_, rfl, q.1, k _ (.str _) F H (Same.refl F) R rfl q.2⟩
  · obtain ⟨v, r, rfl, iv, ir⟩ := i
    cases ir; cases iv
    exact .inr ⟨_, rfl, k _ (.str _) F H (Same.refl F) R rfl q⟩
  · exact q.elim
/-! ### s.join(x) -/
def strsOf : List D → Option (List Str)
  | [] => some []
  | .str s :: r => (strsOf r).map (s :: ·)
  | _ => none
theorem strs_is {F : Hp} : ∀ {ds : List D} {ys : List Str} {vs : List V}, strsOf ds = some ys → IsL K F ds vs → vs = ys.map V.str
  | [], _, _, h, i => by cases h; exact i
  | .str s :: r, ys, vs, h, ⟨v, rs, e, i, l⟩ => by
    unfold strsOf at h
    cases q : strsOf r with
    | none => rw [q] at h; cases h
    | some zs =>
      rw [q] at h
      cases h
      cases i
      rw [e, strs_is q l]
      rfl
  | .non :: _, _, _, h, _ => nomatch h
  | .bl _ :: _, _, _, h, _ => nomatch h
  | .int _ :: _, _, _, h, _ => nomatch h
  | .tup _ :: _, _, _, h, _ => nomatch h
  | .lst _ :: _, _, _, h, _ => nomatch h
  | .lck _ :: _, _, _, h, _ => nomatch h
  | .dct _ _ :: _, _, _, h, _ => nomatch h
  | .obj _ _ _ :: _, _, _, h, _ => nomatch h
def joinD (x y : D) (Q : D → Prop) : Prop := ∃ s xs ys, x = .str s ∧ seqOf y = some xs ∧ strsOf xs = some ys ∧ (ys.map (·.length)).sum + ys.length * s.length ≤ 16777216 ∧ Q (.str (Str.join s ys))
def dJoin (a b : TDE) : TDE := fun en Q Qe => a en (fun x en1 => (∃ s, x = .str s) ∧ b en1 (fun y en2 => joinD x y fun z => Q z en2) Qe) Qe
theorem de_join {a b : Expr} {apos pos : Pos} {ta tb : TE} {da db : TDE} (ha : DE X W a ta da) (hb : DE X W b tb db) (hs : starEach [b] X.env = [(false, eval b X.env)] := by rfl) (hbase : attributeBase a "join" X.env (eval a X.env) = eval a X.env := by rfl) (hline : (apos.endLine == pos.line) = true := by rfl) :
    DE X W (.Call (.Attribute a "join" apos) [b] [] pos) (tM1 (fun x xs H Q => ∃ a p, ∃ ys : List Str, x = .str a ∧ xs = [.ref p] ∧ (SqL X.K H p (ys.map V.str) ∨ SqT X.K H p (ys.map V.str)) ∧
      (ys.map (·.length)).sum + ys.length * a.length ≤ 16777216 ∧ Q (.str (Txt.join a ys)) H) ta tb) (dJoin da db) :=
  ⟨pe_join ha.pe hb.pe hs hbase hline, fun G F H σ en Q Qd Qe R q x k => ha.sim G F H σ en _ _ Qe R q x fun v d F1 H1 en1 e1 R1 i1 q1 => by
    obtain ⟨⟨s, rfl⟩, q1⟩ := q1
    cases i1
    refine ⟨⟨s, rfl⟩, hb.sim G F1 H1 σ en1 _ _ Qe R1 q1 x fun u y F2 H2 en2 e2 R2 i2 q2 => ?_⟩
    obtain ⟨s', xs, ys, e, h1, h2, h3, h4⟩ := q2
    cases e
    obtain ⟨p, ws, rfl, hp, l⟩ := seq_is R2.le i2 h1
    have e := strs_is h2 l
    subst e
    exact ⟨s, p, ys, rfl, rfl, hp, h3, by
      rw [TL.join_eq]
      exact k _ (.str _) F2 H2 en2 (e1.trans e2) R2 rfl h4⟩⟩
/-! ### a constant table with text keys -/
def KTab (K : Fg) (w : World) (a : Addr) (tb : List (Str × D)) : Prop := ∀ z d, tb.lookup z = some d → ∃ v, KDct K w a z v ∧ ∀ F, Is ⟨K, w⟩ F d v
def dKdx (tb : List (Str × D)) (e : TDE) : TDE := fun en Q Qe => e en (fun d en1 => ∃ z v, d = .str z ∧ tb.lookup z = some v ∧ Q v en1) Qe
theorem de_kdx {y : Str} {tb : List (Str × D)} {p pos : Pos} {e : Expr} {te : TE} {td : TDE} (hg : Gl X y) (hm : X.mg y = some (.ref (He.ga X.K y))) (ht : KTab X.K X.w (He.ga X.K y) tb) (h : DE X W e te td) (hs : PlainIx e := by exact fun _ _ => rfl) (hd : (y == ("__debug__" : Str)) = false := by decide) :
    DE X W (.Subscript (.Name y p) e pos) (tOp (rIxD X.K X.w) (tC (.ref (He.ga X.K y))) te) (dKdx tb td) := ⟨pe_ix ix_kdict (pe_const hg hm rfl hd) h.pe hs, fun G F H σ en Q Qd Qe R q x k => h.sim G F H σ en _ _ Qe R q x fun v d F1 H1 en1 e1 R1 i1 q1 => by
  obtain ⟨z, u, rfl, h1, h2⟩ := q1
  cases i1
  obtain ⟨w, h3, h4⟩ := ht z u h1
  exact ⟨_, z, w, rfl, rfl, h3, k w u F1 H1 en1 e1 R1 (h4 F1) h2⟩⟩
/-- the table's values, flat -/
def dvD : He.Dv → Option D
  | .non => some .non
  | .bl b => some (.bl b)
  | .int i => some (.int i)
  | .str s => some (.str s)
  | _ => none
theorem dvD_is {F : Hp} : ∀ {v : He.Dv} {d : D}, dvD v = some d → Is K F d (v.v K)
  | .non, _, h => by cases h; rfl
  | .bl _, _, h => by cases h; rfl
  | .int _, _, h => by cases h; rfl
  | .str _, _, h => by cases h; rfl
  | .byt _, _, h => nomatch h
  | .flt _, _, h => nomatch h
  | .ty _, _, h => nomatch h
  | .glo _, _, h => nomatch h
  | .adr _, _, h => nomatch h
theorem ktab_of {w : World} {a : Addr} {kvs : List (Str × He.Dv)} {tb : List (Str × D)} (hk : ∃ es n, KDict K w a es n) (hv : He.valsB K a kvs = true) (he : kvs.map (fun q => (q.1, dvD q.2)) = tb.map fun q => (q.1, some q.2)) : KTab K w a tb := by
  obtain ⟨es, n, hk⟩ := hk
  intro z d hz
  have m : (z, d) ∈ tb := by
    clear he
    induction tb with
    | nil => cases hz
    | cons p r ih =>
      rw [List.lookup_cons] at hz
      split at hz
      · rename_i e
        cases hz
        have : z = p.1 := by simpa using e
        rw [this]
        exact List.mem_cons_self ..
      · exact List.mem_cons_of_mem _ (ih hz)
  have m2 : (z, some d) ∈ kvs.map (fun q => (q.1, dvD q.2)) := by
    rw [he]
    exact List.mem_map.mpr ⟨_, m, rfl⟩
  obtain ⟨q, hq, e⟩ := List.mem_map.mp m2
  obtain ⟨u, h1, h2⟩ := He.valsB_ok hv hq
  injection e with e1 e2
  subst e1
  exact ⟨_, ⟨es, n, u, hk.at_, hk.lit, h1, h2⟩, fun F => dvD_is e2⟩
end

/-! ### def f(a, .., *rest) -/
/-- what the caller hands: n values and the rest -/
def stSp (n : Nat) (sd : SpD) : SpD := fun ds Qd Qe => n ≤ ds.length ∧ ds.length ≤ sizeLine ∧ sd (ds.take n ++ [.tup (ds.drop n)]) Qd Qe
section
variable {P : Program} {w : World} {K : KW} {mg : Str → Option Value} {base : Heap}
theorem spOf_star {n : Nat} {sd : SpD} {vs : List V} {H : Hp} {Q : VK} {E : XK} (h : spOf K [] (stSp n sd) vs H Q E) : ∃ ws rest, vs = ws ++ rest ∧ ws.length = n ∧ rest.length ≤ sizeLine ∧ ∀ p, H p = Option.none → spOf K [] sd (ws ++ [V.ref p]) (upd H p (.tup rest)) Q E := by
  obtain ⟨F, ds, Qd, Qe, e, A, ⟨h1, h2, h3⟩, k1, k2⟩ := h
  have hl := A.len
  refine ⟨vs.take n, vs.drop n, (List.take_append_drop n vs).symm, by rw [List.length_take]; omega, by rw [List.length_drop]; omega, fun p hp => ?_⟩
  have fp : F p = none := by
    cases q : F p with
    | none => rfl
    | some u => rw [e _ _ q] at hp; cases hp
  have eF : Same F (upd F p (.tup (vs.drop n))) := same_upd fp
  have il : IsL K F ds vs := by
    clear h1 h2 h3 k1 k2
    have go : ∀ (ds : List D) (vs : List V), vs.length = ds.length → (∀ (i : Nat) d, ds[i]? = some d → ∃ v, vs[i]? = some v ∧ Is K F d v) → IsL K F ds vs := by
      intro ds
      induction ds with
      | nil =>
        intro vs hl _
        cases vs with
        | nil => rfl
        | cons v r => simp at hl
      | cons d r ih =>
        intro vs hl hg
        cases vs with
        | nil => simp at hl
        | cons v rv =>
          obtain ⟨u, hu, i⟩ := hg 0 d rfl
          cases hu
          exact ⟨v, rv, rfl, i, ih rv (by simpa using hl) fun i d h => hg (i + 1) d (by simpa using h)⟩
    exact go ds vs hl fun i d h => A.fz i d h (by simp)
  refine ⟨upd F p (.tup (vs.drop n)), ds.take n ++ [.tup (ds.drop n)], Qd, Qe, fun a o q => ?_, argsL ((IsL.mono eF _ _ (il.take n)).append (IsL.single (show Is K _ (.tup (ds.drop n)) _ from ⟨p, vs.drop n, rfl, .inl (.inl upd_same), IsL.mono eF _ _ (il.drop n)⟩))), h3, fun v r outs F' H' po i os q => k1 v r outs F' H' (post_upd hp fp po) i os q, fun x outs cls d F' H' po i os q => k2 x outs cls d F' H' (post_upd hp fp po) i os q⟩
  by_cases z : a = p
  · subst z
    rw [upd_same] at q ⊢
    exact q
  · rw [upd_ne z] at q ⊢
    exact e _ _ q
where
  argsL {F H : Hp} {ds : List D} {vs : List V} (i : IsL K F ds vs) : ArgsR K F H [] vs ds := ⟨i.length, fun j d h _ => i.get h, fun j d h m => absurd m (by simp), fun i j a m => absurd m (by simp)⟩
  post_upd {F H F' H' : Hp} {p : Addr} {u : HO} {as : List Addr} (hp : H p = none) (fp : F p = none) (po : Post (upd F p u) (upd H p u) F' H' as) : Post F H F' H' as := ⟨(same_upd fp).trans po.f, po.le, fun a o q m => po.keep a o (by
      rw [upd_ne (fun z => by rw [z, hp] at q; cases q)]
      exact q) m, fun a q1 q2 => po.new a (by
      rw [upd_ne (fun z => by rw [z] at q2; exact q2 hp)]
      exact q1) (by
      rw [upd_ne (fun z => by rw [z] at q2; exact q2 hp)]
      exact q2), po.there⟩
/-- a def whose last parameter takes what is left over -/
theorem fnD_star {K : Fg} {x qual : Str} {params : Arguments} {body : List Stmt} {scope : Scope} {f : Addr} {fd : FuncData} {N ps : List Str} {pv : Str} {k : Nat} {sd : SpD} {td : TDS} (F : FunD K x qual params body scope [] [] f fd) (S : FnScope N (ps ++ [pv]) scope)
    (hb : ∀ (kV doc pm : Value) (an : Option Addr) (cdv ct : Value) (us rest : List Value), us.length = ps.length → bindArgs (PySem.W.fnOf x qual params body scope .none kV doc pm an cdv ct) ⟨us ++ rest, []⟩ = (newTuple rest >>= fun t => pure (ps.zip us ++ [(pv, t)])))
    (hps : (ps ++ [pv]).length ≤ N.length) (len : ∀ ds Qd Qe, sd ds Qd Qe → ds.length = (ps ++ [pv]).length)
    (walk : ∀ (cdv : Value) (A : Around) (outer : List Env) (s : Shared) (H : Hp) (E : XK), Room k (A.deeper (PyProof.Rows.envOfC qual scope s.heap.objs.size f cdv)) →
      ∃ ts, DSs (cxOf (L2N.CX P w) P w K mg base N qual scope f cdv A outer s H E) (wBody E) body ts td)
    (rd : ∀ ds Qd Qe, sd ds Qd Qe → td (endsD [] Qd Qe) (startE N.length [] ds)) : FnD P w K mg base (k + 1) f [] (stSp ps.length sd) := by
  obtain ⟨oc, od, dV, kV, doc, pm, an, cdv, ct, osl, rfl, lk, hcd, hD, hK⟩ := F.ex
  rcases hD with ⟨_, rfl⟩ | ⟨e, _⟩
  · refine FnR.imp (StX.fn_star (sp := spOf ⟨K, w⟩ [] sd) lk hcd S cxUpN (hb kV doc pm an cdv ct) fun A outer s H vs Q E hr h => ?_) fun vs H Q E h => spOf_star h
    obtain ⟨F', ds, Qd, Qe, e, A', h, h1, h2⟩ := h
    obtain ⟨ts, wk⟩ := walk cdv A outer s H E hr
    refine ⟨ts, wk.ps, ?_⟩
    have hl := len ds Qd Qe h
    have R := start_rel (N := N) e A' (by rw [hl]; exact hps) (by simp)
    refine wk.sim _ F' H _ _ _ _ R (rd ds Qd Qe h) ⟨fun F1 H1 σ en R1 q => ?_, fun v d F1 H1 σ en _ R1 i q => ?_, fun F1 H1 σ en R1 q => q.elim, fun F1 H1 σ en R1 q => q.elim, fun x F1 H1 σ en cls d R1 i q => ?_, fun a d F1 H1 σ en z => (nomatch z)⟩
    · obtain ⟨_, outs, q1, q2⟩ := q
      exact h1 _ .non outs F1 H1 (rel_post R1) rfl (outs_rel (by simp) R1 q1) q2
    · obtain ⟨outs, q1, q2⟩ := q
      exact h1 _ d outs F1 H1 (rel_post R1) i (outs_rel (by simp) R1 q1) q2
    · obtain ⟨outs, q1, q2⟩ := q
      exact h2 x outs cls d F1 H1 (rel_post R1) i (outs_rel (by simp) R1 q1) q2
  · exact absurd rfl e
end
end DL

/-! The D layer, part 14: an own binary operator with an int on its right. -/
namespace DL
open PySem L2 PySem.W PySem.Spec PyProof.Rows

theorem sub_int_ref (C : Addr) : isSubtype (.type "int") (.ref C) = pure false := by
  unfold isSubtype
  rfl
section
variable {prog : Program} {w : World} {A : Around} {E : Value → Shared → Prop} {s : Shared} {K : Fg} {x C L f g : Addr} {h₀ : Heap} {m : Str → Option Value} {ox : Obj} {od : Option Obj}
theorem op1_KI {nm : String} {b : Value} {r : Option Value} {Q : Option Value → Shared → Prop} (X : K.In s.heap) (I : PySem.W.InstAt s.heap x ox C od) (hb : PySem.W.Looks (model prog w) s.heap (typeOf b) (.type "int")) (hc : PySem.W.selfFirst K C = true)
    (hs : PySem.W.findIn K (.ref C) (PySem.dunder nm) = some (some (.ref f))) (hf : PySem.W.isFn K (.ref f) = true) (hs2 : PySem.W.findIn K (.ref C) (PySem.dunderR nm) = some (some (.ref g)))
    (hfill : fillsNumberSlot (.type "int") nm = pure true) (hrad : typeLookup (.type "int") (PySem.dunderR nm) = pure r)
    (h : wpAny (model prog w) A (tryMethod (.ref x) (PySem.dunder nm) b) (fun o s' => o.isSome = true ∧ Q o s') E s) : wpAny (model prog w) A (binaryOp1 nm (.ref x) b) Q E s := by
  obtain ⟨cd, hcd, hm⟩ := PySem.W.any_some hc
  obtain ⟨rest, hm⟩ : ∃ rest, cd.mro = .ref C :: rest := by
    cases q : cd.mro with
    | nil => rw [q] at hm; cases hm
    | cons a r => rw [q] at hm; exact ⟨r, by rw [List.head?_cons] at hm; cases (beq_iff_eq.mp hm); rfl⟩
  unfold binaryOp1
  refine wpAny_bind (I.type.here (wpAny_bind (hb.here (wpAny_bind ((PySem.W.fills_K X hcd hm hs).here ?_)))))
  rw [if_neg (show ¬ ((Value.ref C) == (Value.type "int")) = true from Bool.false_ne_true), hfill]
  refine wpAny_bind (wpAny_pure ?_)
  dsimp only
  rw [if_pos (show (true && true) = true from rfl), sub_int_ref]
  refine wpAny_bind (wpAny_pure ?_)
  rw [if_neg Bool.false_ne_true, if_neg Bool.false_ne_true, if_pos (show (true && true && !false) = true from rfl)]
  have np : PySem.W.Looks (model prog w) s.heap (numberSlotInPython (.ref C) nm) true := by
    intro A Q E s' k q
    unfold numberSlotInPython
    refine wpAny_bind (PySem.W.looks_findIn X hs A _ E s' k ?_)
    refine wpAny_bind (wpAny_pure (wpAny_bind (PySem.W.looks_findIn X hs2 A _ E s' k ?_)))
    refine wpAny_bind (wpAny_pure ?_)
    rw [if_pos (show (true || true) = true from rfl)]
    exact wpAny_pure q
  refine wpAny_bind (np.here ?_)
  rw [if_pos rfl]
  refine wpAny_bind (wpAny_pure ?_)
  rw [if_pos (show (!false) = true from rfl), hrad]
  refine wpAny_bind (wpAny_pure ?_)
  rw [if_pos rfl]
  refine wpAny_bind (wpAny_mono h (fun o s' z => ?_) fun _ _ z => z)
  obtain ⟨z1, z2⟩ := z
  cases o with
  | none => cases z1
  | some v => exact wpAny_pure z2
theorem binop_KI {op : Operator} {b : Value} {r : Option Value} {Q : Value → Shared → Prop} (F : Fr h₀ L s.heap m) (X₀ : K.In h₀) (I : PySem.W.InstAt s.heap x ox C od) (hb : PySem.W.Looks (model prog w) s.heap (typeOf b) (.type "int")) (hc : PySem.W.selfFirst K C = true)
    (hs : PySem.W.findIn K (.ref C) (PySem.dunder op.info.2) = some (some (.ref f))) (hf : PySem.W.isFn K (.ref f) = true) (hs2 : PySem.W.findIn K (.ref C) (PySem.dunderR op.info.2) = some (some (.ref g)))
    (hfill : fillsNumberSlot (.type "int") op.info.2 = pure true) (hrad : typeLookup (.type "int") (PySem.dunderR op.info.2) = pure r)
    (h : wpAny (model prog w) A (call (.ref f) [.ref x, b]) (PySem.W.CmpBack Q) E s) : wpAny (model prog w) A (binaryOp op (.ref x) b) Q E s := by
  have X := X₀.keeps F.keep
  unfold binaryOp
  refine wpAny_holding (wpAny_bind (op1_KI X I hb hc hs hf hs2 hfill hrad ?_))
  unfold tryMethod
  refine wpAny_bind (PySem.W.special_fn X I hs (beq_iff_eq.mp hf) (wpAny_mono h (fun v s' hv => ?_) fun _ _ e => e))
  cases v <;> first | exact hv.elim | exact wpAny_pure ⟨rfl, wpAny_pure hv⟩
end

/-- what of the text an own operator with an int on its right must have -/
structure BinOkI (K : Fg) (C f g : Addr) (op : Operator) : Prop where
  b : BinOk K C f (PySem.dunder op.info.2)
  r : PySem.W.findIn K (.ref C) (PySem.dunderR op.info.2) = some (some (.ref g))
def opIB (C : Str) (op : Operator) (K : Fg) : Bool := opB C (PySem.dunder op.info.2) K && PySem.W.isFn K (.ref (He.ma K (He.ga K C) (PySem.dunderR op.info.2))) && He.eqO (PySem.W.findIn K (.ref (He.ga K C)) (PySem.dunderR op.info.2)) (some (some (.ref (He.ma K (He.ga K C) (PySem.dunderR op.info.2)))))
theorem opIB_ok {K : Fg} {C : Str} {op : Operator} (h : opIB C op K = true) : BinOkI K (He.ga K C) (He.ma K (He.ga K C) (PySem.dunder op.info.2)) (He.ma K (He.ga K C) (PySem.dunderR op.info.2)) op := by
  obtain ⟨h1, h3⟩ := He.ba h
  obtain ⟨h1, h2⟩ := He.ba h1
  exact ⟨opB_ok h1, He.eqO_ok h3⟩
def rOwnI (C : Addr) (sp : Sp) (W : WX) (σ : L2.St) : R2 := fun x y H Q => ∃ a dx fs i, x = .ref a ∧ H a = some (.ins C dx fs) ∧ y = .int i ∧ sp [x, y] H Q fun c d H => W c d σ H
def tOwnI (C : Addr) (sp : Sp) (W : WX) (ta tb : TE) : TE := fun σ H Q => ta σ H fun x H1 => tb σ H1 fun y H2 => rOwnI C sp W σ x y H2 Q
def dOwnI (C : String) (sd : SpD) (da db : TDE) : TDE := fun en Q Qe => da en (fun x en1 => db en1 (fun y en2 => (∃ ns vs, x = .obj C ns vs) ∧ (∃ i, y = .int i) ∧ sd [x, y] (fun r _ => Q r en2) fun x _ => Qe x en2) Qe) Qe
section
variable {X : Cx} {W : WX}
theorem de_ownI {k : Nat} {f g : Addr} {C : String} {sd : SpD} {op : Operator} {a b : Expr} {pos : Pos} {ta tb : TE} {da db : TDE} {r : Option Value} (B : BinOkI X.K (He.ga X.K C) f g op) (F : FnD X.prog X.w X.K X.mg X.base k f [] sd) (hr : Room k X.A) (tk : Takes X W)
    (hfill : fillsNumberSlot (.type "int") op.info.2 = pure true) (hrad : typeLookup (.type "int") (PySem.dunderR op.info.2) = pure r) (ha : DE X W a ta da) (hb : DE X W b tb db) :
    DE X W (.BinOp a op b pos) (tOwnI (He.ga X.K C) (spOf (kk X) [] sd) W ta tb) (dOwnI C sd da db) := ⟨⟨fun pins s σ H Q I h => wpAny_BinOp (binT ha.pe hb.pe I h fun v u s2 x y H2 I2 rx ry q => by
      obtain ⟨a, dx, fs, i, rfl, ea, rfl, q⟩ := q
      obtain rfl : v = Value.ref a := rx
      obtain ⟨t, rfl⟩ := id ry
      obtain ⟨mA, J, _⟩ := ins_get I2.hok ea
      obtain ⟨od, J, _⟩ := J.look
      obtain ⟨m, hF⟩ := I2.fr
      exact binop_KI hF I2.ok.mod.kin J (PySem.W.Looks.of_pure rfl) B.b.sf B.b.at_ B.b.fn B.r hfill hrad (call_own (vs := [.ref a, .int i]) F hr tk I2 (.cons rfl (.cons ry .nil)) q))⟩, fun G F H σ en Q Qd Qe R q x k =>
  ha.sim G F H σ en _ _ Qe R q x fun v d F1 H1 en1 e1 R1 i1 q1 => hb.sim G F1 H1 σ en1 _ _ Qe R1 q1 x fun u d2 F2 H2 en2 e2 R2 i2 q2 => by
    obtain ⟨⟨ns, ds, rfl⟩, ⟨i, rfl⟩, q2⟩ := q2
    have i1 := Is.mono e2 _ _ i1
    obtain ⟨a, dx, vs, rfl, s, n, l⟩ := id i1
    cases i2
    exact ⟨a, dx, _, i, rfl, R2.le _ _ s, rfl, sp_run (ds := [.obj C ns ds, .int i]) (Qd := fun r => Qd r en2) (Qe := fun x => Qe x en2) R2 ⟨_, _, rfl, i1, IsL.single (show Is (kk X) F2 (.int i) (.int i) from rfl)⟩ q2 (fun v r F3 H3 e3 R3 i3 q3 => k v r F3 H3 en2 ((e1.trans e2).trans e3) R3 i3 q3)
      fun y cls d F3 H3 R3 i3 q3 => x y F3 H3 σ en2 cls d R3 i3 q3⟩⟩
end

/-! ### x in a name's own list -/
def dInV (neg : Bool) (i : Nat) (a : TDE) : TDE := fun en Q Qe => a en (fun x en1 => match peek en1 i with
  | some l => inD neg x l fun z => Q z en1
  | none => False) Qe
section
variable {X : Cx} {W : WX} {K : KW}
theorem inD_own {neg : Bool} {G : Gh} {F H : Hp} {σ : L2.St} {en : En} {a : Addr} {x : V} {dx dy : D} {Q : VK} {Qd : D → Prop} (R : Rel K G F H σ en) (ix : Is K F dx x) (iy : OwAt K F H a dy) (q : inD neg dx dy Qd)
    (k : ∀ z dz, Is K F dz z → Qd dz → Q z H) : rInX K neg x (.ref a) H Q := by
  unfold inD at q
  split at q
  · obtain ⟨vs, ha, la⟩ := iy
    exact .inl <| .inl ⟨a, vs, rfl, .inl (SqL.of ha), flatV_of ix q.1, flatL_of la q.2.1, k _ _ iB (by rw [neg_if, inV_of ix q.1 la q.2.1]; exact q.2.2)⟩
  · exact iy.elim
  · exact iy.elim
  · exact iy.elim
  · obtain ⟨ks, kvs, us, hh⟩ := dhas_ow iy
    exact .inr (in_dct R.le ix hh q k)
  · exact q.elim
theorem sim_inV {neg : Bool} {i : Nat} {ta : TE} {da : TDE} (ha : Sim K W ta da) : Sim K W (tOp (rInX K neg) ta (tVar i)) (dInV neg i da) := fun G F H σ en Q Qd Qe R q x k =>
  ha G F H σ en _ _ Qe R q x fun v d F1 H1 en1 e1 R1 i1 q1 => by
    split at q1
    · rename_i l e
      obtain ⟨u, h1, h2⟩ := peek_own R1 e
      refine ⟨u, h1, ?_⟩
      rcases h2 with h2 | ⟨a, rfl, h2⟩
      · exact sim_in G F1 H1 σ en1 v u d l Q (fun z => Qd z en1) R1 i1 h2 q1 fun z dz F3 H3 e3 R3 i3 q3 => k z dz F3 H3 en1 (e1.trans e3) R3 i3 q3
      · exact inD_own R1 i1 h2 q1 fun z dz i q' => k z dz F1 H1 en1 e1 R1 i q'
    · exact q1.elim
section
variable {i : Nat} {a : Expr} {y : Str} {p pos : Pos} {ta : TE} {da : TDE}
theorem de_inV (hu : X.A.units + 64 < cLine) (ha : DE X W a ta da) (hN : X.N[i]? = some y := by rfl) (hv : Vis X.env.scope y := by first | exact Or.inl rfl | exact Or.inr (Or.inl rfl) | exact Or.inr (Or.inr rfl)) (hd : (y == ("__debug__" : Str)) = false := by decide)
    (hcd : (y == ("__classdict__" : Str)) = false := by decide) : DE X W (.Compare a [.In] [.Name y p] pos) (tOp (rInX (kk X) false) ta (tVar i)) (dInV false i da) := ⟨pe_cmpR (op_inX hu) ha.pe (pe_var hN hv hd hcd) rfl, sim_inV ha.sim⟩
theorem de_notInV (hu : X.A.units + 64 < cLine) (ha : DE X W a ta da) (hN : X.N[i]? = some y := by rfl) (hv : Vis X.env.scope y := by first | exact Or.inl rfl | exact Or.inr (Or.inl rfl) | exact Or.inr (Or.inr rfl)) (hd : (y == ("__debug__" : Str)) = false := by decide)
    (hcd : (y == ("__classdict__" : Str)) = false := by decide) : DE X W (.Compare a [.NotIn] [.Name y p] pos) (tOp (rInX (kk X) true) ta (tVar i)) (dInV true i da) := ⟨pe_cmpR (op_notInX hu) ha.pe (pe_var hN hv hd hcd) rfl, sim_inV ha.sim⟩
theorem dt_inV (hu : X.A.units + 64 < cLine) (ha : DE X W a ta da) (hN : X.N[i]? = some y := by rfl) (hv : Vis X.env.scope y := by first | exact Or.inl rfl | exact Or.inr (Or.inl rfl) | exact Or.inr (Or.inr rfl)) (hd : (y == ("__debug__" : Str)) = false := by decide)
    (hcd : (y == ("__classdict__" : Str)) = false := by decide) : DT X W (.Compare a [.In] [.Name y p] pos) (tTest (tOp (rInX (kk X) false) ta (tVar i))) (dTest (dInV false i da)) := ⟨pt_cmpR (op_inX hu) ha.pe (pe_var hN hv hd hcd) rfl, sim_test (sim_inV ha.sim)⟩
theorem dt_notInV (hu : X.A.units + 64 < cLine) (ha : DE X W a ta da) (hN : X.N[i]? = some y := by rfl) (hv : Vis X.env.scope y := by first | exact Or.inl rfl | exact Or.inr (Or.inl rfl) | exact Or.inr (Or.inr rfl)) (hd : (y == ("__debug__" : Str)) = false := by decide)
    (hcd : (y == ("__classdict__" : Str)) = false := by decide) : DT X W (.Compare a [.NotIn] [.Name y p] pos) (tTest (tOp (rInX (kk X) true) ta (tVar i))) (dTest (dInV true i da)) := ⟨pt_cmpR (op_notInX hu) ha.pe (pe_var hN hv hd hcd) rfl, sim_test (sim_inV ha.sim)⟩
end
end
/-! ### what the readings unfold to -/
@[simp ↓] theorem r_InV {neg : Bool} {i : Nat} {a : TDE} {en : En} {Q : D → En → Prop} {Qe : Qx} : dInV neg i a en Q Qe = a en (fun x en1 => match peek en1 i with | some l => inD neg x l fun z => Q z en1 | none => False) Qe := by rfl
@[simp ↓] theorem r_OwnI {C : String} {sd : SpD} {a b : TDE} {en : En} {Q : D → En → Prop} {Qe : Qx} : dOwnI C sd a b en Q Qe = a en (fun x en1 => b en1 (fun y en2 => (∃ ns vs, x = .obj C ns vs) ∧ (∃ i, y = .int i) ∧ sd [x, y] (fun r _ => Q r en2) fun x _ => Qe x en2) Qe) Qe := by rfl
@[simp ↓] theorem r_Kdx {tb : List (Str × D)} {e : TDE} {en : En} {Q : D → En → Prop} {Qe : Qx} : dKdx tb e en Q Qe = e en (fun d en1 => ∃ z v, d = .str z ∧ tb.lookup z = some v ∧ Q v en1) Qe := by rfl
@[simp ↓] theorem r_List {a : TDE} {en : En} {Q : D → En → Prop} {Qe : Qx} : dList a en Q Qe = a en (fun d en1 => match seqOf d with | some xs => Q (.lst xs) en1 | none => False) Qe := by rfl
@[simp ↓] theorem r_seqL {l : List D} : seqOf (.lst l) = some l := by rfl
@[simp ↓] theorem r_seqK {l : List D} : seqOf (.lck l) = some l := by rfl
@[simp ↓] theorem r_seqT {l : List D} : seqOf (.tup l) = some l := by rfl
@[simp ↓] theorem r_tupL {l : List D} {Q : D → Prop} : tupleD [.lst l] Q = Q (.tup l) := by rfl
@[simp ↓] theorem r_tupK {l : List D} {Q : D → Prop} : tupleD [.lck l] Q = Q (.tup l) := by rfl
@[simp ↓] theorem r_tupT {l : List D} {Q : D → Prop} : tupleD [.tup l] Q = Q (.tup l) := by rfl
@[simp ↓] theorem r_strI {i : Int} {Q : D → Prop} : strD [.int i] Q = (i.natAbs.log2 < 1920 ∧ Q (.str (toString i))) := by rfl
@[simp ↓] theorem r_strS {i : Str} {Q : D → Prop} : strD [.str i] Q = Q (.str i) := by rfl
@[simp ↓] theorem r_Join {a b : TDE} {en : En} {Q : D → En → Prop} {Qe : Qx} : dJoin a b en Q Qe = a en (fun x en1 => (∃ s, x = .str s) ∧ b en1 (fun y en2 => joinD x y fun z => Q z en2) Qe) Qe := by rfl
@[simp ↓] theorem r_stSp {n : Nat} {sd : SpD} {ds : List D} {Qd : D → List D → Prop} {Qe : Exn → List D → Prop} : stSp n sd ds Qd Qe = (n ≤ ds.length ∧ ds.length ≤ sizeLine ∧ sd (ds.take n ++ [.tup (ds.drop n)]) Qd Qe) := by rfl
end DL

/-! The D layer, part 15: {}, displays, get. -/
namespace DL
open PySem L2

section
variable {X : Cx} {W : WX} {K : KW} {pos : Pos}
theorem inv_big {pins : List (Addr × Obj)} {σ : L2.St} {H : Hp} {s : Shared} (I : L2.Inv X pins σ H s) : (s.heap.objs.size == sysModules) = false := beq_eq_false_iff_ne.mpr (Ne.symm (Nat.ne_of_lt I.big))
def tDNewX (K : KW) : TE := fun _ H Q => ∀ p, H p = none → (p == sysModules) = false → Q (.ref p) (upd H p (.ext (DkΦ K.w p [] [] [])))
theorem pe_dnewX : PE X (.Dict [] [] pos) (tDNewX (kk X)) := ⟨fun pins s σ H Q I h =>
  wpAny_Dict_empty ⟨.ref s.heap.objs.size, _, I.laid (a := s.heap.objs.size) (o := .ext (DkΦ X.w s.heap.objs.size [] [] [])) (t' := s.toks) (fun _ _ q => Heap.get?_push_of_some _ q) (Nat.le_refl _) (dkφ_ext ⟨_, Heap.get?_push_size _ rfl, ⟨rfl, rfl, rfl⟩, ⟨#[], 0, rfl, .nil⟩, List.nodup_nil⟩), rfl, h _ (I.hok.fresh (Nat.le_refl _)) (inv_big I)⟩⟩
def dNewD : TDE := fun en Q _ => Q (.dct [] []) en
theorem do_dnew : DO X W (.Dict [] [] pos) (tDNewX (kk X)) dNewD := ⟨pe_dnewX, fun G F H σ en Q Qd Qe R q x k p hp hs => by
  have R2 : Rel (kk X) G F (upd H p (.ext (DkΦ X.w p [] [] []))) σ en := R.fresh hp
  exact k p (.dct [] []) F _ en (Same.refl F) R2 (Tmp.of R hp ⟨[], [], [], upd_same, hs, ⟨rfl, Nat.zero_le _⟩, rfl, rfl⟩) q⟩

/-! ### displays with written texts as keys -/
theorem dk_conv {pins : List (Addr × Obj)} {σ : L2.St} {H : Hp} {s : Shared} {p : Addr} {kvs : List (Key × V)} (I : L2.Inv X pins σ H s) (h : H p = some (.dK kvs)) : (p == sysModules) = false ∧ L2.Inv X pins σ (upd H p (.ext (DkΦ X.w p (kvs.map fun q => nkM q.1) (kvs.map fun q => kV q.1) (kvs.map (·.2))))) s := by
  obtain ⟨z, hs, vs, rel, dd⟩ := I.hok p _ h
  have r : Vals (kvs.map (·.2)) (vs.map (·.2)) := by
    clear dd h z
    unfold KV at rel
    induction rel with
    | nil => exact .nil
    | cons r _ ih => exact .cons r.2 ih
  have e1 : (vs.map fun v => (fkM X.prog X.w).nk v.1) = kvs.map fun q => nkM q.1 := by
    clear dd h z r
    unfold KV at rel
    induction rel with
    | nil => rfl
    | cons r _ ih => rw [List.map_cons, List.map_cons, ih, ← r.1]; rfl
  have e2 : (vs.map fun v => (fkM X.prog X.w).kv v.1) = kvs.map fun q => kV q.1 := by
    clear dd h z r e1
    unfold KV at rel
    induction rel with
    | nil => rfl
    | cons r _ ih => rw [List.map_cons, List.map_cons, ih, ← r.1]; rfl
  have bk := (fkM X.prog X.w).back dd (fun _ _ => trivial) r
  rw [e1, e2] at bk
  have ho : ∃ u, s.heap.get? p = some u := bk.imp fun _ y => y.1
  exact ⟨hs, I.write (x := p) (e := p) (t' := s.toks) (h' := s.heap) (by rw [h]; exact True.intro) (.inl rfl) (fun b v _ q => q) ho (dkφ_ext bk)⟩
/-- keys and values, from the left -/
def dPrs : List (Str × TDE) → TDA
  | [] => fun en Q _ => Q [] en
  | (_, e) :: r => fun en Q Qe => e en (fun d en1 => dPrs r en1 (fun ds en2 => Q (d :: ds) en2) Qe) Qe
def SimPs (K : KW) (W : WX) (trs : List (TE × TE)) (ks : List Str) (td : TDA) : Prop := ∀ G F H σ en (Q : List (V × V) → Hp → Prop) Qd Qe, Rel K G F H σ en → td en Qd Qe → XR K W G Qe →
  (∀ vs ds F' H' en', Same F F' → Rel K G F' H' σ en' → IsL K F' ds vs → vs.length = ks.length → Qd ds en' → Q ((ks.map V.str).zip vs) H') → tPairs trs σ H Q
structure DPs (X : Cx) (W : WX) (pos : Pos) (keys : List (Option Expr)) (values : List Expr) (trs : List (TE × TE)) (ks : List Str) (td : TDA) : Prop where
  pps : PPs X pos keys values trs
  sim : SimPs (kk X) W trs ks td
  len : keys.length = ks.length ∧ values.length = ks.length ∧ keys.all (·.isSome) = true
theorem dps_nil : DPs X W pos [] [] [] [] (dPrs []) := ⟨pps_nil, fun G F H σ en Q Qd Qe R q x k => k [] [] F H en (Same.refl F) R rfl rfl q, rfl, rfl, rfl⟩
theorem dps_cons {k : Str} {v : Expr} {ks : List (Option Expr)} {vs : List Expr} {tv : TE} {trs : List (TE × TE)} {td : TDE} {xs : List Str} {r : List (Str × TDE)} {j : Nat} {p : Pos} (h : DE X W v tv td) (hr : DPs X W pos ks vs trs xs (dPrs r)) :
    DPs X W pos (some (.Constant (.str k) j p) :: ks) (v :: vs) ((tC (.str k), tv) :: trs) (k :: xs) (dPrs ((k, td) :: r)) := ⟨pps_cons pe_str h.pe hr.pps, fun G F H σ en Q Qd Qe R q x kk' => by
  refine h.sim G F H σ en _ _ Qe R q x fun u d F1 H1 en1 e1 R1 i1 q1 => hr.sim G F1 H1 σ en1 _ _ Qe R1 q1 x fun us ds F2 H2 en2 e2 R2 i2 l2 q2 => ?_
  exact kk' (u :: us) (d :: ds) F2 H2 en2 (e1.trans e2) R2 ⟨u, us, rfl, Is.mono e2 _ _ i1, i2⟩ (by simp [l2]) q2, by simp [hr.len.1], by simp [hr.len.2.1], by simp [hr.len.2.2]⟩
def txd (ks : List Str) : List D := ks.map D.str
theorem nkL_txd : ∀ {ks : List Str}, nkL (txd ks) = some (ks.map .text)
  | [] => rfl
  | k :: ks => nkL_cons' rfl (nkL_txd (ks := ks))
theorem is_txd {F : Hp} : ∀ ks : List Str, IsL K F (txd ks) (ks.map V.str)
  | [] => rfl
  | k :: ks => ⟨_, _, rfl, rfl, is_txd ks⟩
theorem merge_new : ∀ (more kvs : List (Key × V)), ((kvs ++ more).map (·.1)).Nodup → mergeK kvs more = kvs ++ more
  | [], kvs, _ => by simp [mergeK]
  | kv :: more, kvs, h => by
    have e : putK kvs kv.1 kv.2 = kvs ++ [kv] := by
      refine putK_new _ ?_
      unfold valV
      rw [Option.map_eq_none_iff, List.find?_eq_none]
      intro y hy z
      have z := of_decide_eq_true z
      rw [List.map_append, List.nodup_append] at h
      exact h.2.2 y.1 (List.mem_map.mpr ⟨y, hy, rfl⟩) kv.1 (by simp) z
    show mergeK (putK kvs kv.1 kv.2) more = _
    rw [e, merge_new more (kvs ++ [kv]) (by rw [List.append_assoc]; exact h), List.append_assoc]
    rfl
/-- an object that no slot holds, and that stays through what is read now -/
structure AsideN (K : KW) (G : Gh) (F H : Hp) (σ : L2.St) (en : En) (a : Addr) : Prop where
  nf : F a = none
  at_ : H a ≠ none
  n0 : ¬ G.P a ∧ ∀ p ∈ G.io, p.2 ≠ a
  ns : ∀ (i : Nat) b e, en[i]? = some (some (Ent.ow b e)) → σ[i]? ≠ some (some (V.ref a))
section
variable {G : Gh} {F H F' H' : Hp} {σ σ' : L2.St} {en en' : En} {a : Addr}
theorem AsideN.of (R : Rel K G F H σ en) {p : Addr} {o : HO} (h : H p = none) : AsideN K G F (upd H p o) σ en p := ⟨R.free h, by rw [upd_same]; simp, R.free0 h, fun i b e h1 h2 => by
  obtain ⟨a', k1, _, k3, _⟩ := R.ow i b e h1
  rw [h2] at k1
  cases k1
  exact k3.there h⟩
theorem AsideN.plus (T : AsideN K G F H σ en a) (R : Rel K G F H σ en) : Rel K (G.plus H a) F H σ en :=
  { R with
    pr := fun b z => by
      by_cases h : b = a
      · subst h
        show H b = (if b = b then H b else G.H0 b) ∧ (if b = b then H b else G.H0 b) ≠ none ∧ _
        rw [if_pos rfl]
        exact ⟨rfl, T.at_, fun _ => T.nf⟩
      · show H b = (if b = a then H a else G.H0 b) ∧ (if b = a then H a else G.H0 b) ≠ none ∧ _
        rw [if_neg h]
        exact R.pr b (z.elim id fun q => absurd q h)
    ow := fun i b d e => by
      obtain ⟨c, h1, h2, h3, h4, h5⟩ := R.ow i b d e
      exact ⟨c, h1, h2, h3, fun z => z.elim h4 fun q => T.ns i b d e (by rw [← q]; exact h1), h5⟩ }
theorem AsideN.minus (T : AsideN K G F H σ en a) (h0 : G.F0 a = none) (R : Rel K (G.plus H a) F' H' σ' en') : Rel K G F' H' σ' en' ∧ AsideN K G F' H' σ' en' a ∧ H' a = H a := by
  have p := R.pr a (.inr rfl)
  have p1 : H' a = (if a = a then H a else G.H0 a) := p.1
  rw [if_pos rfl] at p1
  have na : F' a = none := p.2.2 h0
  refine ⟨{ R with
    pr := fun b z => ?_
    ow := fun i b d k => ?_ }, ⟨na, by rw [p1]; exact T.at_, T.n0, fun i b d k1 k2 => ?_⟩, p1⟩
  · have hne : b ≠ a := fun q => T.n0.1 (by rw [← q]; exact z)
    have w := R.pr b (.inl z)
    have w1 : H' b = (if b = a then H a else G.H0 b) := w.1
    have w2 : (if b = a then H a else G.H0 b) ≠ none := w.2.1
    rw [if_neg hne] at w1 w2
    exact ⟨w1, w2, w.2.2⟩
  · obtain ⟨c, h1, h2, h3, h4, h5⟩ := R.ow i b d k
    exact ⟨c, h1, h2, h3, fun z => h4 (.inl z), h5⟩
  · obtain ⟨c, h1, h2, h3, h4, h5⟩ := R.ow i b d k1
    rw [k2] at h1
    cases h1
    exact h4 (.inr rfl)
/-- such an object is written -/
theorem AsideN.write (T : AsideN K G F H σ en a) (R : Rel K G F H σ en) (o : HO) : Rel K G F (upd H a o) σ en ∧ AsideN K G F (upd H a o) σ en a := by
  refine ⟨?_, T.nf, by rw [upd_same]; simp, T.n0, T.ns⟩
  refine R.step (fun z => z = a) (Same.refl F) (fun c u q => ?_) (fun c k1 k2 => absurd k1 k2) (fun c u q m => by rw [upd_ne m]; exact q) (fun c z => by subst z; exact ⟨T.n0.1, by rw [upd_same]; simp⟩) rfl (fun j f q => .inl q) fun j b f q => ?_
  · have ne : c ≠ a := fun z => by
      subst z
      rw [T.nf] at q
      cases q
    rw [upd_ne ne]
    exact R.le _ _ q
  · obtain ⟨a2, q1, q2, q3, _⟩ := R.ow j b f q
    refine ⟨a2, f, q1, q, q3.move (Same.refl F) (upd_ne fun z => ?_)⟩
    subst z
    exact T.ns j b f q q1
end
def tDispX (K : KW) (trs : List (TE × TE)) : TE := fun σ H Q => tDisp trs σ H fun v H' => ∃ (p : Addr) (kvs : List (Key × V)), v = .ref p ∧ H' p = some (.dK kvs) ∧ ((p == sysModules) = false → Q (.ref p) (upd H' p (.ext (DkΦ K.w p (kvs.map fun q => nkM q.1) (kvs.map fun q => kV q.1) (kvs.map (·.2))))))
theorem pe_dispX {keys : List (Option Expr)} {values : List Expr} {trs : List (TE × TE)} (h : PPs X pos keys values trs) (hall : keys.all (·.isSome) = true) (hl : keys.length = values.length) (h0 : keys ≠ []) (h15 : keys.length ≤ 15) : PE X (.Dict keys values pos) (tDispX (kk X) trs) := by
  refine ⟨fun pins s σ H Q I hq => thn ((pe_disp h hall hl h0 h15).run pins s σ H _ I hq) fun u s1 ⟨v, H1, I1, r, p, kvs, e1, e2, q⟩ => ?_⟩
  subst e1
  obtain ⟨hs, I2⟩ := dk_conv I1 e2
  exact ⟨.ref p, _, I2, r, q hs⟩
/-- a display, its keys texts written there, no two alike -/
def dDisp (prs : List (Str × TDE)) : TDE := fun en Q _ => dPrs prs en (fun ds en1 => Q (.dct (txd (prs.map (·.1))) ds) en1) fun _ _ => False
theorem zip_kv : ∀ (ks : List Str) (vs : List V), vs.length = ks.length → ∃ kvs : List (Key × V), (ks.map V.str).zip vs = kvs.map (fun kv => (kV kv.1, kv.2)) ∧ kvs.length = ks.length ∧ kvs.map (·.1) = ks.map Sum.inr ∧ (kvs.map fun q => nkM q.1) = ks.map .text ∧ (kvs.map fun q => kV q.1) = ks.map V.str ∧ kvs.map (·.2) = vs
  | [], [], _ => ⟨[], rfl, rfl, rfl, rfl, rfl, rfl⟩
  | [], _ :: _, h => by simp at h
  | _ :: _, [], h => by simp at h
  | k :: ks, v :: vs, h => by
    obtain ⟨kvs, e1, e2, e3, e4, e5, e6⟩ := zip_kv ks vs (by simpa using h)
    exact ⟨(.inr k, v) :: kvs, by simp [e1, kV], by simp [e2], by simp [e3], by rw [List.map_cons, List.map_cons, e4]; rfl, by rw [List.map_cons, List.map_cons, e5]; rfl, by simp [e6]⟩
theorem do_disp {keys : List (Option Expr)} {values : List Expr} {trs : List (TE × TE)} {ks : List Str} {prs : List (Str × TDE)} (h : DPs X W pos keys values trs ks (dPrs prs)) (hk : prs.map (·.1) = ks := by rfl) (hn : ks.Nodup := by decide) (h0 : keys ≠ [] := by simp) (h15 : keys.length ≤ 15 := by decide) :
    DO X W (.Dict keys values pos) (tDispX (kk X) trs) (dDisp prs) := ⟨pe_dispX h.pps h.len.2.2 (h.len.1.trans h.len.2.1.symm) h0 h15, fun G F H σ en Q Qd Qe R q x k p hp => by
  have R2 : Rel (kk X) G F (upd H p (.dK [])) σ en := R.fresh hp
  have T := AsideN.of R (o := .dK []) hp
  have n0 : G.F0 p = none := R.f0.free (R.free hp)
  refine h.sim (G.plus (upd H p (.dK [])) p) F (upd H p (.dK [])) σ en _ _ (fun _ _ => False) (T.plus R2) q (fun _ _ _ _ _ _ _ _ _ z => z.elim) fun vs ds F3 H3 en3 e3 R3 i3 l3 q3 => ?_
  obtain ⟨R4, T4, hp4⟩ := T.minus n0 R3
  rw [upd_same] at hp4
  obtain ⟨kvs, a1, a2, a3, a4, a5, a6⟩ := zip_kv ks vs l3
  have nd : (kvs.map (·.1)).Nodup := by
    rw [a3]
    exact List.Pairwise.map Sum.inr (fun a b hab e => hab (Sum.inr.inj e)) hn
  refine ⟨hp4, kvs, a1, by rw [a2, ← h.len.1]; exact h15, p, kvs, rfl, ?_, fun hs => ?_⟩
  · rw [upd_same, merge_new kvs [] nd]; rfl
  · rw [upd_upd, a4, a5, a6]
    obtain ⟨R5, T5⟩ := T4.write R4 (.ext (DkΦ X.w p (ks.map .text) (ks.map V.str) vs))
    refine k p (.dct (txd (prs.map (·.1))) ds) F3 _ en3 e3 R5 ⟨T5.nf, ?_, T5.n0, T5.ns⟩ q3
    rw [hk]
    refine ⟨ks.map .text, ks.map V.str, vs, upd_same, hs, ⟨nkL_txd, ?_⟩, is_txd ks, i3⟩
    rw [List.length_map, ← h.len.1, sizeLine_eq]
    omega⟩
end

/-! ### d.get -/
section
variable {X : Cx} {W : WX} {o e f : Expr} {apos cpos : Pos} {td ty tx : TE} {dd dy dx : TDE}
def tGet1 (K : KW) (td ty : TE) : TE := fun σ H Q => td σ H fun x H1 => ∃ a, x = .ref a ∧ (∃ ks kvs us, DAt K.w H1 a ks kvs us) ∧ ty σ H1 fun y H2 => ∃ ks kvs us k, DAt K.w H2 a ks kvs us ∧ Kfit K H2 ks kvs k y ∧ Q ((lkp ks us k).getD .non) H2
def tGet2 (K : KW) (td ty tx : TE) : TE := fun σ H Q => td σ H fun x H1 => ∃ a, x = .ref a ∧ (∃ ks kvs us, DAt K.w H1 a ks kvs us) ∧ ty σ H1 fun y H2 => tx σ H2 fun z H3 => ∃ ks kvs us k, DAt K.w H3 a ks kvs us ∧ Kfit K H3 ks kvs k y ∧ Q ((lkp ks us k).getD z) H3
theorem dat_at {pins : List (Addr × Obj)} {σ : L2.St} {H : Hp} {s : Shared} {a : Addr} {ks : List NestedKey} {kvs us : List V} (I : L2.Inv X pins σ H s) (hd : DAt X.w H a ks kvs us) : s.TypeIs (.ref a) "dict" ∧ (∀ b, Value.ref a = .ref b → ∃ ob, s.heap.get? b = some ob ∧ ob.dict = none) := by
  obtain ⟨ob, ho, hx, _⟩ := hd.obj I
  exact ⟨⟨ob, ho, hx.1⟩, fun b q => by cases q; exact ⟨ob, ho, hx.2.1⟩⟩
theorem pe_get1 (hu : X.A.units + 64 < cLine) (ho : PE X o td) (he : PE X e ty) (m : M1 X o "get" apos e cpos) : PE X (.Call (.Attribute o "get" apos) [e] [] cpos) (tGet1 (kk X) td ty) := by
  refine ⟨fun pins s σ H Q I h => ?_⟩
  refine wpAny_Call_method m.base m.few m.line PySem.F.plainAttrs_dict PySem.F.slot_dict_get PySem.F.type_dict_get (thn (ho.run pins s σ H _ I h) fun u s1 ⟨x, H1, I1, rx, a, ex, ⟨ks, kvs, us, d⟩, q1⟩ => ?_)
  subst ex
  obtain rfl : u = Value.ref a := rx
  obtain ⟨t1, t2⟩ := dat_at I1 d
  refine ⟨t1, t2, ?_⟩
  rw [m.trees]
  refine Calls.callWith_builtin rfl (Calls.evalArgs_plain (Calls.spliced_cons (thn (he.run pins s1 σ H1 _ I1 q1) fun iv s2 ⟨y, H2, I2, ry, ks, kvs, us, k, hd, hf, q2⟩ => Calls.spliced_nil ?_)))
  exact dd_get1 hu I2 hd hf ry fun w' s3 I3 rw' => ⟨_, H2, I3, rw', q2⟩
theorem pe_get2 (hu : X.A.units + 64 < cLine) (ho : PE X o td) (he : PE X e ty) (hf : PE X f tx) (m : M2 X o "get" apos e f cpos) : PE X (.Call (.Attribute o "get" apos) [e, f] [] cpos) (tGet2 (kk X) td ty tx) := by
  refine ⟨fun pins s σ H Q I h => ?_⟩
  refine wpAny_Call_method m.base m.few m.line PySem.F.plainAttrs_dict PySem.F.slot_dict_get PySem.F.type_dict_get (thn (ho.run pins s σ H _ I h) fun u s1 ⟨x, H1, I1, rx, a, ex, ⟨ks, kvs, us, d⟩, q1⟩ => ?_)
  subst ex
  obtain rfl : u = Value.ref a := rx
  obtain ⟨t1, t2⟩ := dat_at I1 d
  refine ⟨t1, t2, ?_⟩
  rw [m.trees]
  refine Calls.callWith_builtin rfl (Calls.evalArgs_plain (Calls.spliced_cons (thn (he.run pins s1 σ H1 _ I1 q1) fun iv s2 ⟨y, H2, I2, ry, q2⟩ =>
    Calls.spliced_cons (thn (hf.run pins s2 σ H2 _ I2 q2) fun fv s3 ⟨z, H3, I3, rz, ks, kvs, us, k, hd, hft, q3⟩ => Calls.spliced_nil ?_))))
  exact dd_get2 hu I3 hd hft ry rz fun w' s4 I4 rw' => ⟨_, H3, I4, rw', q3⟩
/-- d.get(k), d.get(k, x), d frozen -/
def dGet1 (o k : TDE) : TDE := fun en Q Qe => o en (fun d en1 => match d with
  | .dct ds es => k en1 (fun j en2 => fitD ds j = true ∧ Q ((lkD ds es j).getD .non) en2) Qe
  | _ => False) Qe
def dGet2 (o k f : TDE) : TDE := fun en Q Qe => o en (fun d en1 => match d with
  | .dct ds es => k en1 (fun j en2 => f en2 (fun z en3 => fitD ds j = true ∧ Q ((lkD ds es j).getD z) en3) Qe) Qe
  | _ => False) Qe
theorem get_is {K : KW} {F : Hp} {ds es : List D} {d z : D} {w : V} {k : NestedKey} {ks : List NestedKey} {us : List V} (hd : nkD d = some k) (h : nkL ds = some ks) (l : IsL K F es us) (i : Is K F z w) : Is K F ((lkD ds es d).getD z) ((lkp ks us k).getD w) := by
  obtain ⟨l1, l2⟩ := lk_of (K := K) (F := F) hd h l
  cases e : lkD ds es d with
  | none => rw [l2 e]; exact i
  | some x =>
    obtain ⟨v, h1, h2⟩ := l1 x e
    rw [h1]; exact h2
theorem de_get1 (hu : X.A.units + 64 < cLine) (ho : DE X W o td dd) (he : DE X W e ty dy) (m : M1 X o "get" apos e cpos := by exact ⟨rfl, rfl, rfl, rfl⟩) : DE X W (.Call (.Attribute o "get" apos) [e] [] cpos) (tGet1 (kk X) td ty) (dGet1 dd dy) := ⟨pe_get1 hu ho.pe he.pe m, fun G F H σ en Q Qd Qe R q x k =>
  ho.sim G F H σ en _ _ Qe R q x fun v d F1 H1 en1 e1 R1 i1 q1 => by
    cases d with
    | dct ds es =>
      have i1' := i1
      obtain ⟨a, ob, u, ks, kvs, us, rfl, h1, h2, h3, ⟨h4, h4'⟩, h5, h6⟩ := i1
      refine ⟨a, rfl, ⟨ks, kvs, us, h2, .inl ⟨ob, u, R1.le _ _ h1, h3⟩⟩, he.sim G F1 H1 σ en1 _ _ Qe R1 q1 x fun y j F2 H2 en2 e2 R2 i2 q2 => ?_⟩
      obtain ⟨n, hn⟩ := fit_some q2.1
      refine ⟨ks, kvs, us, n, ⟨h2, .inl ⟨ob, u, R2.le _ _ (e2 _ _ h1), h3⟩⟩, kfit_of R2.le h4 (IsL.mono e2 _ _ h5) hn i2 q2.1, k _ _ F2 H2 en2 (e1.trans e2) R2 (get_is (z := .non) hn h4 (IsL.mono e2 _ _ h6) rfl) q2.2⟩
    | _ => exact q1.elim⟩
theorem de_get2 (hu : X.A.units + 64 < cLine) (ho : DE X W o td dd) (he : DE X W e ty dy) (hf : DE X W f tx dx) (m : M2 X o "get" apos e f cpos := by exact ⟨rfl, rfl, rfl, rfl⟩) : DE X W (.Call (.Attribute o "get" apos) [e, f] [] cpos) (tGet2 (kk X) td ty tx) (dGet2 dd dy dx) := ⟨pe_get2 hu ho.pe he.pe hf.pe m, fun G F H σ en Q Qd Qe R q x k =>
  ho.sim G F H σ en _ _ Qe R q x fun v d F1 H1 en1 e1 R1 i1 q1 => by
    cases d with
    | dct ds es =>
      obtain ⟨a, ob, u, ks, kvs, us, rfl, h1, h2, h3, ⟨h4, h4'⟩, h5, h6⟩ := i1
      refine ⟨a, rfl, ⟨ks, kvs, us, h2, .inl ⟨ob, u, R1.le _ _ h1, h3⟩⟩, he.sim G F1 H1 σ en1 _ _ Qe R1 q1 x fun y j F2 H2 en2 e2 R2 i2 q2 => hf.sim G F2 H2 σ en2 _ _ Qe R2 q2 x fun z g F3 H3 en3 e3 R3 i3 q3 => ?_⟩
      obtain ⟨n, hn⟩ := fit_some q3.1
      have e23 := e2.trans e3
      refine ⟨ks, kvs, us, n, ⟨h2, .inl ⟨ob, u, R3.le _ _ (e23 _ _ h1), h3⟩⟩, kfit_of R3.le h4 (IsL.mono e23 _ _ h5) hn (Is.mono e3 _ _ i2) q3.1, k _ _ F3 H3 en3 (e1.trans e23) R3 (get_is hn h4 (IsL.mono e23 _ _ h6) i3) q3.2⟩
    | _ => exact q1.elim⟩
/-- the same of a name's own dict, not frozen -/
def ownDc (en : En) (i : Nat) : Bool := match ownAt en i with
  | some (_, .dct _ _) => true
  | _ => false
theorem ownDc_of {en : En} {i : Nat} (h : ownDc en i = true) : ∃ b ds es, ownAt en i = some (b, .dct ds es) := by
  unfold ownDc at h
  cases e : ownAt en i with
  | none => rw [e] at h; cases h
  | some x =>
    obtain ⟨b, d⟩ := x
    rw [e] at h
    cases d with
    | dct ds es => exact ⟨b, ds, es, rfl⟩
    | _ => cases h
def dGetV2 (i : Nat) (k f : TDE) : TDE := fun en Q Qe => ownDc en i = true ∧ k en (fun j en2 => f en2 (fun z en3 => match ownAt en3 i with
  | some (_, .dct ds es) => fitD ds j = true ∧ Q ((lkD ds es j).getD z) en3
  | _ => False) Qe) Qe
theorem de_getV2 (hu : X.A.units + 64 < cLine) {i : Nat} {y : Str} {p : Pos} (he : DE X W e ty dy) (hf : DE X W f tx dx) (hN : X.N[i]? = some y := by rfl) (hv : Vis X.env.scope y := by first | exact Or.inl rfl | exact Or.inr (Or.inl rfl) | exact Or.inr (Or.inr rfl)) (hd2 : (y == ("__debug__" : Str)) = false := by decide)
    (hcd : (y == ("__classdict__" : Str)) = false := by decide) (m : M2 X (.Name y p) "get" apos e f cpos := by exact ⟨rfl, rfl, rfl, rfl⟩) : DE X W (.Call (.Attribute (.Name y p) "get" apos) [e, f] [] cpos) (tGet2 (kk X) (tVar i) ty tx) (dGetV2 i dy dx) := ⟨pe_get2 hu (pe_var hN hv hd2 hcd) he.pe hf.pe m, fun G F H σ en Q Qd Qe R q x k => by
  obtain ⟨q0, q⟩ := q
  obtain ⟨b0, ds0, es0, e0⟩ := ownDc_of q0
  obtain ⟨a, h1, n1, hw, _⟩ := R.ow i b0 _ (ownAt_eq e0)
  obtain ⟨ks0, kvs0, us0, hs0, hb0, _⟩ := hw
  refine ⟨_, h1, a, rfl, ⟨ks0, kvs0, us0, hb0, .inr hs0⟩, he.sim G F H σ en _ _ Qe R q x fun v j F2 H2 en2 e2 R2 i2 q2 => hf.sim G F2 H2 σ en2 _ _ Qe R2 q2 x fun z g F3 H3 en3 e3 R3 i3 q3 => ?_⟩
  cases e4 : ownAt en3 i with
  | none => rw [e4] at q3; exact q3.elim
  | some bd =>
    obtain ⟨b, d⟩ := bd
    rw [e4] at q3
    cases d with
    | dct ds es =>
      obtain ⟨qf, q3⟩ := q3
      obtain ⟨a', h1', n1', hw', _⟩ := R3.ow i b _ (ownAt_eq e4)
      rw [h1] at h1'
      cases h1'
      obtain ⟨ks, kvs, us, hs, hb, ⟨h4, h4'⟩, h5, h6⟩ := hw'
      obtain ⟨n, hn⟩ := fit_some qf
      exact ⟨ks, kvs, us, n, ⟨hb, .inr hs⟩, kfit_of R3.le h4 h5 hn (Is.mono e3 _ _ i2) qf, k _ _ F3 H3 en3 (e2.trans e3) R3 (get_is hn h4 h6 i3) q3⟩
    | _ => exact q3.elim⟩
end
/-! ### what the readings unfold to -/
@[simp ↓] theorem r_NewD {en : En} {Q : D → En → Prop} {Qe : Qx} : dNewD en Q Qe = Q (.dct [] []) en := by rfl
@[simp ↓] theorem r_Disp {prs : List (Str × TDE)} {en : En} {Q : D → En → Prop} {Qe : Qx} : dDisp prs en Q Qe = dPrs prs en (fun ds en1 => Q (.dct (txd (prs.map (·.1))) ds) en1) fun _ _ => False := by rfl
@[simp ↓] theorem r_Prs0 {en : En} {Q : List D → En → Prop} {Qe : Qx} : dPrs [] en Q Qe = Q [] en := by rfl
@[simp ↓] theorem r_Prs1 {k : Str} {e : TDE} {r : List (Str × TDE)} {en : En} {Q : List D → En → Prop} {Qe : Qx} : dPrs ((k, e) :: r) en Q Qe = e en (fun d en1 => dPrs r en1 (fun ds en2 => Q (d :: ds) en2) Qe) Qe := by rfl
@[simp ↓] theorem r_Get1 {o k : TDE} {en : En} {Q : D → En → Prop} {Qe : Qx} : dGet1 o k en Q Qe = o en (fun d en1 => match d with | .dct ds es => k en1 (fun j en2 => fitD ds j = true ∧ Q ((lkD ds es j).getD .non) en2) Qe | _ => False) Qe := by rfl
@[simp ↓] theorem r_Get2 {o k f : TDE} {en : En} {Q : D → En → Prop} {Qe : Qx} : dGet2 o k f en Q Qe = o en (fun d en1 => match d with | .dct ds es => k en1 (fun j en2 => f en2 (fun z en3 => fitD ds j = true ∧ Q ((lkD ds es j).getD z) en3) Qe) Qe | _ => False) Qe := by rfl
@[simp ↓] theorem r_GetV2 {i : Nat} {k f : TDE} {en : En} {Q : D → En → Prop} {Qe : Qx} : dGetV2 i k f en Q Qe = (ownDc en i = true ∧ k en (fun j en2 => f en2 (fun z en3 => match ownAt en3 i with | some (_, .dct ds es) => fitD ds j = true ∧ Q ((lkD ds es j).getD z) en3 | _ => False) Qe) Qe) := by rfl
@[simp ↓] theorem r_ownDc {en : En} {i : Nat} : ownDc en i = (match ownAt en i with | some (_, .dct _ _) => true | _ => false) := by rfl
end DL

/-! The D layer, part 16: all, any, sum, least, greatest of a list; list.index. -/
namespace DL
open PySem L2

section
variable {X : Cx} {W : WX} {K : KW}
/-- lists of truth values, of ints -/
def blsD : List D → Option (List Bool)
  | [] => some []
  | .bl b :: r => (blsD r).map (b :: ·)
  | _ => none
def intsD : List D → Option (List Int)
  | [] => some []
  | .int b :: r => (intsD r).map (b :: ·)
  | _ => none
theorem bls_is {F : Hp} : ∀ {ds : List D} {bs : List Bool} {vs : List V}, blsD ds = some bs → IsL K F ds vs → vs = bs.map V.bl
  | [], _, _, h, l => by cases h; cases l; rfl
  | d :: ds, _, _, h, ⟨v, r, q, i, l⟩ => by
    subst q
    cases d with
    | bl b =>
      unfold blsD at h
      cases hb : blsD ds with
      | none => rw [hb] at h; cases h
      | some bs =>
        rw [hb] at h
        cases h
        cases i
        rw [bls_is hb l]
        rfl
    | _ => exact nomatch h
theorem ints_is {F : Hp} : ∀ {ds : List D} {bs : List Int} {vs : List V}, intsD ds = some bs → IsL K F ds vs → vs = bs.map V.int
  | [], _, _, h, l => by cases h; cases l; rfl
  | d :: ds, _, _, h, ⟨v, r, q, i, l⟩ => by
    subst q
    cases d with
    | int b =>
      unfold intsD at h
      cases hb : intsD ds with
      | none => rw [hb] at h; cases h
      | some bs =>
        rw [hb] at h
        cases h
        cases i
        rw [ints_is hb l]
        rfl
    | _ => exact nomatch h
theorem lst_is {F H : Hp} (e : Same F H) {d : D} {l : List D} {v : V} (h : d = .lst l ∨ d = .lck l) (i : Is K F d v) : ∃ a vs, v = .ref a ∧ SqL K H a vs ∧ IsL K F l vs := by
  rcases h with rfl | rfl
  · obtain ⟨a, vs, rfl, s, l⟩ := i; exact ⟨a, vs, rfl, SqL.of (e _ _ s), l⟩
  · obtain ⟨a, vs, rfl, s, l⟩ := i; exact ⟨a, vs, rfl, SqL.same e s, l⟩
def allD : CD := fun ds Q => match ds with
  | [.lst l] => ∃ bs, blsD l = some bs ∧ Q (.bl (bs.all id))
  | _ => False
def anyD : CD := fun ds Q => match ds with
  | [.lst l] => ∃ bs, blsD l = some bs ∧ Q (.bl (bs.any id))
  | _ => False
def sumD : CD := fun ds Q => match ds with
  | [.lst l] => ∃ ns, intsD l = some ns ∧ Q (.int ns.sum)
  | _ => False
def maxD : CD := fun ds Q => match ds with
  | [.lst l] => ∃ ns, intsD l = some ns ∧ 0 < ns.length ∧ ∀ m, m ∈ ns → (∀ n ∈ ns, n ≤ m) → Q (.int m)
  | _ => False
def minD : CD := fun ds Q => match ds with
  | [.lst l] => ∃ ns, intsD l = some ns ∧ 0 < ns.length ∧ ∀ m, m ∈ ns → (∀ n ∈ ns, m ≤ n) → Q (.int m)
  | _ => False
theorem one_lst {F H : Hp} (e : Same F H) {l : List D} {vs : List V} (i : IsL K F [.lst l] vs) : ∃ a ws, vs = [.ref a] ∧ SqL K H a ws ∧ IsL K F l ws := by
  obtain ⟨v, r, rfl, iv, ir⟩ := i
  cases ir
  obtain ⟨a, ws, rfl, s, l⟩ := lst_is e (.inl rfl) iv
  exact ⟨a, ws, rfl, s, l⟩
theorem sim_all : SimC K (rAll K) allD := by
  intro G F H σ en ds vs Q Qd R i q k
  unfold allD at q
  split at q
  · obtain ⟨bs, h1, h2⟩ := q
    obtain ⟨a, ws, rfl, s, l⟩ := one_lst R.le i
    rw [bls_is h1 l] at s
    exact ⟨a, bs, rfl, s, k _ _ F H (Same.refl F) R iB h2⟩
  · exact q.elim
theorem sim_any : SimC K (rAny K) anyD := by
  intro G F H σ en ds vs Q Qd R i q k
  unfold anyD at q
  split at q
  · obtain ⟨bs, h1, h2⟩ := q
    obtain ⟨a, ws, rfl, s, l⟩ := one_lst R.le i
    rw [bls_is h1 l] at s
    exact ⟨a, bs, rfl, s, k _ _ F H (Same.refl F) R iB h2⟩
  · exact q.elim
theorem sim_sum : SimC K (rSum K) sumD := by
  intro G F H σ en ds vs Q Qd R i q k
  unfold sumD at q
  split at q
  · obtain ⟨bs, h1, h2⟩ := q
    obtain ⟨a, ws, rfl, s, l⟩ := one_lst R.le i
    rw [ints_is h1 l] at s
    exact ⟨a, bs, rfl, s, k _ _ F H (Same.refl F) R iI h2⟩
  · exact q.elim
theorem sim_max : SimC K (rMax K) maxD := by
  intro G F H σ en ds vs Q Qd R i q k
  unfold maxD at q
  split at q
  · obtain ⟨bs, h1, h0, h2⟩ := q
    obtain ⟨a, ws, rfl, s, l⟩ := one_lst R.le i
    rw [ints_is h1 l] at s
    exact ⟨a, bs, rfl, s, h0, fun m hm hle => k _ _ F H (Same.refl F) R iI (h2 m hm hle)⟩
  · exact q.elim
theorem sim_min : SimC K (rMin K) minD := by
  intro G F H σ en ds vs Q Qd R i q k
  unfold minD at q
  split at q
  · obtain ⟨bs, h1, h0, h2⟩ := q
    obtain ⟨a, ws, rfl, s, l⟩ := one_lst R.le i
    rw [ints_is h1 l] at s
    exact ⟨a, bs, rfl, s, h0, fun m hm hle => k _ _ F H (Same.refl F) R iI (h2 m hm hle)⟩
  · exact q.elim
/-- xs.index(y): the first place -/
def dLix (o y : TDE) : TDE := fun en Q Qe => o en (fun d en1 => match d with
  | .lst l => y en1 (fun z en2 => flatD z = true ∧ l.all flatD = true ∧ ∃ j e, l[j]? = some e ∧ eqFD e z = true ∧ (∀ m e', m < j → l[m]? = some e' → eqFD e' z = false) ∧ Q (.int (j : Nat)) en2) Qe
  | _ => False) Qe
theorem isl_get_r {F : Hp} : ∀ {ds : List D} {vs : List V} {i : Nat} {v : V}, IsL K F ds vs → vs[i]? = some v → ∃ d, ds[i]? = some d ∧ Is K F d v
  | [], _, _, _, h, e => by cases h; simp at e
  | d :: ds, _, 0, _, ⟨v, r, q, h, _⟩, e => by subst q; simp at e; subst e; exact ⟨d, rfl, h⟩
  | d :: ds, _, i + 1, _, ⟨v, r, q, h, l⟩, e => by
    subst q
    obtain ⟨d', h1, h2⟩ := isl_get_r (i := i) l (by simpa using e)
    exact ⟨d', by simpa using h1, h2⟩
theorem sim_lix {to ty : TE} {dd dy : TDE} (ho : Sim K W to dd) (hy : Sim K W ty dy) : Sim K W (tBM K "list" (rIndex K) to (tCons ty tNil)) (dLix dd dy) := fun G F H σ en Q Qd Qe R q x k =>
  ho G F H σ en _ _ Qe R q x fun v d F1 H1 en1 e1 R1 i1 q1 => by
    split at q1
    · rename_i l
      obtain ⟨a, vs, rfl, s, il⟩ := lst_is R1.le (.inl rfl) i1
      refine ⟨.inl ⟨rfl, vs, s⟩, hy G F1 H1 σ en1 _ _ Qe R1 q1 x fun w z F2 H2 en2 e2 R2 i2 q2 => ?_⟩
      obtain ⟨f1, f2, j, e, h1, h2, h3, h4⟩ := q2
      obtain ⟨a', vs', ea, s', il'⟩ := lst_is (l := l) R2.le (.inl rfl) (Is.mono e2 _ _ i1)
      cases ea
      obtain ⟨u, hu, iu⟩ := il'.get h1
      have fe : flatD e = true := List.all_eq_true.mp f2 e (List.mem_of_getElem? h1)
      refine ⟨a, vs', w, j, u, rfl, rfl, s', flatV_of i2 f1, flatL_of il' f2, hu, by rw [eqV_of iu i2 fe f1]; exact h2, fun m z' hm hz => ?_, k _ _ F2 H2 en2 (e1.trans e2) R2 iI h4⟩
      obtain ⟨e', he', ie'⟩ := isl_get_r il' hz
      rw [eqV_of ie' i2 (List.all_eq_true.mp f2 e' (List.mem_of_getElem? he')) f1]
      exact h3 m e' hm he'
    · exact q1.elim
theorem de_lix {o e : Expr} {apos cpos : Pos} {to ty : TE} {dd dy : TDE} (ho : DE X W o to dd) (he : DE X W e ty dy) (hbase : attributeBase o "index" X.env (eval o X.env) = eval o X.env := by rfl)
    (hfew : ((backTo cpos (starEach [e] X.env)).all (fun x => !x.1) && (backToKw cpos (keywordEach [] X.env)).all (fun x => x.1.isSome) && decide (([e] : List Expr).length + ([] : List Keyword).length + (if ([] : List Keyword).isEmpty then 0 else 1) < 30)) = true := by rfl)
    (hline : (apos.endLine == cpos.line) = true := by rfl) (hst : starEach [e] X.env = (false, eval e X.env) :: starEach [] X.env := by rfl) (hpl : (backTo cpos (starEach [] X.env)).any (·.1) = false := by rfl) :
    DE X W (.Call (.Attribute o "index" apos) [e] [] cpos) (tBM X.K "list" (rIndex X.K) to (tCons ty tNil)) (dLix dd dy) :=
  ⟨pe_bm PySem.F.plainAttrs_list PySem.F.slot_list_index PySem.F.type_list_index mt_index ho.pe (pa_cons he.pe pa_nil hst) hbase hfew hline hst hpl, sim_lix (K := kk X) ho.sim he.sim⟩
end
@[simp ↓] theorem r_all {l : List D} {Q : D → Prop} : allD [.lst l] Q = ∃ bs, blsD l = some bs ∧ Q (.bl (bs.all id)) := by rfl
@[simp ↓] theorem r_any {l : List D} {Q : D → Prop} : anyD [.lst l] Q = ∃ bs, blsD l = some bs ∧ Q (.bl (bs.any id)) := by rfl
@[simp ↓] theorem r_sum {l : List D} {Q : D → Prop} : sumD [.lst l] Q = ∃ ns, intsD l = some ns ∧ Q (.int ns.sum) := by rfl
@[simp ↓] theorem r_max {l : List D} {Q : D → Prop} : maxD [.lst l] Q = ∃ ns, intsD l = some ns ∧ 0 < ns.length ∧ ∀ m, m ∈ ns → (∀ n ∈ ns, n ≤ m) → Q (.int m) := by rfl
@[simp ↓] theorem r_min {l : List D} {Q : D → Prop} : minD [.lst l] Q = ∃ ns, intsD l = some ns ∧ 0 < ns.length ∧ ∀ m, m ∈ ns → (∀ n ∈ ns, m ≤ n) → Q (.int m) := by rfl
@[simp ↓] theorem r_Lix {o y : TDE} {en : En} {Q : D → En → Prop} {Qe : Qx} : dLix o y en Q Qe = o en (fun d en1 => match d with | .lst l => y en1 (fun z en2 => flatD z = true ∧ l.all flatD = true ∧ ∃ j e, l[j]? = some e ∧ eqFD e z = true ∧ (∀ m e', m < j → l[m]? = some e' → eqFD e' z = false) ∧ Q (.int (j : Nat)) en2) Qe | _ => False) Qe := by rfl

section
variable {X : Cx} {W : WX} {a b : Expr} {pos : Pos} {ta tb : TE} {da db : TDE}
def andD : RD := i0D fun i j => .int (Builtin.bitAnd i j)
def orD : RD := i0D fun i j => .int (Builtin.bitOr i j)
theorem de_andI (ha : DE X W a ta da) (hb : DE X W b tb db) : DE X W (.BinOp a .BitAnd b pos) (tOp (rI0 fun i j => .int (Builtin.bitAnd i j)) ta tb) (dOp andD da db) := de_op op_and (sim_i0 (gd := fun i j => .int (Builtin.bitAnd i j)) fun _ _ _ => rfl) ha hb
theorem de_orI (ha : DE X W a ta da) (hb : DE X W b tb db) : DE X W (.BinOp a .BitOr b pos) (tOp (rI0 fun i j => .int (Builtin.bitOr i j)) ta tb) (dOp orD da db) := de_op op_or (sim_i0 (gd := fun i j => .int (Builtin.bitOr i j)) fun _ _ _ => rfl) ha hb
end
@[simp ↓] theorem r_andI {i j : Int} {Q : D → Prop} : andD (.int i) (.int j) Q = Q (.int (Builtin.bitAnd i j)) := by rfl
@[simp ↓] theorem r_orI {i j : Int} {Q : D → Prop} : orD (.int i) (.int j) Q = Q (.int (Builtin.bitOr i j)) := by rfl
end DL

/-! The D layer, part 17: a, b = x, y and a, b, c = x, y, z. -/
namespace DL
open PySem L2

section
variable {X : Cx} {W : WX} {K : KW}
def dPar2 (i j : Nat) (da : TDA) : TDS := fun B en => da en (fun ds en1 => match ds with | [a, b] => B.nx ((en1.set i (some (.fz a))).set j (some (.fz b))) | _ => False) B.ex
def dPar3 (i j l : Nat) (da : TDA) : TDS := fun B en => da en (fun ds en1 => match ds with | [a, b, c] => B.nx (((en1.set i (some (.fz a))).set j (some (.fz b))).set l (some (.fz c))) | _ => False) B.ex
theorem isL2 {F : Hp} {a b : D} {vs : List V} (h : IsL K F [a, b] vs) : ∃ v1 v2, vs = [v1, v2] ∧ Is K F a v1 ∧ Is K F b v2 := by
  obtain ⟨v1, r1, rfl, h1, v2, r2, rfl, h2, i3⟩ := h
  cases i3
  exact ⟨v1, v2, rfl, h1, h2⟩
theorem isL3 {F : Hp} {a b c : D} {vs : List V} (h : IsL K F [a, b, c] vs) : ∃ v1 v2 v3, vs = [v1, v2, v3] ∧ Is K F a v1 ∧ Is K F b v2 ∧ Is K F c v3 := by
  obtain ⟨v1, r1, rfl, h1, h2⟩ := h
  obtain ⟨v2, v3, rfl, h2, h3⟩ := isL2 h2
  exact ⟨v1, v2, v3, rfl, h1, h2, h3⟩
theorem sim_par2 {i j : Nat} {ta : TA} {da : TDA} (h : SimA K W ta da) : SimS K W (tPar i j ta) (dPar2 i j da) := fun G F H σ en D' B R q k => h G F H σ en _ _ _ R q k.ex fun vs ds F1 H1 en1 e1 R1 i1 q1 => by
  split at q1
  · obtain ⟨v1, v2, e, h1, h2⟩ := isL2 i1
    exact ⟨v1, v2, e, k.nx F1 H1 _ _ ((R1.put h1).put h2) q1⟩
  · exact q1.elim
theorem sim_par3 {i j l : Nat} {ta : TA} {da : TDA} (h : SimA K W ta da) : SimS K W (tPar3 i j l ta) (dPar3 i j l da) := fun G F H σ en D' B R q k => h G F H σ en _ _ _ R q k.ex fun vs ds F1 H1 en1 e1 R1 i1 q1 => by
  split at q1
  · obtain ⟨v1, v2, v3, e, h1, h2, h3⟩ := isL3 i1
    exact ⟨v1, v2, v3, e, k.nx F1 H1 _ _ (((R1.put h1).put h2).put h3) q1⟩
  · exact q1.elim
theorem ds_par2 {i j : Nat} {x y : Str} {a b : Expr} {ta : TA} {da : TDA} {px py pt pos : Pos} {kt k2 pt2} (hN : X.N.Nodup) (hi : X.N[i]? = some x) (hj : X.N[j]? = some y) (hij : i ≠ j)
    (ha : DA X W [a, b] ta da) (hx : X.env.scope.names.lookup x = some .local := by rfl) (hy : X.env.scope.names.lookup y = some .local := by rfl) (hc : X.calm = true := by rfl)
    (hw : swappedStores [.Tuple [.Name x px, .Name y py] kt pt] (.Tuple [a, b] k2 pt2) X.env = pure (some [x, y]) := by rfl)
    (hs : swapsWithSole [.Tuple [.Name x px, .Name y py] kt pt] (.Tuple [a, b] k2 pt2) pos.line X.env = pure false := by rfl) :
    DS X W (.Assign [.Tuple [.Name x px, .Name y py] kt pt] (.Tuple [a, b] k2 pt2) pos) (tPar i j ta) (dPar2 i j da) :=
  ⟨ps_par hc hN hi hj hij hx hy ha.pa hw hs, sim_par2 ha.sim⟩
theorem ds_par3 {i j l : Nat} {x y z : Str} {a b c : Expr} {ta : TA} {da : TDA} {px py pz pt pos : Pos} {kt k2 pt2} (hN : X.N.Nodup) (hi : X.N[i]? = some x) (hj : X.N[j]? = some y) (hl : X.N[l]? = some z) (hij : i ≠ j) (hil : i ≠ l) (hjl : j ≠ l)
    (ha : DA X W [a, b, c] ta da) (hx : X.env.scope.names.lookup x = some .local := by rfl) (hy : X.env.scope.names.lookup y = some .local := by rfl) (hz : X.env.scope.names.lookup z = some .local := by rfl) (hc : X.calm = true := by rfl)
    (hw : swappedStores [.Tuple [.Name x px, .Name y py, .Name z pz] kt pt] (.Tuple [a, b, c] k2 pt2) X.env = pure (some [x, y, z]) := by rfl)
    (hs : swapsWithSole [.Tuple [.Name x px, .Name y py, .Name z pz] kt pt] (.Tuple [a, b, c] k2 pt2) pos.line X.env = pure false := by rfl) :
    DS X W (.Assign [.Tuple [.Name x px, .Name y py, .Name z pz] kt pt] (.Tuple [a, b, c] k2 pt2) pos) (tPar3 i j l ta) (dPar3 i j l da) :=
  ⟨ps_par3 hc hN hi hj hl hij hil hjl hx hy hz ha.pa hw hs, sim_par3 ha.sim⟩
end
@[simp ↓] theorem r_Par2 {i j : Nat} {da : TDA} {B : DEnds} {en : En} : dPar2 i j da B en = da en (fun ds en1 => match ds with | [a, b] => B.nx ((en1.set i (some (.fz a))).set j (some (.fz b))) | _ => False) B.ex := by rfl
@[simp ↓] theorem r_Par3 {i j l : Nat} {da : TDA} {B : DEnds} {en : En} : dPar3 i j l da B en = da en (fun ds en1 => match ds with | [a, b, c] => B.nx (((en1.set i (some (.fz a))).set j (some (.fz b))).set l (some (.fz c))) | _ => False) B.ex := by rfl
end DL

/-! The D layer, part 19: while. -/
namespace DL
open PySem L2

section
variable {X : Cx} {W : WX} {K : KW}
/-- while c: b, by an invariant V with its measure -/
def dWhile (c : TDT) (b : TDS) : TDS := fun B en => ∃ V : Nat → En → Prop, (∃ m, V m en) ∧ ∀ m en, V m en →
  c en (fun k en1 => if k = true then b { B with nx := fun en' => ∃ m', m' < m ∧ V m' en', ct := fun en' => ∃ m', m' < m ∧ V m' en', bk := B.nx } en1 else B.nx en1) B.ex
theorem ds_while {c : Expr} {body : List Stmt} {pos : Pos} {tc : TT} {dc : TDT} {tb : TS} {db : TDS} (hp : PassesOwn (model X.prog X.w) X.A X.env X.xe) (hc : DT X W c tc dc) (hb : DSs X W body tb db) :
    DS X W (.While c body [] pos) (tWhile tc tb) (dWhile dc db) :=
  ⟨ps_while hp hc.pt hb.ps, fun G F H σ en D' B R q k => by
    obtain ⟨V, ⟨m0, v0⟩, turn⟩ := q
    refine ⟨fun m σ H => ∃ F en, Rel (kk X) G F H σ en ∧ V m en, ⟨m0, F, en, R, v0⟩, ?_⟩
    rintro m σ H ⟨F1, en1, R1, v1⟩
    refine hc.sim G F1 H σ en1 _ _ _ R1 (turn m en1 v1) k.ex fun b F2 H2 en2 e2 R2 q2 => ?_
    cases b with
    | true =>
      refine ⟨fun σ' H' => ∃ m', m' < m ∧ ∃ F en, Rel (kk X) G F H' σ' en ∧ V m' en, fun σ' H' h => h, ?_⟩
      exact hb.sim G F2 H2 σ en2 _ _ R2 q2 ⟨fun F5 H5 σ5 en5 R5 ⟨m', hm, v⟩ => ⟨m', hm, F5, en5, R5, v⟩, k.rt, k.nx, fun F5 H5 σ5 en5 R5 ⟨m', hm, v⟩ => ⟨m', hm, F5, en5, R5, v⟩, k.ex, k.rtO⟩
    | false => exact k.nx F2 H2 σ en2 R2 q2⟩
/-- x op= e, integers -/
def dAugI (i : Nat) (f : Int → Int → Int) (e : TDE) : TDS := fun B en => match en[i]? with
  | some (some (.fz (.int a))) => e en (fun d en1 => match d with
    | .int b => B.nx (en1.set i (some (.fz (.int (f a b)))))
    | _ => False) B.ex
  | _ => False
theorem ds_augI {i : Nat} {x : Str} {e : Expr} {te : TE} {de : TDE} {op : Operator} {f : Int → Int → Int} {pos pos' : Pos} (hN : X.N.Nodup) (hi : X.N[i]? = some x) (hx : Loc X.env.scope x) (he : DE X W e te de) (ho : PIp X op (ipI f))
    (hf : X.fn x = true ∨ X.env.scope.names.lookup x = some .local := by first | exact .inl rfl | exact .inr rfl | assumption) : DS X W (.AugAssign (.Name x pos') op e pos) (tAug i te (ipI f)) (dAugI i f de) :=
  ⟨ps_aug hN hi hx he.pe ho hf, fun G F H σ en D' B R q k => by
    unfold dAugI at q
    split at q
    · rename_i a hen
      obtain ⟨v, hv, iv⟩ := R.fz i _ hen
      have ev : v = .int a := iv
      subst ev
      refine ⟨.int a, hv, he.sim G F H σ en _ _ _ R q k.ex fun y d F1 H1 en1 e1 R1 i1 q1 => ?_⟩
      cases d with
      | int b =>
        have ey : y = .int b := i1
        subst ey
        exact ⟨a, b, rfl, rfl, k.nx F1 H1 _ _ (R1.put (d := .int (f a b)) rfl) q1⟩
      | _ => exact q1.elim
    · exact q.elim⟩
end
@[simp ↓] theorem r_AugI {i : Nat} {f : Int → Int → Int} {e : TDE} {B : DEnds} {en : En} : dAugI i f e B en = (match en[i]? with
  | some (some (.fz (.int a))) => e en (fun d en1 => match d with
    | .int b => B.nx (en1.set i (some (.fz (.int (f a b)))))
    | _ => False) B.ex
  | _ => False) := by rfl
end DL

/-! The D layer, part 20: own exceptions whose __init__ says super().__init__("..") and keeps its arguments. -/
namespace DL
open PySem L2 PySem.W

/-- where an own exception's __init__ stands -/
structure SupF (K : Fg) (P : Program) (C fI : Addr) (fd : FuncData) (cda cc : Addr) : Prop where
  lk : ∃ oc od osl, K.lookup fI = some ⟨oc, od, .func fd, osl⟩
  p0 : ∃ ar : Arg, (fd.params.posonlyargs ++ fd.params.args).head? = some ar ∧ ar.arg = "self"
  code : ∃ ccl cdd vs ccs file tf, K.lookup cda = some ⟨ccl, cdd, .fields vs, ccs⟩ ∧ vs[2]? = some (.str file tf) ∧ ((P.main.file : Str) == file) = true
  cell : ∃ cl cld csl, K.lookup cc = some ⟨cl, cld, .cell (some (.ref C)), csl⟩
  mro : PySem.W.mroIn K C (.ref C) = some true
  sup : PySem.W.ks_superIn K C C "__init__" = some (some (.builtin "ValueError.__init__"))
  subB : PySem.W.subIn K (.ref C) (.type "ValueError") = some true
  opq : PySem.W.nsIn K cStatics "thirdparty.any" = some none
  top : (P.main.scope.names.lookup ("super" : Str)).isSome = false

section
variable {prog : Program} {w : World} {A : Around} {E : Value → Shared → Prop} {h : Heap} {g : Array GenState} {d : Drawn} {t : Nat} {os : OsState}
variable {nm q : Str} {C N : Addr} {bs bm : List Value} {hdct : Bool} {sn : List Str} {sub : List Value} {ab : Bool} {col : Option Bool} {dd : Option Addr} {k0 k1 k2 k3 k5 : Option Value}
theorem call_mw {u e t0 : Addr} {rest : List Value} {Q : Value → Shared → Prop}
    (hC : h.get? C = some (excClassObj nm q C N bs bm hdct sn sub ab col dd k0 k1 k2 k3 k5 "ValueError.__new__")) (he : h.get? e = some (HandSPX.excO C t0)) (hu : h.get? u = some (kxs_mw "ValueError.__init__" e)) (hrest : rest.length ≤ sizeLine)
    (hq : ∀ h' t1, (∀ b o, b ≠ e → h.get? b = some o → h'.get? b = some o) → h'.get? e = some (HandSPX.excO C t1) → Q .none ⟨h', g, d, t, os⟩) :
    wpAny (model prog w) A (call (.ref u) rest) Q E ⟨h, g, d, t, os⟩ := by
  refine wpAny_call (codeAny_of_tree ?_)
  show wpAny _ A.in1 (callAny (.ref u) ⟨rest, []⟩) _ _ _
  simp only [callAny]
  refine wpAny_bind (wpAny_load hu ?_)
  simp only [kxs_mw, show (Value.type "method-wrapper" == Value.type "method" || Value.type "method-wrapper" == Value.type "builtin_function_or_method" || Value.type "method-wrapper" == Value.type "method-wrapper") = true by decide, if_true]
  refine KFB.if_so (by decide) ?_
  refine wpAny_bind (check_bound_init F.excBase_ValueError.toExcCallFacts hC he rfl ?_)
  refine wpAny_bind (wpAny_pure (wpAny_pure ?_))
  refine ⟨plainId_quiet F.excBase_ValueError.init.plain _, codeAny_builtin F.excBase_ValueError.initEntry ?_⟩
  rw [Around.under_plainId F.excBase_ValueError.init.plain _]
  exact exc_init_tree (cls := .ref C) (t0 := t0) (dv := none) (c2 := .none) (c3 := .none) (b4 := .bool false) he hrest fun h' k e' _ => hq h' _ k e'
end
section
variable {M : Model} {A : Around} {E : Value → Shared → Prop} {s : Shared}
theorem cw_mw {i : String} {u x : Addr} {pos : Pos} {env : Env} {e : Expr} {rest : List Expr} {Q : Value → Shared → Prop}
    (h : wpAny M A (spliced (backTo pos (starEach (e :: rest) env))) (fun vs s₁ => KxsAt i u x s₁.heap ∧ wpAny M A (call (.ref u) vs) Q E s₁) E s)
    (he : starEach (e :: rest) env = (false, eval e env) :: starEach rest env := by rfl) (hplain : (backTo pos (starEach rest env)).any (·.1) = false := by rfl) :
    wpAny M A (callWith pos (.ref u) [] (backTo pos (starEach (e :: rest) env)) []) Q E s := by
  rw [he] at h ⊢
  refine kxs_callWith (i := i) (x := x) (by show (false || (backTo pos (starEach rest env)).any (·.1)) = false; rw [hplain]; rfl) ?_
  exact PySem.Calls.evalArgs_plain h
end
section
variable {X : Cx} {pins : List (Addr × Obj)} {σ : L2.St} {H : Hp} {s : Shared} {a C fI cda cc : Addr} {fd : FuncData} {body : List Stmt} {m : Str} {j} {p0 p1 p2 p3 p4 p5 : Pos}
theorem boot_super : bootBuiltins "super" = some (.type "super") := by decide +kernel
theorem at_sinit (T : OexC X.K C) (S : SupF X.K X.prog C fI fd cda cc) (I : Inv X pins σ H s) (hfu : X.env.func = some fI) (hco : X.env.code = .ref cda) (hks : X.env.kindOf "super" = some .globalImplicit) (hkc : X.env.kindOf "__class__" = some .free)
    (hcl : X.env.cells.lookup ("__class__" : Str) = some cc) (hm : X.mg "super" = none) (h0 : X.N[0]? = some ("self" : Str)) (hv : X.env.scope.names.lookup ("self" : Str) = some .local) (hσ : σ[0]? = some (some (.ref a))) (ea : H a = some (exo a C none))
    (hi : interactive X.env = false) {pl : Sem Bool}
    (he : eval (.Call (.Attribute (.Call (.Name "super" p0) [] [] p1) "__init__" p2) [.Constant (.str m) j p3] [] p4) X.env = (do
      let ov ← attributeBase (.Call (.Name "super" p0) [] [] p1) "__init__" X.env (eval (.Call (.Name "super" p0) [] [] p1) X.env)
      standAt p2.atName
      let (f, first) ← holding [ov] (getMethod ov "__init__" pl)
      callWith p4 f first (backTo p4 (starEach [.Constant (.str m) j p3] X.env)) []) := by rfl)
    (hs : swapsWith (.Call (.Attribute (.Call (.Name "super" p0) [] [] p1) "__init__" p2) [.Constant (.str m) j p3] [] p4) none p5.line X.env = pure false := by rfl) :
    _root_.PySem.wpAt (model X.prog X.w) X.A (.func body X.env) (exec (.Expr (.Call (.Attribute (.Call (.Name "super" p0) [] [] p1) "__init__" p2) [.Constant (.str m) j p3] [] p4) p5) X.env) (fun fl s' => fl = .next ∧ Inv X pins σ H s') X.xe s := by
  obtain ⟨oc, od, osl, lk⟩ := S.lk
  obtain ⟨ar, hp, har⟩ := S.p0
  obtain ⟨ccl, cdd, vs, ccs, file, tf, lkc, hvs, hfile⟩ := S.code
  obtain ⟨cl, cld, csl, lkl⟩ := S.cell
  obtain ⟨nm, q, N, bs, bm, sn, sub, ab, col, dd, k0, k1, k2, k3, k5, hC, hbm⟩ := T.cls
  have KX := I.kIn
  obtain ⟨mL, hns, hloc⟩ := I.loc
  obtain ⟨u, ru, lu⟩ := hloc 0 "self" (.ref a) h0 hσ (.inl hv)
  obtain rfl : u = Value.ref a := ru
  have hself : mL "self" = some (.ref a) := by
    rcases lu with ⟨_, e⟩ | ⟨hk, _⟩
    · exact e
    · have : X.env.kindOf "self" = some .local := hv
      rcases hk with hk | hk <;> rw [this] at hk <;> cases hk
  obtain ⟨t1, ho⟩ := exo_at I.hok ea
  refine ks_wpAt_Expr_any (ks_wpAt_MethodCall (ks_wpAt_super_base hks hkc (by decide) hfu (KX _ _ lk) rfl hp hco (KX _ _ lkc) rfl hvs hfile S.top ?_) he) hi hs
  obtain ⟨mb, b1, b2⟩ := I.mod.blt
  refine ks_loadName_global I.ok.kind hks (Calls.loadGlobal_builtin (by rw [I.ok.glob]; exact I.mod.glob.keeps I.bk) hm (by rw [I.ok.blt]; exact b1.keeps I.bk) ((b2 _ (by decide)).trans boot_super) ⟨rfl, ?_⟩)
  refine wpAny_loadName_free I.ok.kind hkc hcl ⟨_, KX _ _ lkl, rfl⟩ ?_
  rw [har]
  refine wpAny_loadName_local I.ok.kind hv hns hself ?_
  refine ks_wpAny_isType_cls (KX _ _ hC) rfl ⟨rfl, ?_⟩
  obtain ⟨hh, g, d, t, os⟩ := s
  refine ks_wpAny_call_super (KX _ _ hC) rfl ho rfl (fun c e => by cases e) (looks_mroIn KX S.mro) (fun h1 e1 kk1 => ?_)
  have I1 : Inv X pins σ H ⟨h1, g, d, t, os⟩ := I.kept (t' := t) kk1
  have ho1 := kk1 _ _ ho
  have J : InstAt h1 a ({ cls := .ref C, dict := none, data := .fields #[.ref t1, .none, .none, .none, .bool false, .none] } : Obj) C none := ⟨ho1, rfl, rfl, trivial⟩
  have hI : Looks (model X.prog X.w) h1 (isInstance (.ref a) (.type "ValueError")) true := J.type.andThen (looks_subIn I1.kIn S.subB)
  have sup := S.sup
  cases hc : clsIn X.K C with
  | none => unfold ks_superIn at sup; rw [hc] at sup; cases sup
  | some cd =>
    unfold ks_superIn at sup
    rw [hc] at sup
    refine kxs_getMethod kxs_ValueError e1 (looks_opaque I1.kIn S.opq) (l₀ := cd.mro) (fun A Q E s k q => wpAny_bind ((looks_clsIn I1.kIn hc) A _ E s k (wpAny_pure q))) rfl I1.kIn sup hI (ks_ne I1.kIn J hc) (by decide) ?_
    have hu : (h1.push (kxs_mw "ValueError.__init__" a)).get? h1.objs.size = some (kxs_mw "ValueError.__init__" a) := Heap.get?_push_at rfl rfl
    have kk2 : ∀ b o, h1.get? b = some o → (h1.push (kxs_mw "ValueError.__init__" a)).get? b = some o := fun b o e => Heap.get?_push_of_some _ e
    have hu' : H h1.objs.size = none := I1.hok.fresh (Nat.le_refl _)
    have I2 : Inv X ((h1.objs.size, kxs_mw "ValueError.__init__" a) :: pins) σ H ⟨h1.push (kxs_mw "ValueError.__init__" a), g, d, t + 1, os⟩ := by
      have I2 : Inv X pins σ H ⟨h1.push (kxs_mw "ValueError.__init__" a), g, d, t + 1, os⟩ := I1.kept (t' := t + 1) kk2
      refine I2.pins_of fun p hp => ?_
      rcases List.mem_cons.mp hp with rfl | hp
      · exact ⟨hu, hu', Nat.ne_of_gt I1.lt, I1.nofs (Nat.le_refl _), fun v z => by cases z⟩
      · exact I2.pin p (List.mem_append_right _ hp)
    have ha : PA X [.Constant (.str m) j p3] (tCons (tC (.str m)) tNil) := pa_cons pe_str pa_nil
    refine cw_mw (i := "ValueError.__init__") (x := a) (thn (ha.run p4 _ _ σ H (fun vs H1 => vs = [V.str m] ∧ H = H1) I2 ⟨rfl, rfl⟩) fun us s3 hh3 => ?_)
    obtain ⟨ws, H1, I3, r1, ev, eH⟩ := hh3
    subst ev
    rw [← eH] at I3
    have pu := (I3.pin _ (List.mem_append_right _ List.mem_cons_self)).1
    refine ⟨pu, ?_⟩
    have hl : us.length ≤ sizeLine := by rw [← r1.length, sizeLine_eq]; exact (by decide : 1 ≤ 16777216)
    obtain ⟨t3, ho3⟩ := exo_at I3.hok ea
    obtain ⟨h3, g3, d3, tk3, os3⟩ := s3
    refine call_mw (I3.kIn _ _ hC) ho3 pu hl fun h4 t4 kk4 he4 => ?_
    refine ⟨rfl, ?_⟩
    have I4 := I3.write (t' := tk3) (x := a) (e := a) (o := exo a C none) (by rw [ea]; exact True.intro) (.inl rfl) kk4 ⟨_, he4⟩ (exo_ok he4)
    have eu : upd H a (exo a C none) = H := by
      funext b
      by_cases hb : b = a
      · rw [hb, upd_same, ea]
      · rw [upd_ne hb]
    rw [eu] at I4
    exact I4.pins_of fun p hp => I4.pin p (List.mem_append_right _ (List.mem_cons_of_mem _ hp))
end
end DL

/-! The D layer, part 21: a def that begins with super().__init__(..), walked. -/
namespace DL
open PySem L2 PySem.W

/-- the names of such a def -/
structure ScS (ps : List Str) (scope : Scope) : Prop where
  kind : scope.kind = .function
  co : scope.isCoroutine = false
  gen : scope.isGenerator = false
  nd : ps.Nodup
  par : ∀ y ∈ ps, scope.names.lookup y = some .local
  nocell : ∀ x ∈ scope.names, x.2 ≠ .cell
  free : ∀ x ∈ scope.names, x.2 = .free → x.1 = ("__class__" : Str)
  ksup : scope.names.lookup ("super" : Str) = some .globalImplicit
  kcls : scope.names.lookup ("__class__" : Str) = some .free
def cxS (P : Program) (w : World) (K : Fg) (mg : Str → Option Value) (base : Heap) (N : List Str) (qual : Str) (scope : Scope) (f : Addr) (cd : Value) (cc : Addr) (A : Around) (outer : List Env) (s : Shared) (H : Hp) : Cx where
  prog := P
  w := w
  K := K
  mg := mg
  base := base
  A := A.deeper (ksEnv qual scope s.heap.objs.size f cd cc)
  N := N
  s_0 := s
  H_0 := H
  env := ksEnv qual scope s.heap.objs.size f cd cc
  outer := outer
  stack := ksEnv qual scope s.heap.objs.size f cd cc :: outer
  ex := []
  calm := true
  fn := fun x => x != "__class__"
  pn := []
  xe := fun _ _ => False
theorem lk_of_mem {y : Str} {u : Value} : ∀ {l : List (Str × Value)}, (l.map (·.1)).Nodup → (y, u) ∈ l → l.lookup y = some u
  | [], _, h => by cases h
  | (z, v) :: l, nd, h => by
    rw [List.map_cons, List.nodup_cons] at nd
    rw [List.lookup_cons]
    rcases List.mem_cons.mp h with e | h
    · cases e
      simp
    · have ne : y ≠ z := fun e => nd.1 (by rw [← e]; exact List.mem_map.mpr ⟨_, h, rfl⟩)
      have : (y == z) = false := by simpa using ne
      rw [this]
      exact lk_of_mem nd.2 h
theorem lk_zip {ps : List Str} {us : List Value} {i : Nat} {y : Str} {u : Value} (nd : ps.Nodup) (hp : ps[i]? = some y) (hu : us[i]? = some u) : (ps.zip us).reverse.lookup y = some u := by
  refine lk_of_mem ?_ (List.mem_reverse.mpr ?_)
  · rw [List.map_reverse]
    refine List.pairwise_reverse.mpr ?_
    have sub : ∀ (ps : List Str) (us : List Value), ((ps.zip us).map (·.1)).Sublist ps := by
      intro ps
      induction ps with
      | nil => intro us; simp
      | cons p ps ih =>
        intro us
        cases us with
        | nil => simp
        | cons u us => simpa using ih us
    have := nd.sublist (sub ps us)
    exact List.Pairwise.imp (fun h e => h e.symm) this
  · refine List.mem_of_getElem? (i := i) ?_
    rw [List.getElem?_zip_eq_some]
    exact ⟨hp, hu⟩
section
variable {P : Program} {w : World} {K : Fg} {mg : Str → Option Value} {base : Heap} {ps : List Str} {qual : Str} {scope : Scope} {f cc : Addr} {cd : Value} {A : Around} {outer : List Env} {s : Shared} {H : Hp}
theorem inv_startS {us : List Value} {vs : List V} {h₀ : Heap} {t : Nat} {cl : Value} {cld : Option Addr} {cv : Option Value} {csl : Array (Option Value)} (S : ScS ps scope) (hd : A.handled = none) (e0 : Env0 P w K mg base A outer s H) (hl : vs.length = ps.length) (r : Vals vs us)
    (hn : h₀.Ns s.heap.objs.size fun x => (ps.zip us).reverse.lookup x) (hk : ∀ b o, s.heap.get? b = some o → h₀.get? b = some o) (hc : K.lookup cc = some ⟨cl, cld, .cell cv, csl⟩) :
    Inv (cxS P w K mg base ps qual scope f cd cc A outer s H) [] (L2.start ps vs) H { s with heap := h₀, toks := t } := by
  have hb := e0.mod.kin _ _ hc
  have hc1 := hk _ _ (e0.bs _ _ hb).1
  have noA : ∀ b : Addr, b ∉ (cxS P w K mg base ps qual scope f cd cc A outer s H).ex := fun b z => absurd (show b ∈ ([] : List Addr) from z) (by simp)
  have look : ∀ x c, ([(("__class__" : Str), cc)] : List (Str × Addr)).lookup x = some c → x = "__class__" ∧ c = cc := fun x c h => by
    rw [List.lookup_cons] at h
    split at h
    · rename_i q
      cases h
      exact ⟨by simpa using q, rfl⟩
    · cases h
  refine ⟨⟨e0.mod, S.kind, rfl, rfl, Nat.le_refl _, fun y z c h1 h2 => ?_, fun y hy => ?_, fun y c hy h => ?_, fun _ => hd, Around.frames_deeper e0.frames, .inr ⟨rfl, rfl⟩, fun b z => absurd z (noA b), e0.bs, e0.bsz, fun b _ _ => noA b, fun b z => absurd z (noA b), e0.funs, e0.frf⟩,
    rfl, e0.bare, Un.kept hk, ⟨_, hn, fun i y v h1 h2 h3 => ?_⟩, fun y c h => ⟨cv, ?_⟩, e0.hok.fresh (Nat.le_refl _), fun y c h => ?_, fun p hp => absurd (show p ∈ ([] : List (Addr × Obj)) from hp) (by simp), e0.hok.kept hk, ?_⟩
  · rw [(look _ _ h1).1, (look _ _ h2).1]
  · have hy : scope.names.lookup y = some .cell ∨ scope.names.lookup y = some .free := hy
    rcases hy with hy | hy
    · exact absurd rfl (S.nocell _ (PySem.mem_of_lookup hy))
    · have e := S.free _ (PySem.mem_of_lookup hy) rfl
      dsimp only at e
      rw [e]
      exact ⟨cc, rfl⟩
  · rw [(look _ _ h).1] at hy
    cases hy
  · have h2 : (L2.start ps vs)[i]? = some (some v) := h2
    have hi : i < vs.length := by
      unfold L2.start at h2
      by_cases hi : i < vs.length
      · exact hi
      · rw [List.getElem?_append_right (by simpa using hi), List.getElem?_replicate] at h2
        split at h2 <;> cases h2
    have ha : vs[i]? = some v := by
      unfold L2.start at h2
      rw [List.getElem?_append_left (by simpa using hi), List.getElem?_map] at h2
      cases e : vs[i]? with
      | none => rw [e] at h2; cases h2
      | some a => rw [e] at h2; cases h2; rfl
    obtain ⟨u, hu, rv⟩ := r.get ha
    have h1 : ps[i]? = some y := h1
    exact ⟨u, rv, .inl ⟨S.par y (List.mem_of_getElem? h1), lk_zip S.nd h1 hu⟩⟩
  · rw [(look _ _ h).2]
    exact ⟨_, hc1, rfl⟩
  · rw [(look _ _ h).2]
    exact (e0.bs _ _ hb).2
  · show (L2.start ps vs).length = ps.length
    unfold L2.start
    rw [List.length_append, List.length_map, List.length_replicate]
    omega
end
section
variable {P : Program} {w : World} {K : Fg} {mg : Str → Option Value} {base : Heap} {ps : List Str} {name qual : Str} {params : Arguments} {scope : Scope} {fI C cc cda : Addr} {dV kV doc pm ct : Value} {an : Option Addr} {m : Str} {j} {p0 p1 p2 p3 p4 p5 : Pos} {rest : List Stmt}
  {k : Nat} {sp : Sp} {t : TS} {pl : Env → Sem Bool}
abbrev superE (m : Str) (j : Nat) (p0 p1 p2 p3 p4 : Pos) : Expr := .Call (.Attribute (.Call (.Name "super" p0) [] [] p1) "__init__" p2) [.Constant (.str m) j p3] [] p4
/-- a def that begins with super().__init__("..") of an exception -/
theorem fnR_sup (T : OexC K C) (S : SupF K P C fI (ksFn name qual params (.Expr (superE m j p0 p1 p2 p3 p4) p5 :: rest) scope dV kV doc pm an (.ref cda) ct cc) cda cc) (hcd : PySem.W.codeIn K (.ref cda) qual = true) (Sc : ScS ps scope) (h0 : ps[0]? = some ("self" : Str)) (hm : mg "super" = none)
    (hbind : ∀ us : List Value, us.length = ps.length → bindArgs (ksFn name qual params (.Expr (superE m j p0 p1 p2 p3 p4) p5 :: rest) scope dV kV doc pm an (.ref cda) ct cc) ⟨us, []⟩ = pure (ps.zip us))
    (he : ∀ env : Env, eval (superE m j p0 p1 p2 p3 p4) env = (do
      let ov ← attributeBase (.Call (.Name "super" p0) [] [] p1) "__init__" env (eval (.Call (.Name "super" p0) [] [] p1) env)
      standAt p2.atName
      let (f, first) ← holding [ov] (getMethod ov "__init__" (pl env))
      callWith p4 f first (backTo p4 (starEach [.Constant (.str m) j p3] env)) []))
    (hs : ∀ env : Env, swapsWith (superE m j p0 p1 p2 p3 p4) none p5.line env = pure false)
    (hrest : ∀ (A : Around) (outer : List Env) (s : Shared) (H : Hp), PSs (cxS P w K mg base ps qual scope fI (.ref cda) cc A outer s H) rest t)
    (len : ∀ vs H Q E, sp vs H Q E → vs.length = ps.length) (hsp : ∀ vs H Q E, sp vs H Q E → ∃ a, vs[0]? = some (V.ref a) ∧ H a = some (exo a C none))
    (ht : ∀ vs H Q E, sp vs H Q E → t { nx := fun _ H' => Q .non H', rt := Q } (L2.start ps vs) H) : FnR P w K mg base (L2N.CX P w) (k + 1) fI sp := by
  intro A outer s H us vs Q E hr e0 r hq
  obtain ⟨oc, od, osl, lk⟩ := S.lk
  obtain ⟨cl, cld, csl, lkl⟩ := S.cell
  have hl := len _ _ _ _ hq
  have hlu : us.length = ps.length := by rw [← r.length]; exact hl
  have KX : K.In s.heap := e0.mod.kin.keeps fun b o e => (e0.bs b o e).1
  have lim : s.heap.NoLimit := e0.mod.nolimit.keeps fun b o e => (e0.bs b o e).1
  obtain ⟨a, hv0, ea⟩ := hsp _ _ _ _ hq
  refine ks_codeAny_call_defAt (binds := ps.zip us) hr.depth (KX _ _ lk) rfl lim (codeRec_of KX hcd) rfl (BindsTo.of_eq (hbind us hlu)) Sc.nocell (fun y hy => Sc.par _ (List.of_mem_zip hy).1) (fun h₀ hn hk => ?_) Sc.co Sc.gen Sc.kind
  have I : Inv (cxS P w K mg base ps qual scope fI (.ref cda) cc A outer s H) [] (L2.start ps vs) H { s with heap := h₀, toks := s.toks + (ps.zip us).length } := inv_startS Sc hr.hd e0 hl r hn hk lkl
  refine ks_wpAt_execs_cons (ks_wpAt_mono (at_sinit (X := cxS P w K mg base ps qual scope fI (.ref cda) cc A outer s H) T S I rfl rfl Sc.ksup Sc.kcls rfl hm h0 (Sc.par _ (List.mem_of_getElem? h0)) (start_get hv0) ea (I.quiet) (he _) (hs _)) (fun fl s' hq1 => ?_) (fun e s' z => z.elim))
  obtain ⟨rfl, I2⟩ := hq1
  refine wpAt_of_wpAny ?_
  refine wpAny_mono ((hrest A outer s H).run [] s' _ H _ I2 (ht _ _ _ _ hq)) (fun fl s2 hs2 => ?_) (fun _ _ z => z.elim)
  have fin : ∀ {σ' : L2.St} {H' : Hp} {v : V} {u : Value}, Inv (cxS P w K mg base ps qual scope fI (.ref cda) cc A outer s H) [] σ' H' s2 → RelV v u → Q v H' → CE outer P w H s Q u s2 :=
    fun {σ' H' v u} J rv q => ⟨v, H', J.os, J.bare, J.base, J.hok, rv, q⟩
  cases fl with
  | ret u =>
    obtain ⟨v, σ', H', J, rv, q⟩ := hs2
    exact fin J rv q
  | next =>
    obtain ⟨σ', H', J, q⟩ := hs2
    exact fin (v := V.non) (u := Value.none) J rfl q
  | brk =>
    obtain ⟨_, _, _, q⟩ := hs2
    exact False.elim q
  | cont =>
    obtain ⟨_, _, _, q⟩ := hs2
    exact False.elim q
end
end DL

/-! The D layer, part 22: raise. -/
namespace DL
open PySem L2 PySem.W

/-- C(..) whose __init__ keeps its arguments in the fields fs -/
def spX (C : Addr) (fs : List Str) : Sp := fun vs H Q _ => ∃ (a : Addr) (ys : List V), vs = .ref a :: ys ∧ ys.length = fs.length ∧ H a = some (exo a C none) ∧
  ∀ (H2 : Hp) (dx : Addr), H dx = none → dx ≠ a → H2 a = some (exo a C (some dx)) → H2 dx = some (exd dx (fs.zip ys).reverse) → (∀ b, b ≠ a → b ≠ dx → H2 b = H b) → Q .non H2
theorem spX_len {C : Addr} {fs ps : List Str} (h : ps.length = fs.length + 1) : ∀ vs H Q E, spX C fs vs H Q E → vs.length = ps.length := by
  rintro vs H Q E ⟨a, ys, rfl, h1, _⟩
  rw [List.length_cons, h1, h]
theorem spX_0 {C : Addr} {fs : List Str} : ∀ vs H Q E, spX C fs vs H Q E → ∃ a, vs[0]? = some (V.ref a) ∧ H a = some (exo a C none) := by
  rintro vs H Q E ⟨a, ys, rfl, _, h, _⟩
  exact ⟨a, rfl, h⟩
abbrev setS (f x : Str) (q1 q2 q3 q4 : Pos) : Stmt := .Assign [.Attribute (.Name "self" q1) f q2] (.Name x q3) q4
section
variable {X : Cx} {f x : Str} {q1 q2 q3 q4 : Pos}
theorem ps_set {i : Nat} (h0 : X.N[0]? = some ("self" : Str)) (hv0 : X.env.scope.names.lookup ("self" : Str) = some .local) (hi : X.N[i]? = some x) (hv : X.env.scope.names.lookup x = some .local) (hd : (x == ("__debug__" : Str)) = false) (hc : (x == ("__classdict__" : Str)) = false)
    (hs : swapsWith (.Name x q3) (some (.Attribute (.Name "self" q1) f q2)) q4.line X.env = pure false) :
    PS X (setS f x q1 q2 q3 q4) (tOst X.K f (tVar 0) (tVar i)) := ps_ost (pe_var h0 (.inl hv0)) (pe_var hi (.inl hv) hd hc) hs
end
theorem t_one {K : Fg} {C : Addr} {ps : List Str} {f : Str} (T : OexC K C) (hno : PySem.W.findIn K (.ref C) f = some none) : ∀ vs H Q E, spX C [f] vs H Q E → tOst K f (tVar 0) (tVar 1) { nx := fun _ H' => Q .non H', rt := Q } (L2.start ps vs) H := by
  rintro vs H Q E ⟨a, ys, rfl, hl, ea, hq⟩
  match ys, hl, hq with
  | [y], hl, hq =>
    refine ⟨y, rfl, .ref a, rfl, a, C, rfl, T, hno, .inl ⟨ea, fun dx hn hne => ?_⟩⟩
    exact hq _ dx hn hne upd_same (by rw [upd_ne hne, upd_same]; rfl) fun b h1 h2 => by rw [upd_ne h1, upd_ne h2]
theorem t_three {K : Fg} {C : Addr} {ps : List Str} {f g h : Str} (T : OexC K C) (h1 : PySem.W.findIn K (.ref C) f = some none) (h2 : PySem.W.findIn K (.ref C) g = some none) (h3 : PySem.W.findIn K (.ref C) h = some none) :
    ∀ vs H Q E, spX C [f, g, h] vs H Q E → tSeq (tOst K f (tVar 0) (tVar 1)) (tSeq (tOst K g (tVar 0) (tVar 2)) (tOst K h (tVar 0) (tVar 3))) { nx := fun _ H' => Q .non H', rt := Q } (L2.start ps vs) H := by
  rintro vs H Q E ⟨a, ys, rfl, hl, ea, hq⟩
  match ys, hl, hq with
  | [y1, y2, y3], hl, hq =>
    refine ⟨y1, rfl, .ref a, rfl, a, C, rfl, T, h1, .inl ⟨ea, fun dx hn hne => ?_⟩⟩
    refine ⟨y2, rfl, .ref a, rfl, a, C, rfl, T, h2, .inr ⟨dx, [(f, y1)], upd_same, by rw [upd_ne hne, upd_same], by simp, ?_⟩⟩
    refine ⟨y3, rfl, .ref a, rfl, a, C, rfl, T, h3, .inr ⟨dx, [(g, y2), (f, y1)], by rw [upd_ne hne.symm, upd_same], upd_same, by simp, ?_⟩⟩
    exact hq _ dx hn hne (by rw [upd_ne hne.symm, upd_ne hne.symm, upd_same]) (by rw [upd_same]; rfl) fun b k1 k2 => by rw [upd_ne k2, upd_ne k2, upd_ne k1, upd_ne k2]
/-! ### C(e, ..) -/
def tMkX (C : Addr) (fs : List Str) (ta : TA) : L2.St → Hp → XK → Prop := fun σ H Q => ta σ H fun vs H1 => vs.length = fs.length ∧ fs.length ≤ 100 ∧ ∀ dx, H1 dx = none → Q (.ref C) (some dx) (upd H1 dx (.xd (fs.zip vs).reverse))
section
variable {X : Cx} {x : Str} {C fI : Addr} {k : Nat} {fs : List Str} {p pos : Pos} {e : Expr} {es : List Expr} {ta : TA}
theorem pmkX (T : OexC X.K C) (iC : PySem.W.findIn X.K (.ref C) "__init__" = some (some (.ref fI))) (tI : PySem.W.typeIn X.K (.ref fI) = some (.type "function")) (F1 : FnR X.prog X.w X.K X.mg X.base (L2N.CX X.prog X.w) k fI (spX C fs)) (hr : Room (k + 1) X.A) (hg : Gl X x) (hm : X.mg x = some (.ref C)) (ha : PA X (e :: es) ta)
    (hdb : (x == ("__debug__" : Str)) = false := by decide) (he : starEach (e :: es) X.env = (false, eval e X.env) :: starEach es X.env := by rfl) (hpl : (backTo pos (starEach es X.env)).any (·.1) = false := by rfl) :
    L2N.PMk X (.Call (.Name x p) (e :: es) [] pos) (tMkX C fs ta) := by
  intro pins s σ H Q I h
  obtain ⟨nm, q, N, bs, bm, sn, sub, ab, col, dd, k0, k1, k2, k3, k5, hC, hbm⟩ := T.cls
  refine wpAny_Call_Name_kw (ld_glob I hg hm ?_ hdb)
  refine PySem.W.callWith_K (h₀ := X.base) I.ok.mod.kin T.kC (thn (ha.run pos pins s σ H _ I h) fun us s1 ⟨vs, H1, I1, r1, hvl, hfl, q1⟩ => ⟨I1.kIn, ?_⟩) he hpl
  show wpAny _ _ (call (.ref C) us) _ _ _
  obtain ⟨hp, g, dr, tk, os⟩ := s1
  have hsz : hp.objs.size ≤ hp.objs.size + 1 := Nat.le_succ _
  have hn : H1 (hp.objs.size + 1) = none := I1.hok.fresh hsz
  have kk : ∀ b o, hp.get? b = some o → ((hp.push (PySem.W.kdv_tup us)).push (PySem.HandSPX.excO C hp.objs.size)).get? b = some o := fun b o e => Heap.get?_push_of_some _ (Heap.get?_push_of_some _ e)
  have hget : ((hp.push (PySem.W.kdv_tup us)).push (PySem.HandSPX.excO C hp.objs.size)).get? (hp.objs.size + 1) = some (PySem.HandSPX.excO C hp.objs.size) := by heap_get
  have I2 : Inv X pins σ (upd H1 (hp.objs.size + 1) (exo (hp.objs.size + 1) C none)) ⟨(hp.push (PySem.W.kdv_tup us)).push (PySem.HandSPX.excO C hp.objs.size), g, dr, tk, os⟩ :=
    I1.laid (t' := tk) (a := hp.objs.size + 1) (o := exo (hp.objs.size + 1) C none) (h' := (hp.push (PySem.W.kdv_tup us)).push (PySem.HandSPX.excO C hp.objs.size)) kk hsz (exo_ok hget)
  have r2 : Vals (V.ref (hp.objs.size + 1) :: vs) (Value.ref (hp.objs.size + 1) :: us) := .cons rfl r1
  have hus : us.length ≤ sizeLine := by
    rw [← Paired.length r1, sizeLine_eq]
    omega
  have hq : spX C fs (V.ref (hp.objs.size + 1) :: vs) (upd H1 (hp.objs.size + 1) (exo (hp.objs.size + 1) C none)) (fun v H2 => v = .non ∧ ∃ dx, H1 dx = none ∧ dx ≠ hp.objs.size + 1 ∧ H2 (hp.objs.size + 1) = some (exo (hp.objs.size + 1) C (some dx)) ∧
      H2 dx = some (exd dx (fs.zip vs).reverse) ∧ ∀ b, b ≠ hp.objs.size + 1 → b ≠ dx → H2 b = H1 b) (fun _ _ _ => False) :=
    ⟨_, vs, rfl, hvl, upd_same, fun H2 dx h1 h2 h3 h4 h5 => ⟨rfl, dx, by rw [upd_ne h2] at h1; exact h1, h2, h3, h4, fun b n1 n2 => by rw [h5 b n1 n2, upd_ne n1]⟩⟩
  refine wpAny_call (PySem.HandSPX.call_own F.excBase_ValueError (fun Y => PySem.HandSPX.refsVE_contains Y bm hbm) (I1.kIn _ _ hC) (PySem.W.looks_findIn I1.kIn iC) (fun self => PySem.W.bind_fn I1.kIn self tI) hus
    (codeAny_mono (F1 _ X.stack _ _ (Value.ref (hp.objs.size + 1) :: us) _ _ (fun _ _ _ => False) (hr.make C us []) (I2.env0.make C us []) r2 hq) fun r s' hq' => ?_))
  cases r with
  | error er =>
    obtain ⟨_, _, _, _, _, _, _, _, _, _, _, _, z⟩ := hq'
    exact z.elim
  | ok fl =>
    cases fl with
    | ret u =>
      obtain ⟨v, H2, os2, bare2, un2, hok2, rv, ev, d, hd1, hda, ea, ed, hb⟩ := hq'
      subst ev
      obtain ⟨h2, g2, d2, t2, os'⟩ := s'
      obtain ⟨t0, G, J, kG, ge, hoe, na⟩ := mk_end0 (d2 := d2) (t2 := t2) I1 hsz kk un2 hok2 os2 bare2 ea ed hd1
      refine ⟨rv, ⟨hp.objs.size + 1, _, _, ⟨G, g2, d2, t2, os'⟩, _, .ref C, some d, rfl, J, kG, ge, hoe, ⟨rfl, rfl, fun vs hv => by cases hv; rfl⟩, rfl, rfl, na, rfl, bare2, raises_own T.exC T.tyC, ?_⟩⟩
      have e : upd (del H2 (hp.objs.size + 1)) d (.xd (fs.zip vs).reverse) = upd H1 d (.xd (fs.zip vs).reverse) := by
        funext b
        by_cases z : b = d
        · rw [z, upd_same, upd_same]
        · rw [upd_ne z, upd_ne z]
          by_cases y : b = hp.objs.size + 1
          · rw [y, del_same, hn]
          · rw [del_ne y, hb b y z]
      rw [e]
      exact q1 d hd1
    | next => exact False.elim hq'
    | brk => exact False.elim hq'
    | cont => exact False.elim hq'
end
/-! ### raise -/
def dRaise0 (C : String) : TDS := fun B en => B.ex ⟨C, [], []⟩ en
def dRaiseN (C : String) (fs : List String) (a : TDA) : TDS := fun B en => a en (fun ds en1 => ds.length = fs.length ∧ B.ex ⟨C, fs.reverse, ds.reverse⟩ en1) B.ex
structure Xc0 (K : Fg) (C : Addr) : Prop where
  ex : PySem.W.excIn K C HandSPX.veTail "ValueError.__new__" = true
  kC : PySem.W.keepIn K (.ref C) = true
  exC : PySem.W.subIn K (.ref C) (.type "BaseException") = some true
  tyC : PySem.W.typeIn K (.ref C) = some (.type "type")
structure XcN (K : Fg) (C fI : Addr) : Prop where
  T : OexC K C
  iC : PySem.W.findIn K (.ref C) "__init__" = some (some (.ref fI))
  tI : PySem.W.typeIn K (.ref fI) = some (.type "function")
section
variable {X : Cx} {W : WX} {C : String} {m : Str} {j} {p p2 pos pos2 : Pos}
theorem ds_raise0 (hc : X.calm = true) (tk : Takes X W) (h0 : Xc0 X.K (He.ga X.K C)) (hg : Gl X C) (hm : X.mg C = some (.ref (He.ga X.K C))) (hdb : ((C : Str) == ("__debug__" : Str)) = false := by decide) :
    DS X W (.Raise (some (.Call (.Name C p) [.Constant (.str m) j p2] [] pos2)) none pos) (fun _ σ H => W (.ref (He.ga X.K C)) none σ H) (dRaise0 C) :=
  ⟨L2N.ps_raise hc tk (L2N.pmk_own F.excBase_ValueError h0.ex hm h0.kC (raises_own h0.exC h0.tyC) hg hdb), fun G F H σ en D' B R q k => k.ex _ F H σ en _ none R ⟨rfl, .inl ⟨rfl, rfl, rfl⟩⟩ q⟩
variable {k : Nat} {fI : Addr} {fs : List String} {e : Expr} {es : List Expr} {ta : TA} {da : TDA}
theorem ds_raiseN (hc : X.calm = true) (tk : Takes X W) (T : XcN X.K (He.ga X.K C) fI) (F1 : FnR X.prog X.w X.K X.mg X.base (L2N.CX X.prog X.w) k fI (spX (He.ga X.K C) (fs.map Str.ofString))) (hr : Room (k + 1) X.A) (hg : Gl X C) (hm : X.mg C = some (.ref (He.ga X.K C))) (ha : DA X W (e :: es) ta da)
    (hl : fs.length ≤ 100 := by decide) (hdb : ((C : Str) == ("__debug__" : Str)) = false := by decide) (he : starEach (e :: es) X.env = (false, eval e X.env) :: starEach es X.env := by rfl) (hpl : (backTo pos2 (starEach es X.env)).any (·.1) = false := by rfl) :
    DS X W (.Raise (some (.Call (.Name C p) (e :: es) [] pos2)) none pos) (fun _ σ H => tMkX (He.ga X.K C) (fs.map Str.ofString) ta σ H fun cls d H' => W cls d σ H') (dRaiseN C fs da) :=
  ⟨L2N.ps_raise hc tk (pmkX T.T T.iC T.tI F1 hr hg hm ha.pa hdb he hpl), fun G F H σ en D' B R q k => ha.sim G F H σ en _ _ _ R q k.ex fun vs ds F1 H1 en1 e1 R1 i1 q1 => by
    refine ⟨by rw [i1.length, List.length_map]; exact q1.1, by rw [List.length_map]; exact hl, fun dx hdx => ?_⟩
    have hF := R1.free hdx
    have hlen : (fs.map Str.ofString).length = vs.length := by rw [i1.length, List.length_map]; exact q1.1.symm
    refine k.ex ⟨C, fs.reverse, ds.reverse⟩ (upd F1 dx (.xd ((fs.map Str.ofString).zip vs).reverse)) _ σ en1 _ (some dx) (R1.laid hdx) ⟨rfl, .inr ⟨dx, vs.reverse, rfl, ?_, ?_, IsL.mono (same_upd hF) _ _ i1.reverse⟩⟩ q1.2
    · rw [upd_same]
      unfold fieldsV
      rw [List.map_reverse]
      congr 2
      have zr : ∀ (xs : List Str) (ys : List V), xs.length = ys.length → (xs.zip ys).reverse = xs.reverse.zip ys.reverse := by
        intro xs
        induction xs with
        | nil => intro ys h; simp
        | cons x xs ih =>
          intro ys h
          cases ys with
          | nil => simp at h
          | cons y ys =>
            simp only [List.length_cons, Nat.add_right_cancel_iff] at h
            rw [List.zip_cons_cons, List.reverse_cons, ih ys h, List.reverse_cons, List.reverse_cons, List.zip_append (by simp [h])]
            rfl
      exact zr _ _ hlen
    · show fs.reverse.length = ds.reverse.length
      rw [List.length_reverse, List.length_reverse]
      exact q1.1.symm⟩
end
end DL

/-! The D layer, part 23: try, its clauses with or without a name. -/
namespace DL
open PySem PySem.Spec PyProof.Rows L2

abbrev HdT := Value × Option Nat × (Addr → Value → Option Addr → TS)
/-- behind a suite whose exception has the slot i, if it has one -/
def sufT (D : Ends) : Option Nat → Ends
  | none => D
  | some i => { nx := fun σ' H' => D.nx (σ'.set i none) H', rt := D.rt, bk := fun σ' H' => D.bk (σ'.set i none) H', ct := fun σ' H' => D.ct (σ'.set i none) H' }
def putT (σ : L2.St) (a : Addr) : Option Nat → L2.St
  | none => σ
  | some i => σ.set i (some (.ref a))
def wAny (K : Fg) (Wout : WX) (D : Ends) : List HdT → WX
  | [] => Wout
  | (c, i, ts) :: r => fun cls d σ H => ∃ b, PySem.W.exmOne K cls c = some b ∧ (b = true → ∀ a, H a = none → ts a cls d (sufT D i) (putT σ a i) H) ∧ (b = false → wAny K Wout D r cls d σ H)
/-- the clause's name has the slot -/
def NmOk (X : Cx) : Option Str → Option Nat → Prop
  | none, none => True
  | some n, some i => X.N[i]? = some n ∧ X.env.kindOf n = some .local
  | _, _ => False
inductive HdsAny (X : Cx) : List ExceptHandler → List HdT → Prop
  | nil : HdsAny X [] []
  | cons {x : Str} {c : Value} {nm : Option Str} {i : Option Nat} {ts : Addr → Value → Option Addr → TS} {b₀ : Stmt} {suite : List Stmt} {np pos' : Pos} {hds : List ExceptHandler} {l : List HdT} (hc : Names X x c) (hn : NmOk X nm i)
      (hsu : ∀ (a : Addr) (oe : Obj) (cls : Value) (d : Option Addr) (pn : List (Addr × Obj)), L2N.Zn cls d oe → (∃ vs, oe.data = .fields vs) → PSs (X.suite a ((a, oe) :: pn)) (b₀ :: suite) (ts a cls d)) (r : HdsAny X hds l) :
      HdsAny X (.ExceptHandler (some (.Name x np)) nm (b₀ :: suite) pos' :: hds) ((c, i, ts) :: l)
section
variable {X : Cx} {body : List Stmt} {h₀ : ExceptHandler} {hds : List ExceptHandler} {l : List HdT} {pos : Pos} {tb : WX → TS} {Wout : WX}
/-- where the exception stands once it has landed -/
structure Landed (X : Cx) (pins : List (Addr × Obj)) (a : Addr) (cls : Value) (d : Option Addr) (σ : L2.St) (H : Hp) (h : Heap) (s' : Shared) : Prop where
  inv : Inv X pins σ H { s' with heap := h }
  suite : ∃ oe vs, h.get? a = some oe ∧ L2N.Zn cls d oe ∧ oe.data = .fields vs ∧ Inv (X.suite a ((a, oe) :: (X.pn ++ pins))) [] σ H { s' with heap := h }
theorem ps_try_any (hs : X.stack = X.env :: X.outer) (hf : X.env.frame = some X.env.locals) (hN : X.N.Nodup) (tk : Takes X Wout)
    (hb : ∀ (W : WX) (pn : List (Addr × Obj)) (xe : Value → Shared → Prop), Takes (X.tr pn xe) W → PassesOwn (model X.prog X.w) X.A X.env xe → PSs (X.tr pn xe) body (tb W))
    (hh : HdsAny X (h₀ :: hds) l) : PS X (.Try body (h₀ :: hds) [] [] pos) (fun D σ H => tb (wAny X.K Wout D l) D σ H) := by
  refine ⟨fun pins s σ H D I h => ?_⟩
  have ok := I.ok
  have hfr : X.A.frames = some (X.env :: X.outer) := by rw [ok.frames, hs]
  refine wpAny_Try_except ?_
  refine wpAny_mono ((hb (wAny X.K Wout D l) (X.pn ++ pins) (fun e s₁ => wpAny (model X.prog X.w) X.A (noteFrame e X.env) (fun _ s₂ => wpAny (model X.prog X.w) X.A (setFlight e none) (fun _ s₃ =>
    wpAny (model X.prog X.w) X.A (handleBy e X.env (h₀ :: hds)) (SP X pins D) X.xe s₃) X.xe s₂) X.xe s₁) (fun u s' xx => ?_) PassesOwn.looking).run [] s σ H D (I.toTry _) h) (fun f s1 hsp => ?_) (fun e s1 he => he)
  · obtain ⟨a, B, sI, pins', σ', H', cls, d, rfl, J', nb, up, sky, na, os, ag, w⟩ := xx
    have J : Inv X pins σ' H' sI := J'.ofTry ok
    rw [hs] at sky
    have notFr : ∀ {h : Heap} {o : Obj} {vs : Array Value}, h.FunFrames B (X.env :: X.outer) → h.get? a = some o → o.data = .fields vs → a ∉ frs (X.env :: X.outer) := fun {h o vs} ff e dd hm => by
      obtain ⟨_, o', e', hnf⟩ := ff.mem hm
      rw [e] at e'; cases e'
      exact hnf _ dd
    have lands : ∀ {h3 : Heap}, HandSPX.FlyingZ B (X.env :: X.outer) a (L2N.Zn cls d) h3 → s'.heap.UpToSlots h3 → Landed X pins a cls d σ' H' h3 s' := fun {h3} fl up3 => by
      have J3 : Inv X pins σ' H' { s' with heap := h3 } := J.landed nb fl.1 (up.trans up3) os ag
      obtain ⟨oe, vs, he, hz, hd⟩ := fl.there
      have nfr := notFr fl.2.2.1 he hd
      have nL : a ≠ X.env.locals := fun z => nfr (List.mem_filterMap.mpr ⟨X.env, List.mem_cons_self, by rw [hf, z]⟩)
      have nF : a ∉ X.fs := fun hm => by
        obtain ⟨e, he, q⟩ := List.mem_filterMap.mp hm
        exact nfr (List.mem_filterMap.mpr ⟨e, List.mem_cons_of_mem _ he, q⟩)
      exact ⟨J3, oe, vs, he, hz, hd, J3.suite he hd na nL nF⟩
    show wpAny (model X.prog X.w) X.A (noteFrame (.ref a) X.env) _ _ _
    refine L2N.Sky.land L2N.Zn.steady hfr hf sky fun h3 fl3 up3 => ?_
    obtain ⟨J3, oe3, vs3, he3, hz3, hd3, S3⟩ := lands fl3 up3
    have go : ∀ {hds' : List ExceptHandler} {l' : List HdT}, HdsAny X hds' l' → wAny X.K Wout D l' cls d σ' H' →
        wpAny (model X.prog X.w) X.A (handleBy (.ref a) X.env hds') (SP X pins D) X.xe { s' with heap := h3 } := by
      intro hds' l' hk
      induction hk with
      | nil =>
        intro w
        refine wpAny_handleBy_nil ?_
        obtain ⟨k1, k2, k3, oe, vs, T, oT, ts', he, hz, hd, h1, hr⟩ := id fl3
        unfold PySem.passOn
        refine wpAny_bind (wpAny_field he hd h1 ?_)
        rw [if_neg (show ¬ ((Value.ref T == Value.none) = true) from by simp)]
        have fin : wpAny (model X.prog X.w) X.A (setFlight (.ref a) X.env.frame) (fun _ s4 => wpAny (model X.prog X.w) X.A (throw (.ref a) : Sem Flow) (SP X pins D) X.xe s4) X.xe { s' with heap := h3 } := by
          rw [hf]
          refine HandSPX.setFlight_upZ fl3 fun h4 hh4 up4 => wpAny_throw (tk _ _ ?_)
          exact ⟨a, B, sI, pins, σ', H', cls, d, rfl, J, nb, (up.trans up3).trans up4, .inr (.inr (by rw [hs]; exact hh4)), na, os, ag, w⟩
        first
          | exact wpAny_bind (wpAny_pure (wpAny_bind fin))
          | exact wpAny_bind fin
      | @cons x c nm i ts b₀ suite np pos' hds2 l2 hc hn hsu r ih =>
        intro w
        obtain ⟨b, hb1, hyes, hno⟩ := w
        refine wpAny_handleBy_cons (codeAny_handlers_test ?_) (by intro q; cases q)
        have LT : PySem.W.Looks (model X.prog X.w) h3 (typeOf (.ref a)) cls := fun A Q E s k q => wpAny_typeOf_ref (k _ _ he3) (by rw [hz3.1]; exact q)
        have LM := PySem.W.exm_one (M := model X.prog X.w) (J3.kIn) LT hb1
        have test : ∀ {Q : Value → Shared → Prop} {E : Value → Shared → Prop}, Q c { s' with heap := h3 } → wpAny (model X.prog X.w) (X.A.mark (some (.ref a))) (eval (.Name x np) X.env) Q E { s' with heap := h3 } := fun {Q E} q => by
          obtain ⟨hg, hdbg, hm | ⟨hm, hv, hnn⟩⟩ := hc
          · exact ld_glob (X := X.suite a ((a, oe3) :: (X.pn ++ pins))) S3 hg hm q hdbg
          · exact ld_blt (X := X.suite a ((a, oe3) :: (X.pn ++ pins))) S3 hg hm hv q hnn hdbg
        refine test (LM.here ?_)
        cases b with
        | false =>
          show wpAny _ X.A (handleBy (.ref a) X.env hds2) _ _ _
          exact ih (hno rfl)
        | true =>
          have hy := hyes rfl a na
          match nm, i, hn with
          | none, none, _ =>
            refine codeAny_handlers_suite ?_
            refine HandSPX.lands_againZ fl3 fun h4 fl4 up4 => ?_
            obtain ⟨J4, oe4, vs4, he4, hz4, hd4, S4⟩ := lands fl4 (up3.trans up4)
            refine wpAny_mono ((hsu a oe4 cls d (X.pn ++ pins) hz4 ⟨_, hd4⟩).run [] _ _ H' _ S4 hy) (fun f s6 hsp => ?_) (fun _ _ z => False.elim z)
            cases f with
            | next => obtain ⟨σ6, H6, S6, q6⟩ := hsp; exact ⟨_, _, S6.unsuite ok, q6⟩
            | brk => obtain ⟨σ6, H6, S6, q6⟩ := hsp; exact ⟨_, _, S6.unsuite ok, q6⟩
            | cont => obtain ⟨σ6, H6, S6, q6⟩ := hsp; exact ⟨_, _, S6.unsuite ok, q6⟩
            | ret u => obtain ⟨v6, σ6, H6, S6, r6, q6⟩ := hsp; exact ⟨_, _, _, S6.unsuite ok, r6, q6⟩
          | some n, some i, ⟨hi, hln⟩ =>
            refine codeAny_handlers_suite_as ?_
            refine HandSPX.lands_againZ fl3 fun h4 fl4 up4 => ?_
            obtain ⟨J4, oe4, vs4, he4, hz4, hd4, S4⟩ := lands fl4 (up3.trans up4)
            refine store_ok (X := X.suite a ((a, oe4) :: (X.pn ++ pins))) (v := .ref a) S4 hN hi (.inl hln) rfl (fun s5 S5 => ?_) (.inr hln)
            refine wpAny_mono ((hsu a oe4 cls d (X.pn ++ pins) hz4 ⟨_, hd4⟩).run [] s5 _ H' _ S5 hy) (fun f s6 hsp => ?_) (fun _ _ z => False.elim z)
            have end_ : ∀ {σ6 : L2.St} {H6 : Hp} {Q : Shared → Prop}, Inv (X.suite a ((a, oe4) :: (X.pn ++ pins))) [] σ6 H6 s6 → (∀ s7, Inv X pins (σ6.set i none) H6 s7 → Q s7) →
                wpAny (model X.prog X.w) X.A (do bindName X.env n .none; unbindBehindTheSuite X.env n pos') (fun _ s7 => Q s7) X.xe s6 := fun {σ6 H6 Q} S6 hq => gone_ok (S6.unsuite ok) hN hi hln hq
            cases f with
            | next => obtain ⟨σ6, H6, S6, q6⟩ := hsp; exact end_ S6 fun s7 J7 => ⟨_, _, J7, q6⟩
            | brk => obtain ⟨σ6, H6, S6, q6⟩ := hsp; exact end_ S6 fun s7 J7 => ⟨_, _, J7, q6⟩
            | cont => obtain ⟨σ6, H6, S6, q6⟩ := hsp; exact end_ S6 fun s7 J7 => ⟨_, _, J7, q6⟩
            | ret u => obtain ⟨v6, σ6, H6, S6, r6, q6⟩ := hsp; exact end_ S6 fun s7 J7 => ⟨_, _, _, J7, r6, q6⟩
    exact go hh w
  · cases f with
    | next => obtain ⟨σ', H', J', q⟩ := hsp; exact wpAny_execs_nil ⟨σ', H', J'.ofTry ok, q⟩
    | brk => obtain ⟨σ', H', J', q⟩ := hsp; exact ⟨σ', H', J'.ofTry ok, q⟩
    | cont => obtain ⟨σ', H', J', q⟩ := hsp; exact ⟨σ', H', J'.ofTry ok, q⟩
    | ret u => obtain ⟨v, σ', H', J', r, q⟩ := hsp; exact ⟨v, σ', H', J'.ofTry ok, r, q⟩
end
end DL

/-! The D layer, part 24: try over plain data, what a suite may say of its exception. -/
namespace DL
open PySem PySem.Spec PyProof.Rows L2

/-- a clause: those of the program's exceptions that it takes, the others, its slot, its suite -/
structure DHd where
  subs : List String
  oth : List String
  i : Option Nat
  suite : Addr → Value → Option Addr → TDS
@[simp] def exT (subs oth : List String) (C : String) : Option Bool := if C ∈ subs then some true else if C ∈ oth then some false else none
@[simp] def sufE (B : DEnds) : Option Nat → DEnds
  | none => { B with ex := fun _ _ => False }
  | some i => { nx := fun en => B.nx (en.set i none), rt := fun d en => B.rt d (en.set i none), bk := fun en => B.bk (en.set i none), ct := fun en => B.ct (en.set i none), ex := fun _ _ => False, fr := B.fr }
@[simp] def putE (en : En) (a : Addr) (cls : Value) (d : Option Addr) (x : Exn) : Option Nat → En
  | none => en
  | some i => en.set i (some (.xc a cls d x))
def hdsD (B : DEnds) : List DHd → Qx
  | [] => B.ex
  | h :: r => fun x en => match exT h.subs h.oth x.C with
    | some true => ∀ a cls d, h.suite a cls d (sufE B h.i) (putE en a cls d x h.i)
    | some false => hdsD B r x en
    | none => False
def dTry (tb : TDS) (hs : List DHd) : TDS := fun B en => tb { B with ex := hdsD B hs } en

section
variable {K : KW} {G : Gh} {F H : Hp} {σ : L2.St} {en : En} {i : Nat}
/-- the exception goes into its slot -/
theorem Rel.inx (R : Rel K G F H σ en) {a : Addr} {cls : Value} {d : Option Addr} {x : Exn} (hx : ExR K F x cls d) : Rel K { G with xi := i :: G.xi } F H (σ.set i (some (.ref a))) (en.set i (some (.xc a cls d x))) where
  le := R.le
  f0 := R.f0
  pr := R.pr
  io := R.io
  len := by rw [List.length_set, List.length_set]; exact R.len
  fz := fun j e k => by
    by_cases z : j = i
    · subst z
      have hlt := get_lt k
      rw [List.length_set] at hlt
      rw [List.getElem?_set_self hlt] at k
      cases k
    · rw [List.getElem?_set_ne (fun q => z q.symm)] at k
      rw [List.getElem?_set_ne (fun q => z q.symm)]
      exact R.fz j e k
  ow := fun j b e k => by
    by_cases z : j = i
    · subst z
      have hlt := get_lt k
      rw [List.length_set] at hlt
      rw [List.getElem?_set_self hlt] at k
      cases k
    · rw [List.getElem?_set_ne (fun q => z q.symm)] at k
      rw [List.getElem?_set_ne (fun q => z q.symm)]
      exact R.ow j b e k
  sep := fun j l b c e f a2 k1 k2 k3 k4 => by
    by_cases z : j = i
    · subst z
      have hlt := get_lt k1
      rw [List.length_set] at hlt
      rw [List.getElem?_set_self hlt] at k1
      cases k1
    · by_cases z2 : l = i
      · subst z2
        have hlt := get_lt k2
        rw [List.length_set] at hlt
        rw [List.getElem?_set_self hlt] at k2
        cases k2
      · rw [List.getElem?_set_ne (fun q => z q.symm)] at k1 k3
        rw [List.getElem?_set_ne (fun q => z2 q.symm)] at k2 k4
        exact R.sep j l b c e f a2 k1 k2 k3 k4
  xc := fun j a2 c2 d2 x2 k => by
    by_cases z : j = i
    · subst z
      have hlt := get_lt k
      rw [List.length_set] at hlt
      rw [List.getElem?_set_self hlt] at k
      cases k
      exact ⟨List.mem_cons_self .., List.getElem?_set_self (by rw [R.len]; exact hlt), hx⟩
    · rw [List.getElem?_set_ne (fun q => z q.symm)] at k
      rw [List.getElem?_set_ne (fun q => z q.symm)]
      obtain ⟨h1, h2, h3⟩ := R.xc j a2 c2 d2 x2 k
      exact ⟨List.mem_cons_of_mem _ h1, h2, h3⟩
/-- it goes out of its slot -/
theorem Rel.outx (R : Rel K { G with xi := i :: G.xi } F H σ en) : Rel K G F H (σ.set i none) (en.set i none) where
  le := R.le
  f0 := R.f0
  pr := R.pr
  io := R.io
  len := by rw [List.length_set, List.length_set]; exact R.len
  fz := fun j e k => by
    by_cases z : j = i
    · subst z
      have hlt := get_lt k
      rw [List.length_set] at hlt
      rw [List.getElem?_set_self hlt] at k
      cases k
    · rw [List.getElem?_set_ne (fun q => z q.symm)] at k
      rw [List.getElem?_set_ne (fun q => z q.symm)]
      exact R.fz j e k
  ow := fun j b e k => by
    by_cases z : j = i
    · subst z
      have hlt := get_lt k
      rw [List.length_set] at hlt
      rw [List.getElem?_set_self hlt] at k
      cases k
    · rw [List.getElem?_set_ne (fun q => z q.symm)] at k
      rw [List.getElem?_set_ne (fun q => z q.symm)]
      exact R.ow j b e k
  sep := fun j l b c e f a2 k1 k2 k3 k4 => by
    by_cases z : j = i
    · subst z
      have hlt := get_lt k1
      rw [List.length_set] at hlt
      rw [List.getElem?_set_self hlt] at k1
      cases k1
    · by_cases z2 : l = i
      · subst z2
        have hlt := get_lt k2
        rw [List.length_set] at hlt
        rw [List.getElem?_set_self hlt] at k2
        cases k2
      · rw [List.getElem?_set_ne (fun q => z q.symm)] at k1 k3
        rw [List.getElem?_set_ne (fun q => z2 q.symm)] at k2 k4
        exact R.sep j l b c e f a2 k1 k2 k3 k4
  xc := fun j a2 c2 d2 x2 k => by
    by_cases z : j = i
    · subst z
      have hlt := get_lt k
      rw [List.length_set] at hlt
      rw [List.getElem?_set_self hlt] at k
      cases k
    · rw [List.getElem?_set_ne (fun q => z q.symm)] at k
      rw [List.getElem?_set_ne (fun q => z q.symm)]
      obtain ⟨h1, h2, h3⟩ := R.xc j a2 c2 d2 x2 k
      rcases List.mem_cons.mp h1 with h1 | h1
      · exact absurd h1 z
      · exact ⟨h1, h2, h3⟩
theorem Tmp.outx {a : Addr} {d : D} (T : Tmp K { G with xi := i :: G.xi } F H σ en a d) : Tmp K G F H (σ.set i none) (en.set i none) a d := ⟨T.nf, T.at_, T.n0, fun j b e k => by
  by_cases z : j = i
  · subst z
    have hlt := get_lt k
    rw [List.length_set] at hlt
    rw [List.getElem?_set_self hlt] at k
    cases k
  · rw [List.getElem?_set_ne (fun q => z q.symm)] at k
    rw [List.getElem?_set_ne (fun q => z q.symm)]
    exact T.ns j b e k⟩
theorem suf_none {W : WX} {D' : Ends} {B : DEnds} (k : EndsR K W G D' B) : EndsR K W0 G (sufT D' none) (sufE B none) := ⟨k.nx, k.rt, k.bk, k.ct, xr0, k.rtO⟩
theorem suf_some {W : WX} {D' : Ends} {B : DEnds} (k : EndsR K W G D' B) : EndsR K W0 { G with xi := i :: G.xi } (sufT D' (some i)) (sufE B (some i)) :=
  ⟨fun F H σ en R q => k.nx F H _ _ R.outx q, fun v d F H σ en f R is q => k.rt v d F H _ _ f R.outx is q, fun F H σ en R q => k.bk F H _ _ R.outx q, fun F H σ en R q => k.ct F H _ _ R.outx q, xr0, fun a d F H σ en f R T q => k.rtO a d F H _ _ f R.outx T.outx q⟩
end
theorem PSs.weak {X : Cx} {b : List Stmt} {t t' : TS} (h : PSs X b t) (i : ∀ D σ H, t' D σ H → t D σ H) : PSs X b t' := ⟨fun pins s σ H D I q => h.run pins s σ H D I (i _ _ _ q)⟩

inductive DHdsOk (X : Cx) : List ExceptHandler → List DHd → Prop
  | nil : DHdsOk X [] []
  | cons {C : String} {nm : Option Str} {i : Option Nat} {subs oth : List String} {sd : Addr → Value → Option Addr → TDS} {b₀ : Stmt} {suite : List Stmt} {np pos' : Pos} {hds : List ExceptHandler} {l : List DHd} (hc : Names X C (.ref (He.ga X.K C))) (hn : NmOk X nm i)
      (ht : ∀ E ∈ subs, PySem.W.exmOne X.K (.ref (He.ga X.K E)) (.ref (He.ga X.K C)) = some true) (ho : ∀ E ∈ oth, PySem.W.exmOne X.K (.ref (He.ga X.K E)) (.ref (He.ga X.K C)) = some false)
      (hsu : ∀ (a : Addr) (oe : Obj) (cls : Value) (d : Option Addr) (pn : List (Addr × Obj)), L2N.Zn cls d oe → (∃ vs, oe.data = .fields vs) → ∃ ts, DSs (X.suite a ((a, oe) :: pn)) W0 (b₀ :: suite) ts (sd a cls d)) (r : DHdsOk X hds l) :
      DHdsOk X (.ExceptHandler (some (.Name C np)) nm (b₀ :: suite) pos' :: hds) (⟨subs, oth, i, sd⟩ :: l)
theorem exT_cases {subs oth : List String} {C : String} {b : Bool} (h : exT subs oth C = some b) : (b = true ∧ C ∈ subs) ∨ (b = false ∧ C ∈ oth) := by
  unfold exT at h
  split at h
  · cases h; exact .inl ⟨rfl, by assumption⟩
  · split at h
    · cases h; exact .inr ⟨rfl, by assumption⟩
    · cases h
section
variable {X : Cx} {body : List Stmt} {h₀ : ExceptHandler} {hds : List ExceptHandler} {l : List DHd} {pos : Pos} {td : TDS} {W : WX}
/-- the clauses' readings -/
theorem DHdsOk.ts {hds : List ExceptHandler} {l : List DHd} (h : DHdsOk X hds l) : ∃ lt : List HdT, HdsAny X hds lt ∧ ∀ (G : Gh) (D' : Ends) (B : DEnds), EndsR (kk X) W G D' B →
    ∀ x F H σ en cls d, Rel (kk X) G F H σ en → ExR (kk X) F x cls d → hdsD B l x en → wAny X.K W D' lt cls d σ H := by
  induction h with
  | nil => exact ⟨[], .nil, fun G D' B k x F H σ en cls d R hx q => k.ex x F H σ en cls d R hx q⟩
  | @cons C nm i subs oth sd b₀ suite np pos' hds l hc hn ht ho hsu r ih =>
    obtain ⟨lt, h1, h2⟩ := ih
    refine ⟨(.ref (He.ga X.K C), i, fun a cls d D σ H => ∀ oe pn (hz : L2N.Zn cls d oe) (hv : ∃ vs, oe.data = .fields vs), Classical.choose (hsu a oe cls d pn hz hv) D σ H) :: lt,
      .cons hc hn (fun a oe cls d pn hz hv => PSs.weak (Classical.choose_spec (hsu a oe cls d pn hz hv)).ps fun D σ H q => q oe pn hz hv) h1, fun G D' B k x F H σ en cls d R hx q => ?_⟩
    unfold hdsD at q
    have hc' := hx.1
    split at q
    · rename_i e
      have q : ∀ a cls d, sd a cls d (sufE B i) (putE en a cls d x i) := q
      rcases exT_cases e with ⟨_, m⟩ | ⟨z, _⟩
      · refine ⟨true, by rw [hc']; exact ht _ m, fun _ a na oe pn hz hv => ?_, fun z => nomatch z⟩
        have sp := (Classical.choose_spec (hsu a oe cls d pn hz hv)).sim
        have q := q a cls d
        cases i with
        | none => exact sp G F H σ en _ _ R q (suf_none k)
        | some i => exact sp _ F H _ _ _ _ (R.inx hx) q (suf_some k)
      · cases z
    · rename_i e
      rcases exT_cases e with ⟨z, _⟩ | ⟨_, m⟩
      · cases z
      · exact ⟨false, by rw [hc']; exact ho _ m, (fun z => nomatch z), fun _ => h2 G D' B k x F H σ en cls d R hx q⟩
    · exact q.elim
theorem ds_try (hs : X.stack = X.env :: X.outer) (hf : X.env.frame = some X.env.locals) (hN : X.N.Nodup) (tk : Takes X W)
    (hb : ∀ (W : WX) (pn : List (Addr × Obj)) (xe : Value → Shared → Prop), Takes (X.tr pn xe) W → PassesOwn (model X.prog X.w) X.A X.env xe → ∃ ts, DSs (X.tr pn xe) W body ts td)
    (hh : DHdsOk X (h₀ :: hds) l) : ∃ ts, DS X W (.Try body (h₀ :: hds) [] [] pos) ts (dTry td l) := by
  obtain ⟨lt, h1, h2⟩ := hh.ts (W := W)
  refine ⟨_, ps_try_any (tb := fun W D σ H => ∀ pn xe (tk : Takes (X.tr pn xe) W) (po : PassesOwn (model X.prog X.w) X.A X.env xe), Classical.choose (hb W pn xe tk po) D σ H) hs hf hN tk
    (fun W' pn xe tk' po => PSs.weak (Classical.choose_spec (hb W' pn xe tk' po)).ps fun D σ H q => q pn xe tk' po) h1, fun G F H σ en D' B R q k => ?_⟩
  intro pn xe tk' po
  exact (Classical.choose_spec (hb (wAny X.K W D' lt) pn xe tk' po)).sim G F H σ en D' _ R q ⟨k.nx, k.rt, k.bk, k.ct, fun x F H σ en cls d R hx q => h2 G D' B k x F H σ en cls d R hx q, k.rtO⟩
end
end DL

/-! The D layer, part 25: e.f, isinstance(e, C) in a suite; the facts of exceptions. -/
namespace DL
open PySem PySem.Spec PyProof.Rows L2

theorem ds_try' {X : Cx} {body : List Stmt} {h₀ : ExceptHandler} {hds : List ExceptHandler} {l : List DHd} {pos : Pos} {td : TDS} {W : WX} (h : ∃ ts, DS X W (.Try body (h₀ :: hds) [] [] pos) ts (dTry td l)) :
    DS X W (.Try body (h₀ :: hds) [] [] pos) (Classical.choose h) (dTry td l) := Classical.choose_spec h
def dXf (a : Addr) (cls : Value) (d : Option Addr) (i : Nat) (cs : List String) (f : String) : TDE := fun en Q _ => match en[i]? with
  | some (some (.xc a' cls' d' x)) => a' = a ∧ cls' = cls ∧ d' = d ∧ x.C ∈ cs ∧ ∃ y, getF x.ns x.vs f = some y ∧ Q y en
  | _ => False
def XfOk (K : Fg) (cs : List String) (f : String) : Prop := ∀ C ∈ cs, XfC K (He.ga K C) ∧ PySem.W.findIn K (.ref (He.ga K C)) f = some none
def dXi (a : Addr) (cls : Value) (d : Option Addr) (i : Nat) (L : List (String × Bool)) : TDE := fun en Q _ => match en[i]? with
  | some (some (.xc a' cls' d' x)) => a' = a ∧ cls' = cls ∧ d' = d ∧ ∃ b, L.lookup x.C = some b ∧ Q (.bl b) en
  | _ => False
def XiOk (K : Fg) (T : String) (L : List (String × Bool)) : Prop := ∀ p ∈ L, ExcC K (He.ga K p.1) ∧ PySem.W.kitOne K (.ref (He.ga K p.1)) (.ref (He.ga K T)) = some p.2
theorem mem_lk {x : String} {b : Bool} : ∀ {L : List (String × Bool)}, L.lookup x = some b → (x, b) ∈ L
  | [], h => by cases h
  | (y, c) :: L, h => by
    rw [List.lookup_cons] at h
    split at h
    · rename_i e
      cases h
      have : x = y := by simpa using e
      rw [this]
      exact List.mem_cons_self ..
    · exact List.mem_cons_of_mem _ (mem_lk h)
def rIsX (K : Fg) (D a : Addr) (d : Option Addr) : List V → Hp → VK → Prop := fun xs H Q => ∃ (c : V) (cv : Value) (b : Bool), xs = [.ref a, c] ∧ (∀ u, RelV c u → u = cv) ∧ PySem.W.kitOne K (.ref D) cv = some b ∧ (∀ dd, d = some dd → ∃ fs, H dd = some (.xd fs)) ∧ Q (.bl b) H
section
variable {X : Cx} {W : WX} {a D : Addr} {oe : Obj} {cls : Value} {d : Option Addr} {pn : List (Addr × Obj)}
theorem call_isX (C : ExcC X.K D) (hz : L2N.Zn (.ref D) d oe) (hf : ∃ vs, oe.data = .fields vs) : CallR (X.suite a ((a, oe) :: pn)) (.builtin "isinstance") (rIsX X.K D a d) := by
  intro pins s σ H xs us Q I r h
  obtain ⟨c, cv, b, rfl, hcv, e, hdd, q⟩ := h
  cases r with
  | cons rx rr =>
    cases rr with
    | cons rt rr =>
      cases rr
      cases rx
      have ec := hcv _ rt
      subst ec
      obtain ⟨hget, _⟩ := I.pin (a, oe) (List.mem_append.mpr (.inl List.mem_cons_self))
      obtain ⟨vs, hv⟩ := hf
      have J : ∃ od, PySem.W.InstAt s.heap a oe D od := by
        obtain ⟨oc, od, oda, osl⟩ := oe
        obtain ⟨h1, h2, _⟩ := hz
        dsimp only at h1 h2 hv
        subst h1 h2 hv
        cases od with
        | none => exact ⟨none, hget, rfl, rfl, trivial⟩
        | some dd =>
          obtain ⟨fs, ea⟩ := hdd dd rfl
          have hx : ObjOk X.prog X.w H s.heap dd (.xd fs) := I.hok dd _ ea
          obtain ⟨mA, hns, hr⟩ := hx
          obtain ⟨o, ho, hl⟩ := lookIn_ns hns
          exact ⟨some o, hget, rfl, rfl, ho⟩
      obtain ⟨od, J⟩ := J
      exact PySem.W.kia_one (PySem.W.kitx_exc (by obtain ⟨cd, hc, _⟩ := PySem.W.any_some C.hd; rw [hc]; rfl) C.hg C.hk C.hs C.ha C.hn C.ht C.hm) I.kIn J e (fun z => nomatch z) fun tk => ⟨.bl b, H, I.kept (t' := tk) fun _ _ z => z, rfl, q⟩
theorem de_xf {i : Nat} {n : Str} {cs : List String} {f : String} {p pos : Pos} (ok : XfOk X.K cs f) (hz : L2N.Zn cls d oe) (hf : ∃ vs, oe.data = .fields vs) (hN : X.N[i]? = some n) (hv : Vis X.env.scope n := by first | exact Or.inl rfl | exact Or.inr (Or.inl rfl)) (hd : (n == ("__debug__" : Str)) = false := by decide)
    (hcd : (n == ("__classdict__" : Str)) = false := by decide) (hb : attributeBase (.Name n p) f X.env (eval (.Name n p) X.env) = eval (.Name n p) X.env := by rfl) :
    DE (X.suite a ((a, oe) :: pn)) W (.Attribute (.Name n p) f pos) (fun σ H Q => ∃ C ∈ cs, tXf a cls d (He.ga X.K C) f (tVar i) σ H Q) (dXf a cls d i cs f) :=
  ⟨⟨fun pins s σ H Q I ⟨C, m, h⟩ => (pe_xf (X := X) (pos := pos) (ok C m).1 (ok C m).2 hz.zc hf (pe_var (X := X.suite a ((a, oe) :: pn)) hN hv hd hcd) hb).run pins s σ H Q I h⟩, fun G F H σ en Q Qd Qe R q x k => by
    unfold dXf at q
    split at q
    · rename_i a' cls' d' xe h
      obtain ⟨rfl, rfl, rfl, hC, y, h1, h2⟩ := q
      obtain ⟨_, hs, hx1, hx2⟩ := R.xc i _ _ _ _ h
      rcases hx2 with ⟨_, e, _⟩ | ⟨dd, vs, e, hF, hl, il⟩
      · rw [e] at h1
        cases h1
      · obtain ⟨v, h3, h4⟩ := lookup_fields il h1
        exact ⟨xe.C, hC, .ref _, hs, rfl, hx1, dd, _, v, e, R.le _ _ hF, h3, k v y F H en (Same.refl F) R h4 h2⟩
    · exact q.elim⟩
theorem de_xi {i : Nat} {n : Str} {T : String} {L : List (String × Bool)} {p p1 p2 pos : Pos} (ok : XiOk X.K T L) (hz : L2N.Zn cls d oe) (hf : ∃ vs, oe.data = .fields vs) (hN : X.N[i]? = some n) (hgi : Gl X "isinstance") (hmi : X.mg "isinstance" = none) (hgT : Gl X T) (hmT : X.mg T = some (.ref (He.ga X.K T)))
    (hv : Vis X.env.scope n := by first | exact Or.inl rfl | exact Or.inr (Or.inl rfl)) (hd : (n == ("__debug__" : Str)) = false := by decide)
    (hcd : (n == ("__classdict__" : Str)) = false := by decide) (hdT : ((T : Str) == ("__debug__" : Str)) = false := by decide) :
    DE (X.suite a ((a, oe) :: pn)) W (.Call (.Name "isinstance" p) [.Name n p1, .Name T p2] [] pos) (fun σ H Q => ∃ C b, (C, b) ∈ L ∧ cls = .ref (He.ga X.K C) ∧ tCB (rIsX X.K (He.ga X.K C) a d) (tCons (tVar i) (tCons (tC (.ref (He.ga X.K T))) tNil)) σ H Q) (dXi a cls d i L) :=
  ⟨⟨fun pins s σ H Q I ⟨C, b, m, e, h⟩ => by
    subst e
    exact (pe_callB (X := X.suite a ((a, oe) :: pn)) (call_isX (X := X) (ok _ m).1 hz hf) hgi hmi (by decide +kernel) (pa_cons (pe_var (X := X.suite a ((a, oe) :: pn)) hN hv hd hcd) (pa_cons (pe_glob (X := X.suite a ((a, oe) :: pn)) (v := .ref (He.ga X.K T)) hgT hmT rfl hdT) pa_nil))).run pins s σ H Q I h⟩, fun G F H σ en Q Qd Qe R q x k => by
    unfold dXi at q
    split at q
    · rename_i a' cls' d' xe h
      obtain ⟨rfl, rfl, rfl, b, h1, h2⟩ := q
      obtain ⟨_, hs, hx1, hx2⟩ := R.xc i _ _ _ _ h
      have m : (xe.C, b) ∈ L := mem_lk h1
      refine ⟨xe.C, b, m, hx1, .ref _, hs, .ref (He.ga X.K T), .ref (He.ga X.K T), b, rfl, fun u r => r, (ok _ m).2, fun dd e => ?_, k _ (.bl b) F H en (Same.refl F) R rfl h2⟩
      rcases hx2 with ⟨e', _⟩ | ⟨dd', vs, e', hF, _⟩
      · rw [e'] at e
        cases e
      · rw [e'] at e
        cases e
        exact ⟨_, R.le _ _ hF⟩
    · exact q.elim⟩
end
/-! ### the facts -/
def xc0B (C : Str) (K : Fg) : Bool := PySem.W.excIn K (He.ga K C) HandSPX.veTail "ValueError.__new__" && (PySem.W.keepIn K (.ref (He.ga K C)) && (decide (PySem.W.subIn K (.ref (He.ga K C)) (.type "BaseException") = some true) && decide (PySem.W.typeIn K (.ref (He.ga K C)) = some (.type "type"))))
theorem xc0B_ok {K : Fg} {C : Str} (h : xc0B C K = true) : Xc0 K (He.ga K C) := by
  obtain ⟨h1, h⟩ := He.ba h
  obtain ⟨h2, h⟩ := He.ba h
  obtain ⟨h3, h4⟩ := He.ba h
  exact ⟨h1, h2, of_decide_eq_true h3, of_decide_eq_true h4⟩
def oexB (K : Fg) (C : Addr) : Bool := (match K.lookup C with
  | some ⟨.type t, _, .cls cd, sl⟩ => decide (t = "type") && (match cd.mro, sl.toList with
    | .ref C' :: bm, [_, _, _, _, some (.builtin n), _] => decide (C' = C) && (decide (n = "ValueError.__new__") && (!cd.hasDel && (cd.hasDict && HandSPX.refsVE bm)))
    | _, _ => false)
  | _ => false)
theorem oexB_ok {K : Fg} {C : Addr} (h : oexB K C = true) : ∃ nm q N bs bm sn sub ab col dd k0 k1 k2 k3 k5, K.lookup C = some (excClassObj nm q C N bs bm true sn sub ab col dd k0 k1 k2 k3 k5 "ValueError.__new__") ∧ PySem.HandSPX.refsVE bm = true := by
  unfold oexB at h
  split at h
  · rename_i t dd cd sl ho
    obtain ⟨h1, h⟩ := He.ba h
    split at h
    · rename_i C' bm k0 k1 k2 k3 n k5 hm hs
      obtain ⟨h2, h⟩ := He.ba h
      obtain ⟨h3, h⟩ := He.ba h
      obtain ⟨h4, h⟩ := He.ba h
      obtain ⟨h5, h6⟩ := He.ba h
      have e1 := of_decide_eq_true h1
      have e2 := of_decide_eq_true h2
      have e3 := of_decide_eq_true h3
      obtain ⟨nm, bs, mro, ns, qn, hd, sn, sb, ab, col, del⟩ := cd
      obtain ⟨sl⟩ := sl
      dsimp only at hm hs h4 h5
      subst e1 e2 e3 hm hs h5
      simp only [Bool.not_eq_true'] at h4
      subst h4
      exact ⟨nm, qn, ns, bs, bm, sn, sb, ab, col, dd, k0, k1, k2, k3, k5, ho, h6⟩
    · cases h
  · cases h
def xcNB (C : Str) (K : Fg) : Bool := oexB K (He.ga K C) && (He.eqO (PySem.W.findIn K (.ref (He.ga K C)) "__setattr__") (some (some (.builtin "object.__setattr__"))) && (decide (PySem.W.subIn K (.ref (He.ga K C)) (.type "BaseException") = some true) && (decide (PySem.W.typeIn K (.ref (He.ga K C)) = some (.type "type")) && (PySem.W.keepIn K (.ref (He.ga K C)) &&
  (He.eqO (PySem.W.findIn K (.ref (He.ga K C)) "__init__") (some (some (.ref (He.ma K (He.ga K C) "__init__")))) && decide (PySem.W.typeIn K (.ref (He.ma K (He.ga K C) "__init__")) = some (.type "function")))))))
theorem xcNB_ok {K : Fg} {C : Str} (h : xcNB C K = true) : XcN K (He.ga K C) (He.ma K (He.ga K C) "__init__") := by
  obtain ⟨h1, h⟩ := He.ba h
  obtain ⟨h2, h⟩ := He.ba h
  obtain ⟨h3, h⟩ := He.ba h
  obtain ⟨h4, h⟩ := He.ba h
  obtain ⟨h5, h⟩ := He.ba h
  obtain ⟨h6, h7⟩ := He.ba h
  exact ⟨⟨oexB_ok h1, He.eqO_ok h2, of_decide_eq_true h3, of_decide_eq_true h4, h5⟩, He.eqO_ok h6, of_decide_eq_true h7⟩
/-- the closure and the code of the def at f: __class__ is C, the file is as told -/
def supB (C file : Str) (K : Fg) : Bool := (match K.lookup (He.ma K (He.ga K C) "__init__") with
  | some ⟨_, _, .func fd, _⟩ => (match fd.code, fd.closure with
    | .ref cda, [(_, cc)] => (match K.lookup cda with
        | some ⟨_, _, .fields vs, _⟩ => (match (vs[2]? : Option Value) with
          | some (.str f _) => decide (file = f)
          | _ => false)
        | _ => false) && (match K.lookup cc with
        | some ⟨_, _, .cell (some (.ref D)), _⟩ => decide (D = He.ga K C)
        | _ => false)
    | _, _ => false)
  | _ => false) && (decide (PySem.W.mroIn K (He.ga K C) (.ref (He.ga K C)) = some true) && (He.eqO (PySem.W.ks_superIn K (He.ga K C) (He.ga K C) "__init__") (some (some (.builtin "ValueError.__init__"))) && (decide (PySem.W.subIn K (.ref (He.ga K C)) (.type "ValueError") = some true) &&
  He.eqO (PySem.W.nsIn K cStatics "thirdparty.any") (some none))))
theorem supB_ok {K : Fg} {P : Program} {C file : Str} {name qual : Str} {params : Arguments} {body : List Stmt} {scope : Scope} {cl : List (Str × Addr)} {dV kV doc pm cdv ct oc : Value} {an od : Option Addr} {osl : Array (Option Value)} (h : supB C file K = true) (hc : cl.map (·.1) = [("__class__" : Str)])
    (q : K.lookup (He.ma K (He.ga K C) "__init__") = some ⟨oc, od, .func (PySem.W.fnX name qual params body scope cl dV kV doc pm an cdv ct), osl⟩) (hp : ∃ ar : Arg, (params.posonlyargs ++ params.args).head? = some ar ∧ ar.arg = "self") (hf : (P.main.file : Str) = file)
    (htop : (P.main.scope.names.lookup ("super" : Str)).isSome = false) : ∃ cda cc, cdv = .ref cda ∧ cl = [(("__class__" : Str), cc)] ∧ SupF K P (He.ga K C) (He.ma K (He.ga K C) "__init__") (PySem.W.ksFn name qual params body scope dV kV doc pm an (.ref cda) ct cc) cda cc := by
  obtain ⟨h1, h⟩ := He.ba h
  obtain ⟨h2, h⟩ := He.ba h
  obtain ⟨h3, h⟩ := He.ba h
  obtain ⟨h4, h5⟩ := He.ba h
  rw [q] at h1
  dsimp only at h1
  split at h1
  · rename_i cda x cc
    obtain ⟨k1, k2⟩ := He.ba h1
    simp only [List.map_cons, List.map_nil, List.cons.injEq, and_true] at hc
    subst hc
    refine ⟨cda, cc, rfl, rfl, ⟨_, _, _, q⟩, hp, ?_, ?_, of_decide_eq_true h2, He.eqO_ok h3, of_decide_eq_true h4, He.eqO_ok h5, htop⟩
    · split at k1
      · rename_i ccl cdd vs ccs e1
        split at k1
        · rename_i f tf e2
          exact ⟨_, _, vs, _, f, tf, e1, e2, by rw [hf, of_decide_eq_true k1]; simp⟩
        · cases k1
      · cases k1
    · split at k2
      · rename_i c1 c2 D c3 e1
        rw [of_decide_eq_true k2] at e1
        exact ⟨_, _, _, e1⟩
      · cases k2
  · cases h1
def xfsB (cs : List String) (f : String) (K : Fg) : Bool := cs.all fun C => xfB K (He.ga K C) && He.eqO (PySem.W.findIn K (.ref (He.ga K C)) f) (some none)
theorem xfsB_ok {K : Fg} {cs : List String} {f : String} (h : xfsB cs f K = true) : XfOk K cs f := fun C m => by
  obtain ⟨h1, h2⟩ := He.ba (List.all_eq_true.mp h C m)
  exact ⟨xfB_ok h1, He.eqO_ok h2⟩
def excCB (K : Fg) (D : Addr) : Bool := He.eqO (PySem.W.findIn K (.ref D) "__getattribute__") (some (some (.builtin "BaseException.__getattribute__"))) && (He.eqO (PySem.W.findIn K (.ref D) "__getattr__") (some none) && (decide (PySem.W.subIn K (.ref D) (.type "BaseException") = some true) && (PySem.W.hasDictIn K D &&
  (He.eqO (PySem.W.findIn K (.ref D) "__class__") (some (some (.builtin "object.__class__"))) && (He.eqO (PySem.W.specialIn K (.builtin "object.__class__") "__get__") (some (some (.builtin "getset_descriptor.__get__"))) && (decide (PySem.W.takesIn K (.builtin "object.__class__") = some true) &&
  decide (PySem.W.mroIn K D (.type "object") = some true)))))))
theorem excCB_ok {K : Fg} {D : Addr} (h : excCB K D = true) : ExcC K D := by
  obtain ⟨h1, h⟩ := He.ba h
  obtain ⟨h2, h⟩ := He.ba h
  obtain ⟨h3, h⟩ := He.ba h
  obtain ⟨h4, h⟩ := He.ba h
  obtain ⟨h5, h⟩ := He.ba h
  obtain ⟨h6, h⟩ := He.ba h
  obtain ⟨h7, h8⟩ := He.ba h
  exact ⟨He.eqO_ok h1, He.eqO_ok h2, of_decide_eq_true h3, h4, He.eqO_ok h5, He.eqO_ok h6, of_decide_eq_true h7, of_decide_eq_true h8⟩
def xiB (T : String) (L : List (String × Bool)) (K : Fg) : Bool := L.all fun p => excCB K (He.ga K p.1) && decide (PySem.W.kitOne K (.ref (He.ga K p.1)) (.ref (He.ga K T)) = some p.2)
theorem xiB_ok {K : Fg} {T : String} {L : List (String × Bool)} (h : xiB T L K = true) : XiOk K T L := fun p m => by
  obtain ⟨h1, h2⟩ := He.ba (List.all_eq_true.mp h p m)
  exact ⟨excCB_ok h1, of_decide_eq_true h2⟩
def exmB (C : String) (subs oth : List String) (K : Fg) : Bool := (subs.all fun E => decide (PySem.W.exmOne K (.ref (He.ga K E)) (.ref (He.ga K C)) = some true)) && oth.all fun E => decide (PySem.W.exmOne K (.ref (He.ga K E)) (.ref (He.ga K C)) = some false)
theorem exmB_ok {K : Fg} {C : String} {subs oth : List String} (h : exmB C subs oth K = true) : (∀ E ∈ subs, PySem.W.exmOne K (.ref (He.ga K E)) (.ref (He.ga K C)) = some true) ∧ ∀ E ∈ oth, PySem.W.exmOne K (.ref (He.ga K E)) (.ref (He.ga K C)) = some false := by
  obtain ⟨h1, h2⟩ := He.ba h
  exact ⟨fun E m => of_decide_eq_true (List.all_eq_true.mp h1 E m), fun E m => of_decide_eq_true (List.all_eq_true.mp h2 E m)⟩
end DL

/-! The D layer, part 26: an own exception's __init__, from the head's facts. -/
namespace DL
open PySem PySem.Spec PyProof.Rows L2

section
variable {P : Program} {w : World} {K : Fg} {mg : Str → Option Value} {base : Heap} {d : DefX} {C file : Str} {m : Str} {j} {p0 p1 p2 p3 p4 p5 : Pos} {k : Nat} {pl : Env → Sem Bool}
/-- what is asked of the def, whatever it keeps -/
structure XiD (P : Program) (K : Fg) (mg : Str → Option Value) (d : DefX) (C file : Str) (ps : List Str) (m : Str) (j : Nat) (p0 p1 p2 p3 p4 p5 : Pos) (rest : List Stmt) (pl : Env → Sem Bool) : Prop where
  e : fnAt K (d.at_ K) = d.val
  c : d.ok K = true
  at_ : d.at_ K = He.ma K (He.ga K C) "__init__"
  clos : d.clos = [("__class__" : Str)]
  dfl : d.dfl = []
  T : XcN K (He.ga K C) (He.ma K (He.ga K C) "__init__")
  S : supB C file K = true
  hf : (P.main.file : Str) = file
  top : (P.main.scope.names.lookup ("super" : Str)).isSome = false
  hm : mg "super" = none
  hb : d.body = .Expr (superE m j p0 p1 p2 p3 p4) p5 :: rest
  Sc : ScS ps d.scope
  h0 : ps[0]? = some ("self" : Str)
  hp : ∃ ar : Arg, (d.params.posonlyargs ++ d.params.args).head? = some ar ∧ ar.arg = "self"
  hbind : ∀ (kV doc pm : Value) (an : Option Addr) (cdv ct : Value) (cc : Addr) (us : List Value), us.length = ps.length → bindArgs (PySem.W.ksFn d.name d.qual d.params d.body d.scope .none kV doc pm an cdv ct cc) ⟨us, []⟩ = pure (ps.zip us)
  he : ∀ env : Env, eval (superE m j p0 p1 p2 p3 p4) env = (do
      let ov ← attributeBase (.Call (.Name "super" p0) [] [] p1) "__init__" env (eval (.Call (.Name "super" p0) [] [] p1) env)
      standAt p2.atName
      let (f, first) ← holding [ov] (getMethod ov "__init__" (pl env))
      callWith p4 f first (backTo p4 (starEach [.Constant (.str m) j p3] env)) [])
  hs : ∀ env : Env, swapsWith (superE m j p0 p1 p2 p3 p4) none p5.line env = pure false
theorem fnX_any {ps : List Str} {rest : List Stmt} {fs : List Str} {t : TS} (D : XiD P K mg d C file ps m j p0 p1 p2 p3 p4 p5 rest pl) (hl : ps.length = fs.length + 1)
    (hrest : ∀ (X : Cx), X.K = K → X.N = ps → (∀ y ∈ ps, X.env.scope.names.lookup y = some .local) → PSs X rest t) (ht : ∀ vs H Q E, spX (He.ga K C) fs vs H Q E → t { nx := fun _ H' => Q .non H', rt := Q } (L2.start ps vs) H) :
    FnR P w K mg base (L2N.CX P w) (k + 1) (He.ma K (He.ga K C) "__init__") (spX (He.ga K C) fs) := by
  obtain ⟨cl, oc, od, dV, kV, doc, pm, an, cdv, ct, osl, hc, q, k1, k3, k4, kp⟩ := DefX.funC D.e D.c
  rw [D.clos] at hc
  rw [D.at_] at q
  have hD : dV = .none := by
    have : d.dvs K = [] := by unfold DefX.dvs; rw [D.dfl]; rfl
    rw [this] at k3
    rcases k3 with ⟨_, e⟩ | ⟨e, _⟩
    · exact e
    · exact absurd rfl e
  subst hD
  obtain ⟨cda, cc, e1, e2, SF⟩ := supB_ok (P := P) D.S hc q D.hp D.hf D.top
  subst e1 e2
  have hbind := D.hbind kV doc pm an (.ref cda) ct cc
  rw [D.hb] at SF hbind
  exact fnR_sup D.T.T SF k1 D.Sc D.h0 D.hm hbind D.he D.hs (fun A outer s H => hrest _ rfl rfl D.Sc.par) (spX_len hl) spX_0 ht
theorem fnX_one {x f : Str} {q1 q2 q3 q4 : Pos} (D : XiD P K mg d C file ["self", x] m j p0 p1 p2 p3 p4 p5 [setS f x q1 q2 q3 q4] pl) (hno : PySem.W.findIn K (.ref (He.ga K C)) f = some none) (hsw : ∀ env : Env, swapsWith (.Name x q3) (some (.Attribute (.Name "self" q1) f q2)) q4.line env = pure false)
    (hd : (x == ("__debug__" : Str)) = false := by decide) (hc : (x == ("__classdict__" : Str)) = false := by decide) : FnR P w K mg base (L2N.CX P w) (k + 1) (He.ma K (He.ga K C) "__init__") (spX (He.ga K C) [f]) :=
  fnX_any D rfl (fun X hK hN hl => pss_one (by
    subst hK
    exact ps_set (i := 1) (by rw [hN]; rfl) (hl _ (by simp)) (by rw [hN]; rfl) (hl _ (by simp)) hd hc (hsw _))) (t_one D.T.T hno)
theorem fnX_three {x y z f g h : Str} {q1 q2 q3 q4 r1 r2 r3 r4 s1 s2 s3 s4 : Pos} (D : XiD P K mg d C file ["self", x, y, z] m j p0 p1 p2 p3 p4 p5 [setS f x q1 q2 q3 q4, setS g y r1 r2 r3 r4, setS h z s1 s2 s3 s4] pl)
    (hno : PySem.W.findIn K (.ref (He.ga K C)) f = some none) (hno2 : PySem.W.findIn K (.ref (He.ga K C)) g = some none) (hno3 : PySem.W.findIn K (.ref (He.ga K C)) h = some none)
    (hsw : ∀ env : Env, swapsWith (.Name x q3) (some (.Attribute (.Name "self" q1) f q2)) q4.line env = pure false ∧ swapsWith (.Name y r3) (some (.Attribute (.Name "self" r1) g r2)) r4.line env = pure false ∧ swapsWith (.Name z s3) (some (.Attribute (.Name "self" s1) h s2)) s4.line env = pure false)
    (hd : (x == ("__debug__" : Str)) = false ∧ (y == ("__debug__" : Str)) = false ∧ (z == ("__debug__" : Str)) = false := by decide) (hc : (x == ("__classdict__" : Str)) = false ∧ (y == ("__classdict__" : Str)) = false ∧ (z == ("__classdict__" : Str)) = false := by decide) :
    FnR P w K mg base (L2N.CX P w) (k + 1) (He.ma K (He.ga K C) "__init__") (spX (He.ga K C) [f, g, h]) :=
  fnX_any D rfl (fun X hK hN hl => by
    subst hK
    exact pss_cons (ps_set (i := 1) (by rw [hN]; rfl) (hl _ (by simp)) (by rw [hN]; rfl) (hl _ (by simp)) hd.1 hc.1 (hsw _).1)
      (pss_cons (ps_set (i := 2) (by rw [hN]; rfl) (hl _ (by simp)) (by rw [hN]; rfl) (hl _ (by simp)) hd.2.1 hc.2.1 (hsw _).2.1)
        (pss_one (ps_set (i := 3) (by rw [hN]; rfl) (hl _ (by simp)) (by rw [hN]; rfl) (hl _ (by simp)) hd.2.2 hc.2.2 (hsw _).2.2)))) (t_three D.T.T hno hno2 hno3)
end
/-! ### what the readings unfold to -/
@[simp ↓] theorem r_Raise0 {C : String} {B : DEnds} {en : En} : dRaise0 C B en = B.ex ⟨C, [], []⟩ en := by rfl
@[simp ↓] theorem r_RaiseN {C : String} {fs : List String} {a : TDA} {B : DEnds} {en : En} : dRaiseN C fs a B en = a en (fun ds en1 => ds.length = fs.length ∧ B.ex ⟨C, fs.reverse, ds.reverse⟩ en1) B.ex := by rfl
@[simp ↓] theorem r_Try {tb : TDS} {hs : List DHd} {B : DEnds} {en : En} : dTry tb hs B en = tb { B with ex := hdsD B hs } en := by rfl
@[simp ↓] theorem r_hdsN {B : DEnds} {x : Exn} {en : En} : hdsD B [] x en = B.ex x en := by rfl
@[simp ↓] theorem r_hdsC {B : DEnds} {h : DHd} {r : List DHd} {x : Exn} {en : En} : hdsD B (h :: r) x en = (match exT h.subs h.oth x.C with
   | some true => ∀ a cls d, h.suite a cls d (sufE B h.i) (putE en a cls d x h.i)
   | some false => hdsD B r x en
   | none => False) := by rfl
@[simp ↓] theorem r_Xf {a : Addr} {cls : Value} {d : Option Addr} {i : Nat} {cs : List String} {f : String} {en : En} {Q : D → En → Prop} {Qe : Qx} : dXf a cls d i cs f en Q Qe = (match en[i]? with
  | some (some (.xc a' cls' d' x)) => a' = a ∧ cls' = cls ∧ d' = d ∧ x.C ∈ cs ∧ ∃ y, getF x.ns x.vs f = some y ∧ Q y en
  | _ => False) := by rfl
@[simp ↓] theorem r_Xi {a : Addr} {cls : Value} {d : Option Addr} {i : Nat} {L : List (String × Bool)} {en : En} {Q : D → En → Prop} {Qe : Qx} : dXi a cls d i L en Q Qe = (match en[i]? with
  | some (some (.xc a' cls' d' x)) => a' = a ∧ cls' = cls ∧ d' = d ∧ ∃ b, L.lookup x.C = some b ∧ Q (.bl b) en
  | _ => False) := by rfl
end DL

/-! The D layer, part 27: defs with a keyword-only parameter, with or without *rest, called with it or without. -/
namespace DL
open PySem PySem.Spec PyProof.Rows L2

/-- a def's promise where keywords named ks are handed -/
def FnRK (P : Program) (w : World) (K : Fg) (mg : Str → Option Value) (base : Heap) (CX : CXT) (k : Nat) (f : Addr) (ks : List Str) (sp : List V → List V → Hp → VK → XK → Prop) : Prop :=
  ∀ (A : Around) (outer : List Env) (s : Shared) (H : Hp) (us ws : List Value) (vs zs : List V) (Q : VK) (E : XK), Room k A → Env0 P w K mg base A outer s H → Vals vs us → Vals zs ws → ws.length = ks.length → sp vs zs H Q E →
    codeAny (model P w) A (.call (.ref f) ⟨us, ks.zip ws⟩) (CR CX outer P w H s Q E) s
theorem FnRK.mono {P : Program} {w : World} {K : Fg} {mg : Str → Option Value} {base : Heap} {CX : CXT} {j k : Nat} {f : Addr} {ks : List Str} {sp : List V → List V → Hp → VK → XK → Prop} (F : FnRK P w K mg base CX j f ks sp) (h : j ≤ k) : FnRK P w K mg base CX k f ks sp :=
  fun A outer s H us ws vs zs Q E hr => F A outer s H us ws vs zs Q E (hr.mono h)

section
variable {K : KW} {F H F' H' : Hp} {io : List Nat} {vs us : List V} {ds es : List D} {n : Nat}
theorem argsR_take (A : ArgsR K F H io vs ds) (hio : ∀ i ∈ io, i < n) (hn : n ≤ ds.length) : ArgsR K F H io (vs.take n) (ds.take n) := by
  have hv : n ≤ vs.length := by rw [A.len]; exact hn
  have g : ∀ {α : Type} {l : List α} {i : Nat} {a : α}, (l.take n)[i]? = some a → i < n ∧ l[i]? = some a := fun {α l i a} h => by
    have : i < n := by
      have := (List.getElem?_eq_some_iff.mp h).1
      rw [List.length_take] at this
      omega
    rw [List.getElem?_take_of_lt this] at h
    exact ⟨this, h⟩
  refine ⟨by rw [List.length_take, List.length_take, A.len], fun i d h m => ?_, fun i d h m => ?_, fun i j a h1 h2 h3 h4 => A.sep i j a h1 h2 (g h3).2 (g h4).2⟩
  · obtain ⟨h1, h2⟩ := g h
    obtain ⟨v, h3, h4⟩ := A.fz i d h2 m
    exact ⟨v, by rw [List.getElem?_take_of_lt h1]; exact h3, h4⟩
  · obtain ⟨h1, h2⟩ := g h
    obtain ⟨a, h3, h4⟩ := A.ow i d h2 m
    exact ⟨a, by rw [List.getElem?_take_of_lt h1]; exact h3, h4⟩
theorem isL_of : ∀ {ds : List D} {vs : List V}, vs.length = ds.length → (∀ (i : Nat) d, ds[i]? = some d → ∃ v, vs[i]? = some v ∧ Is K F d v) → IsL K F ds vs
  | [], vs, hl, _ => by
    cases vs with
    | nil => rfl
    | cons v r => simp at hl
  | d :: r, vs, hl, hg => by
    cases vs with
    | nil => simp at hl
    | cons v rv =>
      obtain ⟨u, hu, i⟩ := hg 0 d rfl
      cases hu
      exact ⟨v, rv, rfl, i, isL_of (by simpa using hl) fun i d h => hg (i + 1) d (by simpa using h)⟩
theorem argsR_drop (A : ArgsR K F H io vs ds) (hio : ∀ i ∈ io, i < n) : IsL K F (ds.drop n) (vs.drop n) := by
  refine isL_of (by rw [List.length_drop, List.length_drop, A.len]) fun i d h => ?_
  rw [List.getElem?_drop] at h
  obtain ⟨v, h1, h2⟩ := A.fz (n + i) d h fun m => by have := hio _ m; omega
  exact ⟨v, by rw [List.getElem?_drop]; exact h1, h2⟩
theorem argsR_join (A : ArgsR K F H io us ds) (hio : ∀ i ∈ io, i < us.length) (l : IsL K F es vs) : ArgsR K F H io (us ++ vs) (ds ++ es) := by
  have hl := A.len
  refine ⟨by rw [List.length_append, List.length_append, hl, l.length], fun i d h m => ?_, fun i d h m => ?_, fun i j a h1 h2 h3 h4 => ?_⟩
  · by_cases hi : i < us.length
    · rw [List.getElem?_append_left (by omega)] at h ⊢
      exact A.fz i d h m
    · rw [List.getElem?_append_right (by omega)] at h ⊢
      rw [hl]
      exact l.get h
  · have hi := hio i m
    rw [List.getElem?_append_left (by omega)] at h ⊢
    exact A.ow i d h m
  · rw [List.getElem?_append_left (hio i h1)] at h3
    rw [List.getElem?_append_left (hio j h2)] at h4
    exact A.sep i j a h1 h2 h3 h4
theorem argsR_up (A : ArgsR K F H io vs ds) (e : Same F F') (hH : ∀ a, H a ≠ none → H' a = H a) (hF : ∀ a, F a = none → H a ≠ none → F' a = none) : ArgsR K F' H' io vs ds :=
  ⟨A.len, fun i d h m => by
    obtain ⟨v, h1, h2⟩ := A.fz i d h m
    exact ⟨v, h1, Is.mono e _ _ h2⟩, fun i d h m => by
    obtain ⟨a, h1, h2, h3⟩ := A.ow i d h m
    exact ⟨a, h1, hF a h2 h3.there, h3.move e (hH a h3.there)⟩, A.sep⟩
theorem ioOf_app (hio : ∀ i ∈ io, i < us.length) : ioOf (us ++ vs) io = ioOf us io := by
  induction io with
  | nil => rfl
  | cons i r ih =>
    have hi := hio i (List.mem_cons_self ..)
    have ih := ih fun j m => hio j (List.mem_cons_of_mem _ m)
    unfold ioOf at ih ⊢
    rw [List.filterMap_cons, List.filterMap_cons, ih, List.getElem?_append_left hi]
theorem post_up {p : Addr} {u : HO} {as : List Addr} (hp : H p = none) (fp : F p = none) (po : Post (upd F p u) (upd H p u) F' H' as) : Post F H F' H' as := ⟨(same_upd fp).trans po.f, po.le, fun a o q m => po.keep a o (by
      rw [upd_ne (fun z => by rw [z, hp] at q; cases q)]
      exact q) m, fun a q1 q2 => po.new a (by
      rw [upd_ne (fun z => by rw [z] at q2; exact q2 hp)]
      exact q1) (by
      rw [upd_ne (fun z => by rw [z] at q2; exact q2 hp)]
      exact q2), po.there⟩
/-- other arguments behind the first n, nothing new in the heap -/
theorem spOf_re {sd sd' : SpD} {Q : VK} {E : XK} {ws : List V} (hio : ∀ i ∈ io, i < n) (h : spOf K io sd vs H Q E)
    (re : ∀ F ds Qd Qe, Same F H → sd ds Qd Qe → vs.length = ds.length → IsL K F (ds.drop n) (vs.drop n) → n ≤ ds.length ∧ ∃ es, sd' (ds.take n ++ es) Qd Qe ∧ IsL K F es ws) : spOf K io sd' (vs.take n ++ ws) H Q E := by
  obtain ⟨F, ds, Qd, Qe, e, A, h, k1, k2⟩ := h
  obtain ⟨hn, es, h', l⟩ := re F ds Qd Qe e h A.len (argsR_drop A hio)
  have hv : (vs.take n).length = n := by rw [List.length_take, A.len]; omega
  have hio' : ∀ i ∈ io, i < (vs.take n).length := fun i m => by rw [hv]; exact hio i m
  have eio : ioOf (vs.take n ++ ws) io = ioOf vs io := by
    rw [ioOf_app hio']
    have := ioOf_app (us := vs.take n) (vs := vs.drop n) hio'
    rw [List.take_append_drop] at this
    exact this.symm
  refine ⟨F, _, Qd, Qe, e, argsR_join (argsR_take A hio hn) hio' l, h', ?_, ?_⟩
  · rw [eio]
    exact k1
  · rw [eio]
    exact k2
/-- a new frozen object is laid -/
theorem spOf_up {sd : SpD} {Q : VK} {E : XK} {p : Addr} {u : HO} (hio : ∀ i ∈ io, i < n) (h : spOf K io sd vs H Q E) (hp : H p = none) {ws : List V} {sd' : SpD}
    (re : ∀ F ds Qd Qe, Same F H → F p = none → sd ds Qd Qe → vs.length = ds.length → IsL K F (ds.drop n) (vs.drop n) → n ≤ ds.length ∧ ∃ es, sd' (ds.take n ++ es) Qd Qe ∧ IsL K (upd F p u) es ws) : spOf K io sd' (vs.take n ++ ws) (upd H p u) Q E := by
  obtain ⟨F, ds, Qd, Qe, e, A, h, k1, k2⟩ := h
  have fp : F p = none := by
    cases q : F p with
    | none => rfl
    | some u => rw [e _ _ q] at hp; cases hp
  obtain ⟨hn, es, h', l⟩ := re F ds Qd Qe e fp h A.len (argsR_drop A hio)
  have hv : (vs.take n).length = n := by rw [List.length_take, A.len]; omega
  have hio' : ∀ i ∈ io, i < (vs.take n).length := fun i m => by rw [hv]; exact hio i m
  have eio : ioOf (vs.take n ++ ws) io = ioOf vs io := by
    rw [ioOf_app hio']
    have := ioOf_app (us := vs.take n) (vs := vs.drop n) hio'
    rw [List.take_append_drop] at this
    exact this.symm
  have A2 := argsR_up (A := argsR_take A hio hn) (F' := upd F p u) (H' := upd H p u) (same_upd fp) (fun a q => upd_ne fun z => q (by rw [z]; exact hp)) fun a q1 q2 => by rw [upd_ne fun z => q2 (by rw [z]; exact hp)]; exact q1
  refine ⟨upd F p u, _, Qd, Qe, upd_mono e, argsR_join A2 hio' l, h', ?_, ?_⟩
  · rw [eio]
    exact fun v r outs F' H' po i os q => k1 v r outs F' H' (post_up hp fp po) i os q
  · rw [eio]
    exact fun x outs cls d F' H' po i os q => k2 x outs cls d F' H' (post_up hp fp po) i os q
end
section
variable {P : Program} {w : World} {K : Fg} {mg : Str → Option Value} {base : Heap} {x qual : Str} {params : Arguments} {body : List Stmt} {scope : Scope} {f : Addr} {N ps : List Str} {k : Nat} {io : List Nat} {sd : SpD} {td : TDS} {cdv : Value}
/-- the walk of a body, its reading and its promise, at one entry -/
theorem bodyD {A : Around} {outer : List Env} {s : Shared} {H : Hp} {E : XK} {Q : VK} {vs : List V} (hps : ps.length ≤ N.length) (hion : io.Nodup) (hio : ∀ i ∈ io, i < ps.length) (len : ∀ ds Qd Qe, sd ds Qd Qe → ds.length = ps.length)
    (walk : ∃ ts, DSs (cxOf (L2N.CX P w) P w K mg base N qual scope f cdv A outer s H E) (wBody E) body ts td) (rd : ∀ ds Qd Qe, sd ds Qd Qe → td (endsD io Qd Qe) (startE N.length io ds)) (h : spOf ⟨K, w⟩ io sd vs H Q E) :
    ∃ t, PSs (cxOf (L2N.CX P w) P w K mg base N qual scope f cdv A outer s H E) body t ∧ t { nx := fun _ H' => Q .non H', rt := Q } (L2.start N vs) H := by
  obtain ⟨F', ds, Qd, Qe, e, A', h, h1, h2⟩ := h
  obtain ⟨ts, wk⟩ := walk
  refine ⟨ts, wk.ps, ?_⟩
  have hl := len ds Qd Qe h
  have R := start_rel (N := N) e A' (by rw [hl]; exact hps) (by rw [hl]; exact hio)
  refine wk.sim _ F' H _ _ _ _ R (rd ds Qd Qe h) ⟨fun F1 H1 σ en R1 q => ?_, fun v d F1 H1 σ en _ R1 i q => ?_, fun F1 H1 σ en R1 q => q.elim, fun F1 H1 σ en R1 q => q.elim, fun x F1 H1 σ en cls d R1 i q => ?_, fun a d F1 H1 σ en z => (nomatch z)⟩
  · obtain ⟨_, outs, q1, q2⟩ := q
    exact h1 _ .non outs F1 H1 (rel_post R1) rfl (outs_rel hion R1 q1) q2
  · obtain ⟨outs, q1, q2⟩ := q
    exact h1 _ d outs F1 H1 (rel_post R1) i (outs_rel hion R1 q1) q2
  · obtain ⟨outs, q1, q2⟩ := q
    exact h2 x outs cls d F1 H1 (rel_post R1) i (outs_rel hion R1 q1) q2
/-- the keyword's value, then what is left over -/
def kwS (n : Nat) (sd : SpD) : SpD := fun es Qd Qe => ∃ ds kv, es = ds ++ [kv] ∧ n ≤ ds.length ∧ ds.length ≤ sizeLine ∧ sd (ds.take n ++ [kv, .tup (ds.drop n)]) Qd Qe
def stK (n : Nat) (dd : D) (sd : SpD) : SpD := fun ds Qd Qe => n ≤ ds.length ∧ ds.length ≤ sizeLine ∧ sd (ds.take n ++ [dd, .tup (ds.drop n)]) Qd Qe
def kwN (dd : D) (sd : SpD) : SpD := fun ds Qd Qe => sd (ds ++ [dd]) Qd Qe
variable {kn pv : Str} {dv : V} {dd : D} {pp : List Str} {fd : FuncData}
/-- the shape of a look at the keyword-only default -/
def KwT {α : Type} (D : Addr) (q : Str × Value) (t e : Sem α) : Prop := ∃ (β γ : Type) (k1 : Option Value → Sem β) (k2 : β → Sem γ) (k3 : γ → Sem α) (a : β), t = ((nsGet D q.1 >>= k1) >>= k2) >>= k3 ∧ k1 (some q.2) = pure a ∧ k2 a >>= k3 = e
theorem KwT.wp {α : Type} {D : Addr} {q : Str × Value} {t e : Sem α} {M : Model} {A : Around} {E : Value → Shared → Prop} {Q : α → Shared → Prop} {s : Shared} (h : KwT D q t e) (X : K.In s.heap) (hl : PySem.W.nsIn K D q.1 = some (some q.2)) (he : wpAny M A e Q E s) : wpAny M A t Q E s := by
  obtain ⟨β, γ, k1, k2, k3, a, e1, e2, e3⟩ := h
  have l1 : PySem.W.Looks M s.heap (nsGet D q.1 >>= k1) a := (PySem.W.looks_nsIn X hl).andThen (PySem.W.Looks.of_pure e2)
  rw [e1, bind_assoc]
  refine wpAny_bind (l1.here ?_)
  rw [e3]
  exact he
theorem cut2 {α : Type} {l : List α} {n : Nat} (h : n ≤ l.length) : ∃ a b, l = a ++ b ∧ a.length = n ∧ a = l.take n ∧ b = l.drop n := ⟨l.take n, l.drop n, (List.take_append_drop n l).symm, by rw [List.length_take]; omega, rfl, rfl⟩
theorem vals_take : ∀ {vs : List V} {us : List Value} (n : Nat), Vals vs us → Vals (vs.take n) (us.take n) ∧ Vals (vs.drop n) (us.drop n)
  | [], _, n, .nil => ⟨by rw [List.take_nil, List.take_nil]; exact .nil, by rw [List.drop_nil, List.drop_nil]; exact .nil⟩
  | _ :: _, _ :: _, 0, r => ⟨.nil, r⟩
  | _ :: _, _ :: _, n + 1, .cons a r => ⟨.cons a (vals_take n r).1, (vals_take n r).2⟩
/-- f(a, .., *rest, k = ..), the keyword handed -/
theorem fnKS (F : FunD K x qual params body scope [] [(kn, dv)] f fd) (S : FnScope N (pp ++ [kn] ++ [pv]) scope)
    (hb : ∀ (kV doc pm : Value) (an : Option Addr) (cdv ct : Value) (us rest : List Value) (z : Value), us.length = pp.length → bindArgs (PySem.W.fnOf x qual params body scope .none kV doc pm an cdv ct) ⟨us ++ rest, [(kn, z)]⟩ = (newTuple rest >>= fun t => pure (pp.zip us ++ [(kn, z)] ++ [(pv, t)])))
    (hps : (pp ++ [kn] ++ [pv]).length ≤ N.length) (hion : io.Nodup) (hio : ∀ i ∈ io, i < pp.length) (len : ∀ ds Qd Qe, sd ds Qd Qe → ds.length = (pp ++ [kn] ++ [pv]).length)
    (walk : ∀ (cdv : Value) (A : Around) (outer : List Env) (s : Shared) (H : Hp) (E : XK), Room k (A.deeper (PyProof.Rows.envOfC qual scope s.heap.objs.size f cdv)) →
      ∃ ts, DSs (cxOf (L2N.CX P w) P w K mg base N qual scope f cdv A outer s H E) (wBody E) body ts td)
    (rd : ∀ ds Qd Qe, sd ds Qd Qe → td (endsD io Qd Qe) (startE N.length io ds)) : FnRK P w K mg base (L2N.CX P w) (k + 1) f [kn] (fun vs zs => spOf ⟨K, w⟩ io (kwS pp.length sd) (vs ++ zs)) := by
  intro A outer s H us ws vs zs Q E hr e0 r rz hl hq
  obtain ⟨oc, od, dV, kV, doc, pm, an, cdv, ct, osl, rfl, lk, hcd, hD, hK⟩ := F.ex
  have hD : dV = .none := by
    rcases hD with ⟨_, e⟩ | ⟨e, _⟩
    · exact e
    · exact absurd rfl e
  subst hD
  match ws, hl, rz with
  | [z], _, rz =>
    obtain ⟨zv, rfl, rzv⟩ : ∃ zv, zs = [zv] ∧ RelV zv z := by
      cases rz with
      | cons a b => cases b; exact ⟨_, rfl, a⟩
    obtain ⟨F0, es, Qd, Qe, eF, A0, ⟨ds, kv, he, hn, hsz, _⟩, _, _⟩ := id hq
    have hvl : vs.length = ds.length := by
      have := A0.len
      rw [he] at this
      simpa using this
    have hul : us.length = vs.length := r.length.symm
    have fresh : H s.heap.objs.size = Option.none := e0.hok.fresh (Nat.le_refl _)
    have hrest : (us.drop pp.length).length ≤ sizeLine := by rw [List.length_drop]; omega
    have rr := vals_take pp.length r
    refine StX.run_bnd lk hcd S hr e0 (G := fun xs H2 => ∃ p, H p = Option.none ∧ xs = vs.take pp.length ++ [zv, V.ref p] ∧ H2 = upd H p (.tup (vs.drop pp.length))) (fun A' Ex Q' h => ?_) fun s2 H2 xs ⟨p, hp, ex, eH⟩ hr' => ?_
    · have e := hb kV doc pm an cdv ct (us.take pp.length) (us.drop pp.length) z (by rw [List.length_take]; omega)
      rw [List.take_append_drop] at e
      show wpAny (model P w) A' (bindArgs _ ⟨us, [(kn, z)]⟩) Q' Ex s
      rw [e]
      refine wpAny_bind (wpAny_newTuple (wpAny_pure ?_) hrest)
      have new : ObjOk P w (upd H s.heap.objs.size (.tup (vs.drop pp.length))) (s.heap.push ({ cls := .type "tuple", data := .seq (us.drop pp.length).toArray } : Obj)) s.heap.objs.size (.tup (vs.drop pp.length)) :=
        ⟨by rw [rr.2.length]; exact hrest, us.drop pp.length, rr.2, ⟨_, Heap.get?_push_size _ rfl, rfl, _, rfl⟩⟩
      have un := StX.un_laid (fs := frs outer) (s := s) (o := ({ cls := .type "tuple", data := .seq (us.drop pp.length).toArray } : Obj)) (u := .tup (vs.drop pp.length)) fresh
      have q := h _ _ (vs.take pp.length ++ [zv, V.ref s.heap.objs.size]) (us.take pp.length ++ [z, Value.ref s.heap.objs.size]) (StX.env0_laid e0 new) un rfl (fun e s' => cxUpN outer s H _ _ E e s' un (fun b o q => Heap.get?_push_of_some _ q) rfl) (rr.1.append (.cons rzv (.cons rfl .nil)))
        (by simp; omega) ⟨_, fresh, rfl, rfl⟩
      have ez : (pp ++ [kn] ++ [pv]).zip (us.take pp.length ++ [z, Value.ref s.heap.objs.size]) = pp.zip (us.take pp.length) ++ [(kn, z)] ++ [(pv, Value.ref s.heap.objs.size)] := by
        rw [List.append_assoc, List.zip_append (by rw [List.length_take]; omega), List.append_assoc]
        rfl
      rw [ez] at q
      exact q
    · subst ex eH
      refine bodyD hps hion (fun i m => by have := hio i m; rw [List.length_append, List.length_append]; omega) len (walk cdv A outer s2 _ E hr') rd ?_
      have hz := spOf_up (n := pp.length) (u := .tup (vs.drop pp.length)) (ws := [zv, V.ref p]) (sd' := sd) hio hq hp (fun F1 es' Qd' Qe' e1 fp h1 hl1 l1 => by
        obtain ⟨ds', kv', he', hn', hsz', h2⟩ := h1
        subst he'
        refine ⟨by rw [List.length_append]; omega, [kv', .tup (ds'.drop pp.length)], by rw [List.take_append_of_le_length hn']; exact h2, ?_⟩
        have hvl' : vs.length = ds'.length := by simpa using hl1
        rw [List.drop_append_of_le_length hn', List.drop_append_of_le_length (by omega)] at l1
        have hlen : (vs.drop pp.length).length = (ds'.drop pp.length).length := by rw [List.length_drop, List.length_drop, hvl']
        have l2 := IsL.take (ds'.drop pp.length).length l1
        have l3 := IsL.drop (ds'.drop pp.length).length l1
        rw [List.take_left' rfl, List.take_left' hlen] at l2
        rw [List.drop_left' rfl, List.drop_left' hlen] at l3
        obtain ⟨v1, r1, q1, q2, q3⟩ := l3
        cases q1
        exact ⟨zv, [V.ref p], rfl, Is.mono (same_upd fp) _ _ q2, V.ref p, [], rfl, ⟨p, vs.drop pp.length, rfl, .inl (.inl upd_same), IsL.mono (same_upd fp) _ _ l2⟩, rfl⟩)
      have ev : (vs ++ [zv]).take pp.length = vs.take pp.length := List.take_append_of_le_length (by omega)
      rw [ev] at hz
      exact hz
/-- .. the keyword not handed -/
theorem fnKS0 (F : FunD K x qual params body scope [] [(kn, dv)] f fd) (S : FnScope N (pp ++ [kn] ++ [pv]) scope) (hdd : ∀ F0, Is ⟨K, w⟩ F0 dd dv)
    (hb : ∀ (D : Addr) (doc pm : Value) (an : Option Addr) (cdv ct : Value) (us rest : List Value) (z : Value), us.length = pp.length → KwT D (kn, z) (bindArgs (PySem.W.fnOf x qual params body scope .none (.ref D) doc pm an cdv ct) ⟨us ++ rest, []⟩) (newTuple rest >>= fun t => pure (pp.zip us ++ [(kn, z)] ++ [(pv, t)])))
    (hps : (pp ++ [kn] ++ [pv]).length ≤ N.length) (hion : io.Nodup) (hio : ∀ i ∈ io, i < pp.length) (len : ∀ ds Qd Qe, sd ds Qd Qe → ds.length = (pp ++ [kn] ++ [pv]).length)
    (walk : ∀ (cdv : Value) (A : Around) (outer : List Env) (s : Shared) (H : Hp) (E : XK), Room k (A.deeper (PyProof.Rows.envOfC qual scope s.heap.objs.size f cdv)) →
      ∃ ts, DSs (cxOf (L2N.CX P w) P w K mg base N qual scope f cdv A outer s H E) (wBody E) body ts td)
    (rd : ∀ ds Qd Qe, sd ds Qd Qe → td (endsD io Qd Qe) (startE N.length io ds)) : FnR P w K mg base (L2N.CX P w) (k + 1) f (spOf ⟨K, w⟩ io (stK pp.length dd sd)) := by
  intro A outer s H us vs Q E hr e0 r hq
  obtain ⟨oc, od, dV, kV, doc, pm, an, cdv, ct, osl, rfl, lk, hcd, hD, hK⟩ := F.ex
  have hD : dV = .none := by
    rcases hD with ⟨_, e⟩ | ⟨e, _⟩
    · exact e
    · exact absurd rfl e
  subst hD
  rcases hK with e | ⟨Dk, rfl, hk⟩
  · cases e
  obtain ⟨z, hk1, rzv⟩ := hk (kn, dv) (by simp)
  obtain ⟨F0, ds, Qd, Qe, eF, A0, ⟨hn, hsz, _⟩, _, _⟩ := id hq
  have hvl : vs.length = ds.length := A0.len
  have hul : us.length = vs.length := r.length.symm
  have fresh : H s.heap.objs.size = Option.none := e0.hok.fresh (Nat.le_refl _)
  have hrest : (us.drop pp.length).length ≤ sizeLine := by rw [List.length_drop]; omega
  have rr := vals_take pp.length r
  have KX : K.In s.heap := e0.mod.kin.keeps fun b o e => (e0.bs b o e).1
  refine StX.run_bnd lk hcd S hr e0 (G := fun xs H2 => ∃ p, H p = Option.none ∧ xs = vs.take pp.length ++ [dv, V.ref p] ∧ H2 = upd H p (.tup (vs.drop pp.length))) (fun A' Ex Q' h => ?_) fun s2 H2 xs ⟨p, hp, ex, eH⟩ hr' => ?_
  · have e := hb Dk doc pm an cdv ct (us.take pp.length) (us.drop pp.length) z (by rw [List.length_take]; omega)
    rw [List.take_append_drop] at e
    refine e.wp KX hk1 ?_
    refine wpAny_bind (wpAny_newTuple (wpAny_pure ?_) hrest)
    have new : ObjOk P w (upd H s.heap.objs.size (.tup (vs.drop pp.length))) (s.heap.push ({ cls := .type "tuple", data := .seq (us.drop pp.length).toArray } : Obj)) s.heap.objs.size (.tup (vs.drop pp.length)) :=
      ⟨by rw [rr.2.length]; exact hrest, us.drop pp.length, rr.2, ⟨_, Heap.get?_push_size _ rfl, rfl, _, rfl⟩⟩
    have un := StX.un_laid (fs := frs outer) (s := s) (o := ({ cls := .type "tuple", data := .seq (us.drop pp.length).toArray } : Obj)) (u := .tup (vs.drop pp.length)) fresh
    have q := h _ _ (vs.take pp.length ++ [dv, V.ref s.heap.objs.size]) (us.take pp.length ++ [z, Value.ref s.heap.objs.size]) (StX.env0_laid e0 new) un rfl (fun e s' => cxUpN outer s H _ _ E e s' un (fun b o q => Heap.get?_push_of_some _ q) rfl) (rr.1.append (.cons rzv (.cons rfl .nil)))
      (by simp; omega) ⟨_, fresh, rfl, rfl⟩
    have ez : (pp ++ [kn] ++ [pv]).zip (us.take pp.length ++ [z, Value.ref s.heap.objs.size]) = pp.zip (us.take pp.length) ++ [(kn, z)] ++ [(pv, Value.ref s.heap.objs.size)] := by
      rw [List.append_assoc, List.zip_append (by rw [List.length_take]; omega), List.append_assoc]
      rfl
    rw [ez] at q
    exact q
  · subst ex eH
    refine bodyD hps hion (fun i m => by have := hio i m; rw [List.length_append, List.length_append]; omega) len (walk cdv A outer s2 _ E hr') rd ?_
    exact spOf_up (n := pp.length) (u := .tup (vs.drop pp.length)) (ws := [dv, V.ref p]) (sd' := sd) hio hq hp (fun F1 es' Qd' Qe' e1 fp h1 hl1 l1 => by
      obtain ⟨hn', hsz', h2⟩ := h1
      exact ⟨hn', [dd, .tup (es'.drop pp.length)], h2, dv, [V.ref p], rfl, hdd _, V.ref p, [], rfl, ⟨p, vs.drop pp.length, rfl, .inl (.inl upd_same), IsL.mono (same_upd fp) _ _ l1⟩, rfl⟩)
end
end DL

/-! The D layer, part 28: calls with *xs, with keywords. -/
namespace DL
open PySem PySem.Spec PyProof.Rows L2

section
variable {M : Model} {A : Around} {E : Value → Shared → Prop} {s : Shared}
/-- one starred argument alone, then keywords -/
theorem ea_loneK {f : Value} {x : Sem Value} {pos : Pos} {kws : List (Option Str × Sem Value)} {Q : Args → Shared → Prop} (hall : kws.all (·.1.isSome) = true)
    (h : wpAny M A x (fun v s₁ => wpAny M A (evalAll (kws.map (·.2))) (fun ks s₂ => PySem.W.StarOf M A E v (fun vs s₃ => Q ⟨vs, (kws.filterMap (·.1)).zip ks⟩ s₃) s₂) E s₁) E s) :
    wpAny M A (evalArgs f true [(true, (do let v ← x; standAt pos; pure v))] kws) Q E s := by
  unfold evalArgs
  first
    | refine wpAny_bind (wpAny_bind (wpAny_mono h (fun v s₁ h₁ => wpAny_bind (wpAny_standAt (wpAny_pure ?_))) fun _ _ x => x))
    | refine wpAny_bind (wpAny_bind (wpAny_bind (wpAny_mono h (fun v s₁ h₁ => wpAny_bind (wpAny_standAt (wpAny_pure (wpAny_pure ?_)))) fun _ _ x => x)))
  refine wpAny_holding ?_
  try simp only [hall, if_true]
  refine wpAny_bind (wpAny_mono h₁ (fun ks s₂ h₂ => ?_) fun _ _ x => x)
  unfold PySem.W.StarOf at h₂
  refine wpAny_bind (wpAny_bind (wpAny_mono h₂ (fun b s₃ h₃ => ?_) fun _ _ x => x))
  obtain ⟨rfl, h₃⟩ := h₃
  have z := wpAny_holding (vs := ((kws.filterMap (·.1)).zip ks).map (·.2)) (wpAny_mono h₃ (fun vs s₄ h₄ => (wpAny_pure h₄ : wpAny M A (pure (⟨vs, (kws.filterMap (·.1)).zip ks⟩ : Args)) Q E s₄)) fun _ _ x => x)
  try simp only [Bool.false_eq_true, if_false]
  first
    | exact z
    | exact wpAny_bind (wpAny_pure z)
/-- arguments in a row of which one at least is starred, not alone -/
theorem ea_many {f : Value} {a b : Bool × Sem Value} {rest : List (Bool × Sem Value)} {Q : Args → Shared → Prop} (h : wpAny M A (spliced (a :: b :: rest)) (fun vs s' => Q ⟨vs, []⟩ s') E s) : wpAny M A (evalArgs f true (a :: b :: rest) []) Q E s := by
  unfold evalArgs
  obtain ⟨ab, ax⟩ := a
  cases ab
  all_goals
    show wpAny M A (spliced ((_, ax) :: b :: rest) >>= _) Q E s
    refine wpAny_bind (wpAny_mono h (fun vs s' h' => ?_) fun _ _ x => x)
    refine wpAny_holding ?_
    exact wpAny_bind (wpAny_pure (wpAny_bind (wpAny_pure (wpAny_pure h'))))
/-- a call with stars or keywords -/
theorem cw_star {f : Value} {first : List Value} {pos : Pos} {Q : Value → Shared → Prop} {P : Heap → Prop} {args : List (Bool × Sem Value)} {kws : List (Option Str × Sem Value)} (hst : args.any (·.1) = true)
    (hk : ∀ h, P h → ∃ k, (k = Keeper.frame ∨ k = Keeper.machine ∨ k = Keeper.boundFrame) ∧ PySem.W.Looks M h (keeperOf f) k)
    (h : wpAny M A (evalArgs f true args kws) (fun a s₁ => P s₁.heap ∧ wpAny M A (call f (first ++ a.pos) a.kw) Q E s₁) E s) : wpAny M A (callWith pos f first args kws) Q E s := by
  unfold callWith
  refine wpAny_bind (wpAny_holding (wpAny_mono h (fun a s₁ h₁ => wpAny_bind (wpAny_standAt ?_)) fun _ _ x => x))
  obtain ⟨k, hk', L⟩ := hk _ h₁.1
  simp only [hst, Bool.true_or]
  refine wpAny_bind (L.here ?_)
  have tail : ∀ {t : Sem Value}, wpAny M A t Q E s₁ → wpAny M A (t >>= fun r => holding [r] point >>= fun _ => pure r) Q E s₁ :=
    fun ht => wpAny_bind (wpAny_mono ht (fun r s₂ hr => wpAny_bind (wpAny_holding (wpAny_point (wpAny_pure hr)))) fun _ _ x => x)
  have marked (mk : Value) : wpAny M A (callMarked mk f (first ++ a.pos) a.kw) Q E s₁ := by unfold callMarked; exact Calls.wpAny_keep h₁.2
  rcases hk' with rfl | rfl | rfl <;> dsimp only <;> first | exact tail (marked _) | exact tail (wpAny_operateT h₁.2)
end
/-! ### what is handed: positional values, then the keywords' -/
/-- arguments of a call, the keywords named ks: the reading gives the positional values and the keywords' values -/
structure AG (X : Cx) (es : List Expr) (kws : List Keyword) (ks : List Str) (t : L2.St → Hp → (List V → List V → Hp → Prop) → Prop) : Prop where
  run : ∀ (pos : Pos) (f : Value) (pins : List (Addr × Obj)) (s : Shared) (σ : L2.St) (H : Hp) (Q : List V → List V → Hp → Prop) (R : Value → Shared → Prop), Inv X pins σ H s → PySem.W.keepIn X.K f = true → t σ H Q →
    (∀ us ws vs zs H1 s1, Inv X pins σ H1 s1 → Vals vs us → Vals zs ws → ws.length = ks.length → Q vs zs H1 → wpAny (model X.prog X.w) X.A (call f us (ks.zip ws)) R X.xe s1) →
    wpAny (model X.prog X.w) X.A (callWith pos f [] (backTo pos (starEach es X.env)) (backToKw pos (keywordEach kws X.env))) R X.xe s
def tAG0 (t : TA) : L2.St → Hp → (List V → List V → Hp → Prop) → Prop := fun σ H Q => t σ H fun vs H1 => Q vs [] H1
def tAGK (m : Nat) (t tk : TA) : L2.St → Hp → (List V → List V → Hp → Prop) → Prop := fun σ H Q => t σ H fun vs H1 => tk σ H1 fun zs H2 => zs.length = m ∧ Q vs zs H2
def tLone (K : Fg) (te : TE) : TA := fun σ H Q => te σ H fun y H1 => ∃ a xs, y = V.ref a ∧ (SqT K H1 a xs ∨ SqL K H1 a xs) ∧ Q xs H1
def tLoneK (K : Fg) (m : Nat) (te : TE) (tk : TA) : L2.St → Hp → (List V → List V → Hp → Prop) → Prop := fun σ H Q => te σ H fun y H1 => tk σ H1 fun zs H2 => zs.length = m ∧ ∃ a xs, y = V.ref a ∧ (SqT K H2 a xs ∨ SqL K H2 a xs) ∧ Q xs zs H2
section
variable {X : Cx} {e e2 : Expr} {es : List Expr} {kws : List Keyword} {ks : List Str} {t tk : TA} {te : TE} {p : Pos}
theorem ag_nil : AG X [] [] [] (tAG0 tNil) := ⟨fun pos f pins s σ H Q R I hk h k => PySem.W.callWith_K0 I.kIn hk (k [] [] [] [] H s I .nil .nil rfl h)⟩
theorem ag_plain (ha : PA X (e :: es) t) (he : starEach (e :: es) X.env = (false, eval e X.env) :: starEach es X.env) (hpl : ∀ pos, (backTo pos (starEach es X.env)).any (·.1) = false) : AG X (e :: es) [] [] (tAG0 t) :=
  ⟨fun pos f pins s σ H Q R I hk h k => PySem.W.callWith_K (h₀ := X.base) I.ok.mod.kin hk (thn (ha.run pos pins s σ H _ I h) fun us s1 ⟨vs, H1, I1, r, q⟩ => ⟨I1.kIn, k us [] vs [] H1 s1 I1 r .nil rfl q⟩) he (hpl pos)⟩
theorem ag_kw (ha : PA X (e :: es) t) (hkw : PK X kws tk) (he : starEach (e :: es) X.env = (false, eval e X.env) :: starEach es X.env) (hall : ∀ pos, (backToKw pos (keywordEach kws X.env)).all (·.1.isSome) = true) (hks : ∀ pos, (backToKw pos (keywordEach kws X.env)).filterMap (·.1) = ks)
    (hpl : ∀ pos, ((backTo pos (starEach (e :: es) X.env)).any (·.1) || (backToKw pos (keywordEach kws X.env)).any (·.1.isNone)) = false) : AG X (e :: es) kws ks (tAGK ks.length t tk) :=
  ⟨fun pos f pins s σ H Q R I hk h k => PySem.W.callWith_KW (h₀ := X.base) I.ok.mod.kin hk (hall pos) (thn (ha.run pos pins s σ H _ I h) fun us s1 ⟨vs, H1, I1, r, q⟩ => by
    refine thn (hkw.run pos pins s1 σ H1 _ I1 q) fun ws s2 ⟨zs, H2, I2, rz, l2, q2⟩ => ⟨I2.kIn, ?_⟩
    rw [hks]
    exact k us ws vs zs H2 s2 I2 r rz (by rw [← rz.length]; exact l2) q2) (hpl pos) he⟩
theorem ag_kw0 (hkw : PK X kws tk) (hall : ∀ pos, (backToKw pos (keywordEach kws X.env)).all (·.1.isSome) = true) (hks : ∀ pos, (backToKw pos (keywordEach kws X.env)).filterMap (·.1) = ks)
    (hpl : ∀ pos, ((backTo pos (starEach [] X.env)).any (·.1) || (backToKw pos (keywordEach kws X.env)).any (·.1.isNone)) = false) : AG X [] kws ks (tAGK ks.length tNil tk) :=
  ⟨fun pos f pins s σ H Q R I hk h k => PySem.W.callWith_KW0 (h₀ := X.base) I.ok.mod.kin hk (hall pos) (by
    refine thn (hkw.run pos pins s σ H _ I h) fun ws s2 ⟨zs, H2, I2, rz, l2, q2⟩ => ⟨I2.kIn, ?_⟩
    rw [hks]
    exact k [] ws [] zs H2 s2 I2 .nil rz (by rw [← rz.length]; exact l2) q2) (hpl pos)⟩
theorem ag_lone (ha : PE X e te) (hst : starEach [.Starred e p] X.env = [(true, eval e X.env)]) : AG X [.Starred e p] [] [] (tAG0 (tLone X.K te)) :=
  ⟨fun pos f pins s σ H Q R I hk h k => PySem.W.callWith_S (h₀ := X.base) I.ok.mod.kin hk (thn (ha.run pins s σ H _ I h) fun v s1 ⟨y, H1, I1, ry, a, xs, ey, hx, q⟩ => by
    subst ey
    obtain rfl : v = Value.ref a := ry
    exact StX.star_any I1 hx fun us s2 I2 rv => ⟨I2.kIn, k us [] xs [] H1 s2 I2 rv .nil rfl q⟩) hst⟩
theorem ag_loneK (ha : PE X e te) (hkw : PK X kws tk) (hst : starEach [.Starred e p] X.env = [(true, eval e X.env)]) (hall : ∀ pos, (backToKw pos (keywordEach kws X.env)).all (·.1.isSome) = true) (hks : ∀ pos, (backToKw pos (keywordEach kws X.env)).filterMap (·.1) = ks)
    : AG X [.Starred e p] kws ks (tLoneK X.K ks.length te tk) :=
  ⟨fun pos f pins s σ H Q R I hk h k => by
    rw [hst]
    refine cw_star (P := fun h => X.K.In h) rfl (PySem.W.keeps_K hk) (ea_loneK (hall pos) ?_)
    refine thn (ha.run pins s σ H _ I h) fun v s1 ⟨y, H1, I1, ry, q1⟩ => ?_
    refine thn (hkw.run pos pins s1 σ H1 _ I1 q1) fun ws s2 ⟨zs, H2, I2, rz, l2, a, xs, ey, hx, q⟩ => ?_
    subst ey
    obtain rfl : v = Value.ref a := ry
    refine StX.star_any I2 hx fun us s3 I3 rv => ⟨I3.kIn, ?_⟩
    rw [hks]
    exact k us ws xs zs H2 s3 I3 rv rz (by rw [← rz.length]; exact l2) q⟩
theorem ag_star (ha : PA X (e :: e2 :: es) t) (hst : ∀ pos, (backTo pos (starEach (e :: e2 :: es) X.env)).any (·.1) = true) (hc : ∀ pos, ∃ a b r, backTo pos (starEach (e :: e2 :: es) X.env) = a :: b :: r) : AG X (e :: e2 :: es) [] [] (tAG0 t) :=
  ⟨fun pos f pins s σ H Q R I hk h k => by
    have hst := hst pos
    have hr := ha.run pos pins s σ H _ I h
    obtain ⟨a, b, r, e0⟩ := hc pos
    rw [e0] at hst hr ⊢
    refine cw_star (P := fun h => X.K.In h) hst (PySem.W.keeps_K hk) (ea_many ?_)
    exact thn hr fun us s1 ⟨vs, H1, I1, rv, q⟩ => ⟨I1.kIn, k us [] vs [] H1 s1 I1 rv .nil rfl q⟩⟩
end
end DL

/-! The D layer, part 29: such calls over plain data. -/
namespace DL
open PySem PySem.Spec PyProof.Rows L2

def catT (t : L2.St → Hp → (List V → List V → Hp → Prop) → Prop) : TA := fun σ H Q => t σ H fun vs zs H1 => Q (vs ++ zs) H1
structure DAG (X : Cx) (W : WX) (es : List Expr) (kws : List Keyword) (ks : List Str) (t : L2.St → Hp → (List V → List V → Hp → Prop) → Prop) (td : TDA) : Prop where
  ag : AG X es kws ks t
  sim : SimA (kk X) W (catT t) td
structure DK (X : Cx) (W : WX) (kws : List Keyword) (t : TA) (td : TDA) : Prop where
  pk : PK X kws t
  sim : SimA (kk X) W t td
def dArgK (m : Nat) (a b : TDA) : TDA := fun en Q Qe => a en (fun ds en1 => b en1 (fun es en2 => es.length = m ∧ Q (ds ++ es) en2) Qe) Qe
def dLone (e : TDE) : TDA := fun en Q Qe => e en (fun y en1 => match seqOf y with
  | some xs => Q xs en1
  | none => False) Qe
def dLoneK (m : Nat) (e : TDE) (b : TDA) : TDA := fun en Q Qe => e en (fun y en1 => b en1 (fun es en2 => match seqOf y with
  | some xs => es.length = m ∧ Q (xs ++ es) en2
  | none => False) Qe) Qe
def dStar (e : TDE) (a : TDA) : TDA := fun en Q Qe => e en (fun y en1 => match seqOf y with
  | some xs => a en1 (fun es en2 => Q (xs ++ es) en2) Qe
  | none => False) Qe
section
variable {X : Cx} {W : WX} {e e2 : Expr} {es : List Expr} {kws : List Keyword} {ks : List Str} {t tk : TA} {te : TE} {d dk : TDA} {de : TDE} {p kpos : Pos} {nm : Option Str}
theorem dk_nil : DK X W [] tNil dNil := ⟨pk_nil, fun G F H σ en Q Qd Qe R q x k => k [] [] F H en (Same.refl F) R rfl q⟩
theorem dk_cons (h : DE X W e te de) (hr : DK X W kws t d) : DK X W (⟨nm, e, kpos⟩ :: kws) (tCons te t) (dCons de d) :=
  ⟨pk_cons h.pe hr.pk, fun G F H σ en Q Qd Qe R q x k => h.sim G F H σ en _ _ Qe R q x fun v d F1 H1 en1 e1 R1 i1 q1 => hr.sim G F1 H1 σ en1 _ _ Qe R1 q1 x fun vs ds F2 H2 en2 e2 R2 i2 q2 =>
    k (v :: vs) (d :: ds) F2 H2 en2 (e1.trans e2) R2 ⟨v, vs, rfl, Is.mono e2 _ _ i1, i2⟩ q2⟩
theorem sim_ag0 (h : SimA (kk X) W t d) : SimA (kk X) W (catT (tAG0 t)) d := fun G F H σ en Q Qd Qe R q x k => h G F H σ en _ _ Qe R q x fun vs ds F1 H1 en1 e1 R1 i1 q1 => by
  have := k vs ds F1 H1 en1 e1 R1 i1 q1
  show Q (vs ++ []) H1
  rw [List.append_nil]
  exact this
theorem sim_agK {m : Nat} (h : SimA (kk X) W t d) (hk : SimA (kk X) W tk dk) : SimA (kk X) W (catT (tAGK m t tk)) (dArgK m d dk) := fun G F H σ en Q Qd Qe R q x k => h G F H σ en _ _ Qe R q x fun vs ds F1 H1 en1 e1 R1 i1 q1 =>
  hk G F1 H1 σ en1 _ _ Qe R1 q1 x fun zs es F2 H2 en2 e2 R2 i2 q2 => ⟨by rw [i2.length]; exact q2.1, k (vs ++ zs) (ds ++ es) F2 H2 en2 (e1.trans e2) R2 (IsL.append (IsL.mono e2 _ _ i1) i2) q2.2⟩
theorem dag_nil : DAG X W [] [] [] (tAG0 tNil) dNil := ⟨ag_nil, sim_ag0 fun G F H σ en Q Qd Qe R q x k => k [] [] F H en (Same.refl F) R rfl q⟩
theorem dag_plain (ha : DA X W (e :: es) t d) (he : starEach (e :: es) X.env = (false, eval e X.env) :: starEach es X.env := by rfl) (hpl : ∀ pos, (backTo pos (starEach es X.env)).any (·.1) = false := by exact fun _ => rfl) : DAG X W (e :: es) [] [] (tAG0 t) d :=
  ⟨ag_plain ha.pa he hpl, sim_ag0 ha.sim⟩

theorem dag_kw (ha : DA X W (e :: es) t d) (hkw : DK X W kws tk dk) (he : starEach (e :: es) X.env = (false, eval e X.env) :: starEach es X.env := by rfl) (hall : ∀ pos, (backToKw pos (keywordEach kws X.env)).all (·.1.isSome) = true := by exact fun _ => rfl) (hks : ∀ pos, (backToKw pos (keywordEach kws X.env)).filterMap (·.1) = ks := by exact fun _ => rfl)
    (hpl : ∀ pos, ((backTo pos (starEach (e :: es) X.env)).any (·.1) || (backToKw pos (keywordEach kws X.env)).any (·.1.isNone)) = false := by exact fun _ => rfl) : DAG X W (e :: es) kws ks (tAGK ks.length t tk) (dArgK ks.length d dk) := ⟨ag_kw ha.pa hkw.pk he hall hks hpl, sim_agK ha.sim hkw.sim⟩
theorem dag_kw0 (hkw : DK X W kws tk dk) (hall : ∀ pos, (backToKw pos (keywordEach kws X.env)).all (·.1.isSome) = true := by exact fun _ => rfl) (hks : ∀ pos, (backToKw pos (keywordEach kws X.env)).filterMap (·.1) = ks := by exact fun _ => rfl)
    (hpl : ∀ pos, ((backTo pos (starEach [] X.env)).any (·.1) || (backToKw pos (keywordEach kws X.env)).any (·.1.isNone)) = false := by exact fun _ => rfl) : DAG X W [] kws ks (tAGK ks.length tNil tk) (dArgK ks.length dNil dk) := ⟨ag_kw0 hkw.pk hall hks hpl, sim_agK (fun G F H σ en Q Qd Qe R q x k => k [] [] F H en (Same.refl F) R rfl q) hkw.sim⟩
theorem sim_lone (h : Sim (kk X) W te de) : SimA (kk X) W (tLone X.K te) (dLone de) := fun G F H σ en Q Qd Qe R q x k => h G F H σ en _ _ Qe R q x fun v d F1 H1 en1 e1 R1 i1 q1 => by
  split at q1
  · rename_i xs hs
    obtain ⟨a, ws, rfl, ha, la⟩ := seq_is R1.le i1 hs
    exact ⟨a, ws, rfl, ha.symm, k ws xs F1 H1 en1 e1 R1 la q1⟩
  · exact q1.elim
theorem dag_lone (ha : DE X W e te de) (hst : starEach [.Starred e p] X.env = [(true, eval e X.env)] := by rfl) : DAG X W [.Starred e p] [] [] (tAG0 (tLone X.K te)) (dLone de) := ⟨ag_lone ha.pe hst, sim_ag0 (sim_lone ha.sim)⟩
theorem sim_loneK {m : Nat} (h : Sim (kk X) W te de) (hk : SimA (kk X) W tk dk) : SimA (kk X) W (catT (tLoneK X.K m te tk)) (dLoneK m de dk) := fun G F H σ en Q Qd Qe R q x k => h G F H σ en _ _ Qe R q x fun v d F1 H1 en1 e1 R1 i1 q1 =>
  hk G F1 H1 σ en1 _ _ Qe R1 q1 x fun zs es F2 H2 en2 e2 R2 i2 q2 => by
    split at q2
    · rename_i xs hs
      obtain ⟨a, ws, rfl, ha, la⟩ := seq_is R2.le (Is.mono e2 _ _ i1) hs
      exact ⟨by rw [i2.length]; exact q2.1, a, ws, rfl, ha.symm, k (ws ++ zs) (xs ++ es) F2 H2 en2 (e1.trans e2) R2 (IsL.append la i2) q2.2⟩
    · exact q2.elim
theorem dag_loneK (ha : DE X W e te de) (hkw : DK X W kws tk dk) (hst : starEach [.Starred e p] X.env = [(true, eval e X.env)] := by rfl) (hall : ∀ pos, (backToKw pos (keywordEach kws X.env)).all (·.1.isSome) = true := by exact fun _ => rfl) (hks : ∀ pos, (backToKw pos (keywordEach kws X.env)).filterMap (·.1) = ks := by exact fun _ => rfl) :
    DAG X W [.Starred e p] kws ks (tLoneK X.K ks.length te tk) (dLoneK ks.length de dk) := ⟨ag_loneK ha.pe hkw.pk hst hall hks, sim_loneK ha.sim hkw.sim⟩
theorem da_star (h : DE X W e te de) (hr : DA X W es t d) (hs : starEach (.Starred e p :: es) X.env = (true, eval e X.env) :: starEach es X.env := by rfl) : DA X W (.Starred e p :: es) (StX.tStar X.K te t) (dStar de d) :=
  ⟨StX.pa_star h.pe hr.pa hs, fun G F H σ en Q Qd Qe R q x k => h.sim G F H σ en _ _ Qe R q x fun v d F1 H1 en1 e1 R1 i1 q1 => by
    split at q1
    · rename_i xs hs
      obtain ⟨a, ws, rfl, ha, la⟩ := seq_is R1.le i1 hs
      exact ⟨a, ws, rfl, ha.symm, hr.sim G F1 H1 σ en1 _ _ Qe R1 q1 x fun vs ds F2 H2 en2 e2 R2 i2 q2 => k (ws ++ vs) (xs ++ ds) F2 H2 en2 (e1.trans e2) R2 (IsL.append (IsL.mono e2 _ _ la) i2) q2⟩
    · exact q1.elim⟩
theorem dag_star (ha : DA X W (e :: e2 :: es) t d) (hst : ∀ pos, (backTo pos (starEach (e :: e2 :: es) X.env)).any (·.1) = true := by exact fun _ => rfl) (hc : ∀ pos, ∃ a b r, backTo pos (starEach (e :: e2 :: es) X.env) = a :: b :: r := by exact fun _ => ⟨_, _, _, rfl⟩) :
    DAG X W (e :: e2 :: es) [] [] (tAG0 t) d := ⟨ag_star ha.pa hst hc, sim_ag0 ha.sim⟩
end
/-! ### calls, new instances -/
theorem FnR.toK {P : Program} {w : World} {K : Fg} {mg : Str → Option Value} {base : Heap} {CX : CXT} {k : Nat} {f : Addr} {sp : Sp} (F : FnR P w K mg base CX k f sp) : FnRK P w K mg base CX k f [] (fun vs zs => sp (vs ++ zs)) := fun A outer s H us ws vs zs Q E hr e0 r rz hl h => by
  have : ws = [] := List.length_eq_zero_iff.mp hl
  subst this
  cases rz
  rw [List.append_nil] at h
  exact F A outer s H us vs Q E hr e0 r h
section
variable {X : Cx} {W : WX} {k : Nat} {f : Addr} {C : String} {sd : SpD} {x : Str} {p pos : Pos} {es : List Expr} {kws : List Keyword} {ks : List Str} {t : L2.St → Hp → (List V → List V → Hp → Prop) → Prop} {d : TDA}
theorem de_callG (F : FnRK X.prog X.w X.K X.mg X.base (L2N.CX X.prog X.w) k f ks (fun vs zs => spOf (kk X) [] sd (vs ++ zs))) (hr : Room k X.A) (tk : Takes X W) (hg : Gl X x) (hm : X.mg x = some (.ref f)) (hk : PySem.W.keepIn X.K (.ref f) = true) (ha : DAG X W es kws ks t d) (hd : (x == ("__debug__" : Str)) = false := by decide) :
    DE X W (.Call (.Name x p) es kws pos) (tCallR (spOf (kk X) [] sd) W (catT t)) (dCall sd d) :=
  ⟨⟨fun pins s σ H Q I h => wpAny_Call_Name_kw (ld_glob I hg hm (ha.ag.run pos _ pins s σ H _ _ I hk h fun us ws vs zs H1 s1 I1 r rz hl q => wpAny_call (codeAny_mono (F X.A X.stack s1 H1 us ws vs zs Q _ hr I1.env0 r rz hl q) fun r s' hq => by
    cases r with
    | error e => exact passAt tk σ pins H1 s1 e s' I1 hq
    | ok fl =>
      cases fl with
      | ret u => exact I1.after hq
      | next => exact False.elim hq
      | brk => exact False.elim hq
      | cont => exact False.elim hq)) hd)⟩, sim_call ha.sim⟩
theorem do_makeG (M : Mk X.K (He.ga X.K C) f) (F : FnRK X.prog X.w X.K X.mg X.base (L2N.CX X.prog X.w) k f ks (fun vs zs => spOf (kk X) [0] sd (vs ++ zs))) (hr : Room (k + 1) X.A) (tk : Takes X W) (hg : Gl X x) (hm : X.mg x = some (.ref (He.ga X.K C))) (ha : DAG X W es kws ks t d) (hdb : (x == ("__debug__" : Str)) = false := by decide) :
    DO X W (.Call (.Name x p) es kws pos) (tMakeW (He.ga X.K C) (spOf (kk X) [0] sd) W (catT t)) (dMake C sd d) :=
  ⟨⟨fun pins s σ H Q I h => wpAny_Call_Name_kw (ld_glob I hg hm (ha.ag.run pos _ pins s σ H _ _ I M.kp h fun us ws vs zs H1 s1 I1 r rz hl q => by
    have hq := q (s1.heap.objs.size + 1) s1.heap.objs.size (I1.hok.fresh (Nat.le_succ _)) (I1.hok.fresh (Nat.le_refl _)) (Nat.ne_of_lt (Nat.lt_succ_self _))
    have I2 := Inv.made (C := He.ga X.K C) I1
    have r2 : Vals (V.ref (s1.heap.objs.size + 1) :: vs) (Value.ref (s1.heap.objs.size + 1) :: us) := .cons rfl r
    refine wpAny_call (make_map (f := f) I1.kIn M.makes M.init (beq_iff_eq.mp M.fn) (codeAny_mono (F _ X.stack _ _ (Value.ref (s1.heap.objs.size + 1) :: us) ws _ zs _ _ (hr.make (He.ga X.K C) us (ks.zip ws)) (I2.env0.make (He.ga X.K C) us (ks.zip ws)) r2 rz hl hq) fun r s' hq' => ?_))
    cases r with
    | error e => exact passAt tk σ pins _ _ e s' I2 hq'
    | ok fl =>
      cases fl with
      | ret u =>
        obtain ⟨v, H', I3, rv, ev, q3⟩ := I2.after hq'
        subst ev
        exact ⟨rv, ⟨V.ref (s1.heap.objs.size + 1), H', I3, rfl, q3⟩⟩
      | next => exact False.elim hq'
      | brk => exact False.elim hq'
      | cont => exact False.elim hq') hdb)⟩, sim_make ha.sim⟩
end
/-! ### what the readings unfold to -/
@[simp ↓] theorem r_ArgK {m : Nat} {a b : TDA} {en : En} {Q : List D → En → Prop} {Qe : Qx} : dArgK m a b en Q Qe = a en (fun ds en1 => b en1 (fun es en2 => es.length = m ∧ Q (ds ++ es) en2) Qe) Qe := by rfl
@[simp ↓] theorem r_Lone {e : TDE} {en : En} {Q : List D → En → Prop} {Qe : Qx} : dLone e en Q Qe = e en (fun y en1 => match seqOf y with
  | some xs => Q xs en1
  | none => False) Qe := by rfl
@[simp ↓] theorem r_LoneK {m : Nat} {e : TDE} {b : TDA} {en : En} {Q : List D → En → Prop} {Qe : Qx} : dLoneK m e b en Q Qe = e en (fun y en1 => b en1 (fun es en2 => match seqOf y with
  | some xs => es.length = m ∧ Q (xs ++ es) en2
  | none => False) Qe) Qe := by rfl
@[simp ↓] theorem r_Star {e : TDE} {a : TDA} {en : En} {Q : List D → En → Prop} {Qe : Qx} : dStar e a en Q Qe = e en (fun y en1 => match seqOf y with
  | some xs => a en1 (fun es en2 => Q (xs ++ es) en2) Qe
  | none => False) Qe := by rfl
theorem kwS_one {n : Nat} {sd : SpD} {ds : List D} {kv : D} {Qd : D → List D → Prop} {Qe : Exn → List D → Prop} : kwS n sd (ds ++ [kv]) Qd Qe = (n ≤ ds.length ∧ ds.length ≤ sizeLine ∧ sd (ds.take n ++ [kv, .tup (ds.drop n)]) Qd Qe) := propext ⟨fun ⟨es, k, e, h⟩ => by
  obtain ⟨e1, e2⟩ := List.append_inj' e rfl
  cases e2
  subst e1
  exact h, fun h => ⟨ds, kv, rfl, h⟩⟩
/-- for a bare instance and what is handed -/
@[simp ↓] theorem r_kwS1 {sd : SpD} {d : D} {ds : List D} {kv : D} {Qd : D → List D → Prop} {Qe : Exn → List D → Prop} : kwS 1 sd (d :: (ds ++ [kv])) Qd Qe = (ds.length + 1 ≤ sizeLine ∧ sd [d, kv, .tup ds] Qd Qe) := by
  rw [← List.cons_append, kwS_one]
  simp
@[simp ↓] theorem r_kwS1_0 {sd : SpD} {d kv : D} {Qd : D → List D → Prop} {Qe : Exn → List D → Prop} : kwS 1 sd [d, kv] Qd Qe = sd [d, kv, .tup []] Qd Qe := by
  have := r_kwS1 (sd := sd) (d := d) (ds := []) (kv := kv) (Qd := Qd) (Qe := Qe)
  refine this.trans (propext ⟨fun h => h.2, fun h => ⟨by rw [sizeLine_eq]; simp, h⟩⟩)
@[simp ↓] theorem r_kwS1_1 {sd : SpD} {d a kv : D} {Qd : D → List D → Prop} {Qe : Exn → List D → Prop} : kwS 1 sd [d, a, kv] Qd Qe = sd [d, kv, .tup [a]] Qd Qe := by
  have := r_kwS1 (sd := sd) (d := d) (ds := [a]) (kv := kv) (Qd := Qd) (Qe := Qe)
  refine this.trans (propext ⟨fun h => h.2, fun h => ⟨by rw [sizeLine_eq]; simp, h⟩⟩)
@[simp ↓] theorem r_kwS1_2 {sd : SpD} {d a b kv : D} {Qd : D → List D → Prop} {Qe : Exn → List D → Prop} : kwS 1 sd [d, a, b, kv] Qd Qe = sd [d, kv, .tup [a, b]] Qd Qe := by
  have := r_kwS1 (sd := sd) (d := d) (ds := [a, b]) (kv := kv) (Qd := Qd) (Qe := Qe)
  refine this.trans (propext ⟨fun h => h.2, fun h => ⟨by rw [sizeLine_eq]; simp, h⟩⟩)
@[simp ↓] theorem r_kwS1_3 {sd : SpD} {d a b c kv : D} {Qd : D → List D → Prop} {Qe : Exn → List D → Prop} : kwS 1 sd [d, a, b, c, kv] Qd Qe = sd [d, kv, .tup [a, b, c]] Qd Qe := by
  have := r_kwS1 (sd := sd) (d := d) (ds := [a, b, c]) (kv := kv) (Qd := Qd) (Qe := Qe)
  refine this.trans (propext ⟨fun h => h.2, fun h => ⟨by rw [sizeLine_eq]; simp, h⟩⟩)
@[simp ↓] theorem r_stK1 {sd : SpD} {dd d : D} {ds : List D} {Qd : D → List D → Prop} {Qe : Exn → List D → Prop} : stK 1 dd sd (d :: ds) Qd Qe = (ds.length + 1 ≤ sizeLine ∧ sd [d, dd, .tup ds] Qd Qe) := by
  unfold stK
  simp
end DL

/-! The D layer, part 30: comprehensions of lists and dicts, one for or two (printed by mk30.py). -/
namespace DL
open PySem PySem.Spec PyProof.Rows L2

/-- what is done in a turn behind the tests -/
abbrev TM := L2.St → Hp → (L2.St → Hp → Prop) → Prop
structure PM (X : Cx) (act : Sem Unit) (t : TM) : Prop where
  run : ∀ (pins : List (Addr × Obj)) (s : Shared) (σ : L2.St) (H : Hp) (N : L2.St → Hp → Prop), L2.Inv X pins σ H s → t σ H N → wpAny (model X.prog X.w) X.A act (fun _ s' => ∃ σ' H', L2.Inv X pins σ' H' s' ∧ N σ' H') X.xe s
/-- the loop of a clause -/
def CW (J : It) (g : TG) (tt : TT) (m : TM) (N : L2.St → Hp → Prop) (σ : L2.St) (H : Hp) : Prop := ∃ W : Nat → Nat → L2.St → Hp → Prop, (∃ m0, W 0 m0 σ H) ∧ ∀ i n σ H, W i n σ H →
  (J.stop i H ∧ N σ H) ∨ (J.go i H ∧ ∃ Nx : L2.St → Hp → Prop, (∀ σ' H', Nx σ' H' → ∃ n', n' < n ∧ W (i + 1) n' σ' H') ∧ ∀ x H', J.yld i H x H' → g x σ H' fun σ2 H2 => tt σ2 H2 fun b H3 => if b = true then m σ2 H3 Nx else Nx σ2 H3)
def tCl (wi : TI) (g : TG) (tt : TT) (m : TM) : TM := fun σ H N => wi σ H fun J H1 => CW J g tt m N σ H1
/-- a whole comprehension: new, the empty collection -/
def tCp (new : Addr → HO) (wi : TI) (g : TG) (tt : TT) (m : Addr → TM) (vs : List Nat) : TE := fun σ H Q => wi σ H fun J H1 => ∀ D, H1 D = none → (D == sysModules) = false → CW J g tt (m D) (fun _ H' => Q (.ref D) H') (wipe σ vs) (upd H1 D (new D))

def newL (_ : World) : Addr → HO := fun _ => .lst []
def newD (w : World) : Addr → HO := fun D => .ext (DkΦ w D [] [] [])
theorem newD_ok {P : Program} {w : World} {H : Hp} {h : Heap} : ObjOk P w H (h.push { cls := .type "dict", data := .dict #[] }) h.objs.size (newD w h.objs.size) :=
  dkφ_ext ⟨_, Heap.get?_push_size _ rfl, ⟨rfl, rfl, rfl⟩, ⟨#[], 0, rfl, .nil⟩, List.nodup_nil⟩

section
variable {prog : Program} {w : World} {A : Around} {R : Result → Shared → Prop} {s : Shared} {elt tg iter : Expr} {ifs : List Expr} {gs : List Comprehension} {scope : Scope} {pos : Pos} {it acc : Value} {env : Env} {d : Nat} {act : Sem Unit}
/-- the loop of a clause's turns -/
theorem clLoopL (he : compTurn (.ListComp elt gs scope pos) d it acc env = (do
      standAt iter.pos
      match ← pyNext it with
      | none => pure (.done .next)
      | some v =>
        letOwnedTupleGo tg it v
        assign tg env v
        let mut ok := true
        for c in ifs do
          if ok then ok ← isTrue c env (eval c env)
        if ok then act
        again (.compLoop (.ListComp elt gs scope pos) d it acc env))) (I : Nat → Shared → Prop)
    (turn : ∀ n s, I n s → wpAny (model prog w) A (pyNext it) (fun r s₁ => match r with
      | none => R (.ok .next) s₁
      | some v => wpAny (model prog w) A (letOwnedTupleGo tg it v) (fun _ s₁' => wpAny (model prog w) A (assign tg env v) (fun _ s₂ =>
          wpAny (model prog w) A (forIn ifs true fun c r => if r = true then do let ok ← isTrue c env (eval c env); pure (ForInStep.yield ok) else pure (ForInStep.yield r)) (fun ok s₃ =>
            if ok = true then wpAny (model prog w) A act (fun _ s₆ => ∃ m, m < n ∧ I m s₆) (notedBy (model prog w) A env fun e s' => R (.error e) s') s₃
            else ∃ m, m < n ∧ I m s₃) (notedBy (model prog w) A env fun e s' => R (.error e) s') s₂) (notedBy (model prog w) A env fun e s' => R (.error e) s') s₁') (notedBy (model prog w) A env fun e s' => R (.error e) s') s₁) (notedBy (model prog w) A env fun e s' => R (.error e) s') s)
    (n : Nat) (h : I n s) :
    codeAny (model prog w) A (.compLoop (.ListComp elt gs scope pos) d it acc env) R s := by
  refine codeAny_loop rfl I (fun n s hI => ?_) n h
  show wpAny _ A ((compTurn (.ListComp elt gs scope pos) d it acc env).onRaise (fun x => do noteFrame x env; theTreesLotGoes x)) _ _ s
  refine wpAny_noted ?_
  rw [he]
  refine wpAny_bind (wpAny_standAt (wpAny_bind (wpAny_mono (turn n s hI) (fun r s₁ h₁ => ?_) fun _ _ h' => h')))
  cases r with
  | none => exact wpAny_pure h₁
  | some v =>
    refine wpAny_bind (wpAny_mono h₁ (fun _ s₁' h₁' => ?_) fun _ _ h' => h')
    refine wpAny_bind (wpAny_mono h₁' (fun _ s₂ h₂ => wpAny_bind (wpAny_mono h₂ (fun ok s₃ h₃ => ?_) fun _ _ h' => h')) fun _ _ h' => h')
    cases ok with
    | false => exact wpAny_pure ⟨rfl, h₃⟩
    | true => exact wpAny_bind (wpAny_mono h₃ (fun _ s₆ h₆ => wpAny_pure ⟨rfl, h₆⟩) fun _ _ h' => h')
theorem clStartL {g : Comprehension} (hgd : gs[d]? = some g) (ha : g.is_async = 0) (h0 : codeAny (model prog w) A (.compLoop (.ListComp elt gs scope pos) d it acc env) R s)
    (h : wpAny (model prog w) A (pyIter it) (fun it' s' => codeAny (model prog w) A (.compLoop (.ListComp elt gs scope pos) d it' acc env) R s')
      (notedBy (model prog w) A env fun x s' => R (.error x) s') s) :
    codeAny (model prog w) A (.compStart (.ListComp elt gs scope pos) d it acc env) R s := by
  refine codeAny_of_tree ?_
  show wpAny _ A ((compStart (.ListComp elt gs scope pos) d it acc env).onRaise (fun x => do noteFrame x env; standAt theWindowsPlace)) _ _ s
  refine wpAny_notedAt ?_
  unfold compStart
  have hc : (clausesOf (.ListComp elt gs scope pos))[d]? = some g := hgd
  have ha' : ((some g).elim false (·.is_async != 0) : Bool) = false := by show (g.is_async != 0) = false; rw [ha]; rfl
  rw [hc, if_neg (by rw [ha']; exact Bool.false_ne_true)]
  show wpAny _ A (ask >>= _) _ _ s
  refine wpAny_bind (wpAny_askSetting (wpAny_ite ?_))
  split
  · first
      | exact wpAny_bind (wpAny_pure (wpAny_pure (And.intro rfl h0)))
      | exact wpAny_pure (And.intro rfl h0)
  · refine wpAny_bind (wpAny_rule ?_)
    dsimp only
    exact wpAny_bind (wpAny_standAt (wpAny_bind (wpAny_mono h (fun it' s' h' => wpAny_pure (And.intro rfl h')) fun _ _ x => x)))
end
section
variable {X : Cx} {elt tg iter : Expr} {ifs : List Expr} {gs : List Comprehension} {scope : Scope} {pos : Pos} {d : Nat} {act : Value → Sem Unit}
/-- what a clause's turn is -/
abbrev TurnOfL (X : Cx) (elt tg iter : Expr) (ifs : List Expr) (gs : List Comprehension) (scope : Scope) (pos : Pos) (d : Nat) (act : Value → Sem Unit) : Prop := ∀ it acc, compTurn (.ListComp elt gs scope pos) d it acc X.env = (do
      standAt iter.pos
      match ← pyNext it with
      | none => pure (.done .next)
      | some v =>
        letOwnedTupleGo tg it v
        assign tg X.env v
        let mut ok := true
        for c in ifs do
          if ok then ok ← isTrue c X.env (eval c X.env)
        if ok then act acc
        again (.compLoop (.ListComp elt gs scope pos) d it acc X.env))
theorem cl_runL {g : TG} {tt : TT} {m : Addr → TM} {N : L2.St → Hp → Prop} {R : Result → Shared → Prop} {it D : Addr} {fp : List Addr} {tn : Nat → Heap → Prop} {J : It} {pins : List (Addr × Obj)} {σ : L2.St} {H : Hp} {s : Shared} (hx : X.xe = fun _ _ => False) (hc : X.calm = true)
    (he : TurnOfL X elt tg iter ifs gs scope pos d act) (hg : PG X tg g) (ht : PTs X ifs tt) (hm : ∀ D, PM X (act (.ref D)) (m D)) (I : L2.Inv X pins σ H s) (T : Turn X.prog X.w X.K tg J fp it tn) (st : tn 0 s.heap) (f : ∀ b ∈ fp, FpOk X pins H b) (w : CW J g tt (m D) N σ H)
    (hR : ∀ σ' H' s', L2.Inv X pins σ' H' s' → N σ' H' → R (.ok .next) s') : codeAny (model X.prog X.w) X.A (.compLoop (.ListComp elt gs scope pos) d (.ref it) (.ref D) X.env) R s := by
  obtain ⟨W, ⟨m0, w0⟩, turn⟩ := w
  have stat : ∀ {H' : Hp}, (∀ b ∈ fp, H' b = none) → ∀ b ∈ fp, FpOk X pins H' b := fun hn b hb => ⟨hn b hb, (f b hb).2⟩
  have xF : ∀ {α : Type} {t : Sem α} {Q Q' : α → Shared → Prop} {E : Value → Shared → Prop} {s : Shared}, wpAny (model X.prog X.w) X.A t Q X.xe s → (∀ a s, Q a s → Q' a s) → wpAny (model X.prog X.w) X.A t Q' E s := fun h k => by
    rw [hx] at h
    exact thnF h k
  refine clLoopL (he _ _) (fun n s' => ∃ i σ' H', L2.Inv X pins σ' H' s' ∧ tn i s'.heap ∧ (∀ b ∈ fp, H' b = none) ∧ W i n σ' H') ?_ m0 ⟨0, σ, H, I, st, fun b hb => (f b hb).1, w0⟩
  rintro n s3 ⟨i, σ3, H3, I3, st3, fr3, w3⟩
  rcases turn i n σ3 H3 w3 with ⟨stop, qn⟩ | ⟨go, Nx, hN, step⟩
  · refine thnF (T.done X rfl rfl rfl hc i pins s3 σ3 H3 (fun _ _ => False) I3 (stat fr3) st3 stop) fun r s4 ⟨hr, I4⟩ => ?_
    subst hr
    exact hR _ _ _ I4 qn
  · refine thnF (T.item X rfl rfl rfl hc i pins s3 σ3 H3 (fun _ _ => False) I3 (stat fr3) st3 go) fun r s4 ⟨u, hr, h4⟩ => ?_
    subst hr
    refine thnF h4 fun _ s5 ⟨x, H5, I5, r5, y5, st5, fr5⟩ => ?_
    have I5' := I5.pinned (stat fr5) (T.obj _ _ st5)
    refine xF (hg.run _ s5 σ3 H5 x u _ I5' r5 (step x H5 y5)) fun _ s6 ⟨σ6, H6, I6, q6⟩ => ?_
    refine xF (ht.run _ s6 σ6 H6 _ I6 q6) fun b s7 ⟨H7, I7, q7⟩ => ?_
    have fin : ∀ {σ7 : L2.St} {H7 : Hp} {s7 : Shared}, L2.Inv X (pins ++ pinsAt fp s5.heap) σ7 H7 s7 → Nx σ7 H7 → ∃ m, m < n ∧ ∃ i σ' H', L2.Inv X pins σ' H' s7 ∧ tn i s7.heap ∧ (∀ b ∈ fp, H' b = none) ∧ W i m σ' H' := fun {σ7 H7 s7} I7 n7 => by
      obtain ⟨m', hm, w7⟩ := hN σ7 H7 n7
      refine ⟨m', hm, i + 1, σ7, H7, I7.unpinned, T.keep _ _ _ st5 fun b hb o e => (I7.pin (b, o) (List.mem_append_right _ (List.mem_append_right _ (mem_pinsAt hb e)))).1, fun b hb => ?_, w7⟩
      obtain ⟨o, e, d⟩ := T.obj _ _ st5 b hb
      exact (I7.pin (b, o) (List.mem_append_right _ (List.mem_append_right _ (mem_pinsAt hb e)))).2.1
    cases b with
    | false =>
      simp only [Bool.false_eq_true, if_false] at q7 ⊢
      exact fin I7 q7
    | true =>
      simp only [if_true] at q7 ⊢
      exact xF ((hm D).run _ s7 σ6 H7 _ I7 q7) fun _ s8 ⟨σ8, H8, I8, q8⟩ => fin I8 q8
/-- a clause within the first -/
theorem pm_innerL {wi : TI} {g : TG} {tt : TT} {m : Addr → TM} (hx : X.xe = fun _ _ => False) (hc : X.calm = true) (hgd : gs[d]? = some ⟨tg, iter, ifs, 0⟩) (he : TurnOfL X elt tg iter ifs gs scope pos d act) (hi : PI X tg iter wi) (hg : PG X tg g) (ht : PTs X ifs tt) (hm : ∀ D, PM X (act (.ref D)) (m D))
    (hs : ∀ env x, foldedSetIterable iter env x = pure x) (D : Addr) :
    PM X (do
      let x ← eval iter X.env
      standAt iter.pos
      let x ← foldedSetIterable iter X.env x
      let _ ← runOwn (.compStart (.ListComp elt gs scope pos) d (← holding [x] (pyIter x)) (.ref D) X.env) X.env) (tCl wi g tt (m D)) := by
  refine ⟨fun pins s σ H N I h => ?_⟩
  refine wpAny_bind (thn (hi.run pins s σ H _ I h) fun xv s1 hx1 => ?_)
  refine wpAny_bind (wpAny_standAt (wpAny_bind (wpAny_of_eq (hs _ xv) (wpAny_bind (wpAny_holding (thn hx1 fun itv s2 h2 => ?_))))))
  obtain ⟨it, fp, tn, J, H2, e, I2, T, st2, f2, q⟩ := h2
  subst e
  refine wpAny_bind (wpAny_runOwn ?_)
  rw [Around.mark_none]
  have l : codeAny (model X.prog X.w) X.A (.compLoop (.ListComp elt gs scope pos) d (.ref it) (.ref D) X.env) (fun r s' => match r with
      | .ok _ => ∃ σ' H', L2.Inv X pins σ' H' s' ∧ N σ' H'
      | .error _ => False) s2 := cl_runL hx hc he hg ht hm I2 T st2 f2 q fun σ' H' s' I' n' => ⟨σ', H', I', n'⟩
  refine codeAny_mono (clStartL hgd rfl l (T.self X.A 0 _ _ _ st2 l)) fun r s' hr => ?_
  cases r with
  | ok f =>
    first
      | exact wpAny_pure hr
      | exact wpAny_bind (wpAny_pure (wpAny_pure hr))
  | error e => exact hr.elim
/-- the whole -/
theorem cp_coreL {pins : List (Addr × Obj)} {s : Shared} {σ : L2.St} {H : Hp} {Q : VK} {gr : List Comprehension} {own : List (Str × Nat)} {pos' : Pos} {wi : TI} {g : TG} {tt : TT} {m : Addr → TM} {act : Env → Value → Sem Unit} {use : Option (Value → Sem Unit)} {Qf : Value → Shared → Prop}
    (hc : X.calm = true) (hN : X.N.Nodup) (I : L2.Inv X pins σ H s) (hi : PI X tg iter wi) (ok : BlkOk X.N X.env.scope scope own)
    (he : ∀ (s : Shared) (H : Hp) (C : Addr) (cl : List (Str × Addr)) (fp : List Addr), TurnOfL (X.blk s H scope (compEnvC scope cl C X.env) fp) elt tg iter ifs (⟨tg, iter, ifs, 0⟩ :: gr) scope pos 0 (act (compEnvC scope cl C X.env)))
    (hg : ∀ (s : Shared) (H : Hp) (C : Addr) (cl : List (Str × Addr)) (fp : List Addr), PG (X.blk s H scope (compEnvC scope cl C X.env) fp) tg g) (ht : ∀ (s : Shared) (H : Hp) (C : Addr) (cl : List (Str × Addr)) (fp : List Addr), PTs (X.blk s H scope (compEnvC scope cl C X.env) fp) ifs tt)
    (hm : ∀ (s : Shared) (H : Hp) (C : Addr) (cl : List (Str × Addr)) (fp : List Addr) (D : Addr), PM (X.blk s H scope (compEnvC scope cl C X.env) fp) (act (compEnvC scope cl C X.env) (.ref D)) (m D)) (hs : ∀ x, foldedSetIterable iter X.env x = pure x)
    (h : tCp (newL X.w) wi g tt m (own.map (·.2)) σ H Q)
    (hRR : ∀ D C s' n H', L2.Inv X pins σ H' s' → Q (.ref D) H' → s'.heap.Ns C n → FpOk X pins H' C → compPost (model X.prog X.w) X.A X.xe use Qf (.ref D) C (.ok .next) s') :
    wpAny (model X.prog X.w) X.A (comprehension (.ListComp elt (⟨tg, iter, ifs, 0⟩ :: gr) scope pos) scope X.env pos' (newList []) false (eval iter X.env) use) Qf X.xe s := by
  have hfree : ∀ y ∈ scope.names, y.2 = .free → ∃ c, X.env.cells.lookup y.1 = some c := fun y hy e => by
    rcases ok.free y hy e with k | k
    · exact I.ok.has _ (.inl k)
    · exact I.ok.has _ (.inr k)
  refine wpAny_comprehension_free (use := use) rfl hs (closure_ok hfree) ok.kind (fun y hy e => by rw [ok.uniq y hy, e])
    (thn (hi.run pins s σ H _ I h) fun xv s1 hx => thn hx fun itv s2 h2 => ?_)
  obtain ⟨it, fp, tn, J, H2, e, I2, T, st2, f2, q⟩ := h2
  subst e
  refine wpAny_newObj_type (newEnv_comp ?_) (by show 0 ≤ sizeLine; decide)
  generalize hD : s2.heap.objs.size = D
  have hDn : H2 D = none := I2.hok.fresh (Nat.le_of_eq hD)
  have q := q D hDn (by
    have h1 := I2.big
    rw [hD] at h1
    simpa using Nat.ne_of_gt h1)
  generalize hs3 : ({ s2 with heap := s2.heap.push { cls := .type "list", data := .seq ([] : List Value).toArray } } : Shared) = s3
  have I3 : L2.Inv X pins σ (upd H2 D (newL X.w D)) s3 := by
    rw [← hs3]
    refine I2.laid (t' := s2.toks) (fun b o e => Heap.get?_push_of_some _ e) (Nat.le_of_eq hD) ?_
    rw [← hD]
    exact ⟨Nat.zero_le _, [], 0, .nil, Heap.get?_push_size _ rfl⟩
  have h3 : s3.heap = s2.heap.push { cls := .type "list", data := .seq ([] : List Value).toArray } := by rw [← hs3]
  have sz : ∀ b ∈ fp, b < s2.heap.objs.size := fun b hb => by
    obtain ⟨o, e, _⟩ := T.obj _ _ st2 b hb
    exact Heap.lt_size e
  have f3 : ∀ b ∈ fp, FpOk X pins (upd H2 D (newL X.w D)) b ∧ b < s3.heap.objs.size := fun b hb => by
    have hlt := sz b hb
    refine ⟨⟨?_, (f2 b hb).2⟩, by rw [h3, Heap.size_push]; exact Nat.lt_succ_of_lt hlt⟩
    rw [upd_ne (by rw [← hD]; exact Nat.ne_of_lt hlt)]
    exact (f2 b hb).1
  have st3 : tn 0 s3.heap := T.keep _ _ _ st2 fun b _ o e => by rw [h3]; exact Heap.get?_push_of_some _ e
  have I4 := block_start I3 ok hN f3
  generalize hcl : cellsFrom (s3.heap.objs.size + 1) scope.names (cloFrom X.env.cells scope.names []) = cl at I4
  have pn := he s3 (upd H2 D (newL X.w D)) s3.heap.objs.size cl fp
  have pg := hg s3 (upd H2 D (newL X.w D)) s3.heap.objs.size cl fp
  have pt := ht s3 (upd H2 D (newL X.w D)) s3.heap.objs.size cl fp
  have pm := hm s3 (upd H2 D (newL X.w D)) s3.heap.objs.size cl fp
  show codeAny _ _ (.compStart (.ListComp elt (⟨tg, iter, ifs, 0⟩ :: gr) scope pos) 0 (.ref it) (.ref D) (compEnvC scope cl s3.heap.objs.size X.env)) (compPost (model X.prog X.w) X.A X.xe use Qf (.ref D) s3.heap.objs.size) { s3 with heap := pushCells (s3.heap.push { cls := .type "dict", data := .dict #[] }) scope.names }
  have nfp : ∀ b ∈ fp, (upd H2 D (newL X.w D)) b = none := fun b hb => (f3 b hb).1.1
  generalize hs4 : ({ s3 with heap := pushCells (s3.heap.push { cls := .type "dict", data := .dict #[] }) scope.names } : Shared) = s4 at I4 ⊢
  have st4 : tn 0 s4.heap := T.keep _ _ _ st3 fun b _ o e => by rw [← hs4]; exact pushCells_keeps _ _ _ _ (Heap.get?_push_of_some _ e)
  have stat : ∀ b ∈ fp, FpOk (X.blk s3 (upd H2 D (newL X.w D)) scope (compEnvC scope cl s3.heap.objs.size X.env) fp) [] (upd H2 D (newL X.w D)) b := fun b hb =>
    ⟨nfp b hb, (I4.ok.exf b hb).1, I4.ok.exfs b hb, .inl hb, fun x c e => (I4.ok.exf b hb).2 x c e, fun p hp => absurd (show p ∈ ([] : List (Addr × Obj)) ++ [] from hp) (by simp)⟩
  have loop : codeAny (model X.prog X.w) X.A (.compLoop (.ListComp elt (⟨tg, iter, ifs, 0⟩ :: gr) scope pos) 0 (.ref it) (.ref D) (compEnvC scope cl s3.heap.objs.size X.env)) (compPost (model X.prog X.w) X.A X.xe use Qf (.ref D) s3.heap.objs.size) s4 := by
    refine cl_runL (X := X.blk s3 (upd H2 D (newL X.w D)) scope (compEnvC scope cl s3.heap.objs.size X.env) fp) rfl hc pn pg pt pm I4 T st4 stat q fun σ5 H5 s6 I6 qq => ?_
    have I7 : L2.Inv X pins σ H5 s6 := I3.call' (ch := fp) I6.os I6.base I6.hok I6.bare fun b hb => ⟨(f3 b hb).1.2.2.2.1, (f3 b hb).1.2.1, (f3 b hb).1.2.2.2.2.1, (f3 b hb).1.2.2.2.2.2⟩
    have nC : H5 s3.heap.objs.size = none := I6.free
    obtain ⟨n, hn, _⟩ := I6.loc
    exact hRR D s3.heap.objs.size s6 n H5 I7 qq hn (I3.fpOk (Nat.le_refl _) nC)
  exact clStartL rfl rfl loop (T.self X.A 0 _ _ _ st4 loop)
/-- as a value -/
theorem pe_cpL {gr : List Comprehension} {own : List (Str × Nat)} {wi : TI} {g : TG} {tt : TT} {m : Addr → TM} {act : Env → Value → Sem Unit} (hc : X.calm = true) (hN : X.N.Nodup) (hi : PI X tg iter wi) (ok : BlkOk X.N X.env.scope scope own)
    (he : ∀ (s : Shared) (H : Hp) (C : Addr) (cl : List (Str × Addr)) (fp : List Addr), TurnOfL (X.blk s H scope (compEnvC scope cl C X.env) fp) elt tg iter ifs (⟨tg, iter, ifs, 0⟩ :: gr) scope pos 0 (act (compEnvC scope cl C X.env)))
    (hg : ∀ (s : Shared) (H : Hp) (C : Addr) (cl : List (Str × Addr)) (fp : List Addr), PG (X.blk s H scope (compEnvC scope cl C X.env) fp) tg g) (ht : ∀ (s : Shared) (H : Hp) (C : Addr) (cl : List (Str × Addr)) (fp : List Addr), PTs (X.blk s H scope (compEnvC scope cl C X.env) fp) ifs tt)
    (hm : ∀ (s : Shared) (H : Hp) (C : Addr) (cl : List (Str × Addr)) (fp : List Addr) (D : Addr), PM (X.blk s H scope (compEnvC scope cl C X.env) fp) (act (compEnvC scope cl C X.env) (.ref D)) (m D)) (hs : ∀ x, foldedSetIterable iter X.env x = pure x) :
    PE X (.ListComp elt (⟨tg, iter, ifs, 0⟩ :: gr) scope pos) (tCp (newL X.w) wi g tt m (own.map (·.2))) := by
  refine ⟨fun pins s σ H Q I h => ?_⟩
  rw [eval_ListComp]
  refine cp_coreL hc hN I hi ok he hg ht hm hs h fun D C s' n H' I' q hn f => ⟨n, hn, fun h'' sb => ?_⟩
  obtain ⟨f0, f1, f2, f3, f4, f5⟩ := f
  exact ⟨.ref D, H', I'.turned (t' := s'.toks) (fun b o hb e => (sb.2 b hb).trans e) f0 f1 f3 f4 f5, rfl, q⟩
/-- y = it, on one line -/
theorem ps_setCpL {i : Nat} {y : Str} {py spos : Pos} {gr : List Comprehension} {own : List (Str × Nat)} {wi : TI} {g : TG} {tt : TT} {m : Addr → TM} {act : Env → Value → Sem Unit} (hc : X.calm = true) (hN : X.N.Nodup) (hy : X.N[i]? = some y) (hyl : X.env.scope.names.lookup y = some .local)
    (hsw : swapsWith (.ListComp elt (⟨tg, iter, ifs, 0⟩ :: gr) scope pos) (some (.Name y py)) spos.line X.env = pure true) (hi : PI X tg iter wi) (ok : BlkOk X.N X.env.scope scope own)
    (he : ∀ (s : Shared) (H : Hp) (C : Addr) (cl : List (Str × Addr)) (fp : List Addr), TurnOfL (X.blk s H scope (compEnvC scope cl C X.env) fp) elt tg iter ifs (⟨tg, iter, ifs, 0⟩ :: gr) scope pos 0 (act (compEnvC scope cl C X.env)))
    (hg : ∀ (s : Shared) (H : Hp) (C : Addr) (cl : List (Str × Addr)) (fp : List Addr), PG (X.blk s H scope (compEnvC scope cl C X.env) fp) tg g) (ht : ∀ (s : Shared) (H : Hp) (C : Addr) (cl : List (Str × Addr)) (fp : List Addr), PTs (X.blk s H scope (compEnvC scope cl C X.env) fp) ifs tt)
    (hm : ∀ (s : Shared) (H : Hp) (C : Addr) (cl : List (Str × Addr)) (fp : List Addr) (D : Addr), PM (X.blk s H scope (compEnvC scope cl C X.env) fp) (act (compEnvC scope cl C X.env) (.ref D)) (m D)) (hs : ∀ x, foldedSetIterable iter X.env x = pure x) :
    PS X (.Assign [.Name y py] (.ListComp elt (⟨tg, iter, ifs, 0⟩ :: gr) scope pos) spos) (tAsg (tCp (newL X.w) wi g tt m (own.map (·.2))) (gName i)) := by
  refine ⟨fun pins s σ H D I h => ?_⟩
  rw [exec_Assign_Name_used _ _ _ _ hsw]
  refine wpAny_bind (wpAny_standAt (wpAny_bind ?_))
  show wpAny _ X.A (do let _ ← comprehension (.ListComp elt (⟨tg, iter, ifs, 0⟩ :: gr) scope pos) scope X.env (firstIterPos (⟨tg, iter, ifs, 0⟩ :: gr) pos) (newList []) false (eval iter X.env) (some (assign (.Name y py) X.env))) _ _ s
  have h : tCp (newL X.w) wi g tt m (own.map (·.2)) σ H (fun x H1 => gName i x σ H1 D.nx) := h
  refine wpAny_bind (thn (cp_coreL (Qf := fun _ s' => SP X pins D .next s') hc hN I hi ok he hg ht hm hs h fun L C s' n H' I' q hn f => ?_) fun _ s' hq => wpAny_pure (wpAny_pure hq))
  show wpAny _ _ (assign (.Name y py) X.env (.ref L)) _ _ _
  refine wpAny_assign_Name (store_ok2 (v := V.ref L) I' hN hy (.inl hyl) rfl (fun s2 I2 ⟨a, sb, ha⟩ => ?_) (.inr hyl))
  obtain ⟨f0, f1, f2, f3, f4, f5⟩ := f
  have haC : C ≠ a := by
    rcases ha with z | z
    · rw [z]; exact f1
    · exact fun e => f4 y a z e.symm
  refine ⟨n, hn.sameBut sb haC, fun h3 sb3 => ?_⟩
  exact ⟨_, H', I2.turned (t' := s2.toks) (fun b o hb e => (sb3.2 b hb).trans e) f0 f1 f3 f4 f5, q⟩
end

section
variable {prog : Program} {w : World} {A : Around} {R : Result → Shared → Prop} {s : Shared} {kx vx tg iter : Expr} {ifs : List Expr} {gs : List Comprehension} {scope : Scope} {pos : Pos} {it acc : Value} {env : Env} {d : Nat} {act : Sem Unit}
/-- the loop of a clause's turns -/
theorem clLoopD (he : compTurn (.DictComp kx vx gs scope pos) d it acc env = (do
      standAt iter.pos
      match ← pyNext it with
      | none => pure (.done .next)
      | some v =>
        letOwnedTupleGo tg it v
        assign tg env v
        let mut ok := true
        for c in ifs do
          if ok then ok ← isTrue c env (eval c env)
        if ok then act
        again (.compLoop (.DictComp kx vx gs scope pos) d it acc env))) (I : Nat → Shared → Prop)
    (turn : ∀ n s, I n s → wpAny (model prog w) A (pyNext it) (fun r s₁ => match r with
      | none => R (.ok .next) s₁
      | some v => wpAny (model prog w) A (letOwnedTupleGo tg it v) (fun _ s₁' => wpAny (model prog w) A (assign tg env v) (fun _ s₂ =>
          wpAny (model prog w) A (forIn ifs true fun c r => if r = true then do let ok ← isTrue c env (eval c env); pure (ForInStep.yield ok) else pure (ForInStep.yield r)) (fun ok s₃ =>
            if ok = true then wpAny (model prog w) A act (fun _ s₆ => ∃ m, m < n ∧ I m s₆) (notedBy (model prog w) A env fun e s' => R (.error e) s') s₃
            else ∃ m, m < n ∧ I m s₃) (notedBy (model prog w) A env fun e s' => R (.error e) s') s₂) (notedBy (model prog w) A env fun e s' => R (.error e) s') s₁') (notedBy (model prog w) A env fun e s' => R (.error e) s') s₁) (notedBy (model prog w) A env fun e s' => R (.error e) s') s)
    (n : Nat) (h : I n s) :
    codeAny (model prog w) A (.compLoop (.DictComp kx vx gs scope pos) d it acc env) R s := by
  refine codeAny_loop rfl I (fun n s hI => ?_) n h
  show wpAny _ A ((compTurn (.DictComp kx vx gs scope pos) d it acc env).onRaise (fun x => do noteFrame x env; theTreesLotGoes x)) _ _ s
  refine wpAny_noted ?_
  rw [he]
  refine wpAny_bind (wpAny_standAt (wpAny_bind (wpAny_mono (turn n s hI) (fun r s₁ h₁ => ?_) fun _ _ h' => h')))
  cases r with
  | none => exact wpAny_pure h₁
  | some v =>
    refine wpAny_bind (wpAny_mono h₁ (fun _ s₁' h₁' => ?_) fun _ _ h' => h')
    refine wpAny_bind (wpAny_mono h₁' (fun _ s₂ h₂ => wpAny_bind (wpAny_mono h₂ (fun ok s₃ h₃ => ?_) fun _ _ h' => h')) fun _ _ h' => h')
    cases ok with
    | false => exact wpAny_pure ⟨rfl, h₃⟩
    | true => exact wpAny_bind (wpAny_mono h₃ (fun _ s₆ h₆ => wpAny_pure ⟨rfl, h₆⟩) fun _ _ h' => h')
theorem clStartD {g : Comprehension} (hgd : gs[d]? = some g) (ha : g.is_async = 0) (h0 : codeAny (model prog w) A (.compLoop (.DictComp kx vx gs scope pos) d it acc env) R s)
    (h : wpAny (model prog w) A (pyIter it) (fun it' s' => codeAny (model prog w) A (.compLoop (.DictComp kx vx gs scope pos) d it' acc env) R s')
      (notedBy (model prog w) A env fun x s' => R (.error x) s') s) :
    codeAny (model prog w) A (.compStart (.DictComp kx vx gs scope pos) d it acc env) R s := by
  refine codeAny_of_tree ?_
  show wpAny _ A ((compStart (.DictComp kx vx gs scope pos) d it acc env).onRaise (fun x => do noteFrame x env; standAt theWindowsPlace)) _ _ s
  refine wpAny_notedAt ?_
  unfold compStart
  have hc : (clausesOf (.DictComp kx vx gs scope pos))[d]? = some g := hgd
  have ha' : ((some g).elim false (·.is_async != 0) : Bool) = false := by show (g.is_async != 0) = false; rw [ha]; rfl
  rw [hc, if_neg (by rw [ha']; exact Bool.false_ne_true)]
  show wpAny _ A (ask >>= _) _ _ s
  refine wpAny_bind (wpAny_askSetting (wpAny_ite ?_))
  split
  · first
      | exact wpAny_bind (wpAny_pure (wpAny_pure (And.intro rfl h0)))
      | exact wpAny_pure (And.intro rfl h0)
  · refine wpAny_bind (wpAny_rule ?_)
    dsimp only
    exact wpAny_bind (wpAny_standAt (wpAny_bind (wpAny_mono h (fun it' s' h' => wpAny_pure (And.intro rfl h')) fun _ _ x => x)))
end
section
variable {X : Cx} {kx vx tg iter : Expr} {ifs : List Expr} {gs : List Comprehension} {scope : Scope} {pos : Pos} {d : Nat} {act : Value → Sem Unit}
/-- what a clause's turn is -/
abbrev TurnOfD (X : Cx) (kx vx tg iter : Expr) (ifs : List Expr) (gs : List Comprehension) (scope : Scope) (pos : Pos) (d : Nat) (act : Value → Sem Unit) : Prop := ∀ it acc, compTurn (.DictComp kx vx gs scope pos) d it acc X.env = (do
      standAt iter.pos
      match ← pyNext it with
      | none => pure (.done .next)
      | some v =>
        letOwnedTupleGo tg it v
        assign tg X.env v
        let mut ok := true
        for c in ifs do
          if ok then ok ← isTrue c X.env (eval c X.env)
        if ok then act acc
        again (.compLoop (.DictComp kx vx gs scope pos) d it acc X.env))
theorem cl_runD {g : TG} {tt : TT} {m : Addr → TM} {N : L2.St → Hp → Prop} {R : Result → Shared → Prop} {it D : Addr} {fp : List Addr} {tn : Nat → Heap → Prop} {J : It} {pins : List (Addr × Obj)} {σ : L2.St} {H : Hp} {s : Shared} (hx : X.xe = fun _ _ => False) (hc : X.calm = true)
    (he : TurnOfD X kx vx tg iter ifs gs scope pos d act) (hg : PG X tg g) (ht : PTs X ifs tt) (hm : ∀ D, PM X (act (.ref D)) (m D)) (I : L2.Inv X pins σ H s) (T : Turn X.prog X.w X.K tg J fp it tn) (st : tn 0 s.heap) (f : ∀ b ∈ fp, FpOk X pins H b) (w : CW J g tt (m D) N σ H)
    (hR : ∀ σ' H' s', L2.Inv X pins σ' H' s' → N σ' H' → R (.ok .next) s') : codeAny (model X.prog X.w) X.A (.compLoop (.DictComp kx vx gs scope pos) d (.ref it) (.ref D) X.env) R s := by
  obtain ⟨W, ⟨m0, w0⟩, turn⟩ := w
  have stat : ∀ {H' : Hp}, (∀ b ∈ fp, H' b = none) → ∀ b ∈ fp, FpOk X pins H' b := fun hn b hb => ⟨hn b hb, (f b hb).2⟩
  have xF : ∀ {α : Type} {t : Sem α} {Q Q' : α → Shared → Prop} {E : Value → Shared → Prop} {s : Shared}, wpAny (model X.prog X.w) X.A t Q X.xe s → (∀ a s, Q a s → Q' a s) → wpAny (model X.prog X.w) X.A t Q' E s := fun h k => by
    rw [hx] at h
    exact thnF h k
  refine clLoopD (he _ _) (fun n s' => ∃ i σ' H', L2.Inv X pins σ' H' s' ∧ tn i s'.heap ∧ (∀ b ∈ fp, H' b = none) ∧ W i n σ' H') ?_ m0 ⟨0, σ, H, I, st, fun b hb => (f b hb).1, w0⟩
  rintro n s3 ⟨i, σ3, H3, I3, st3, fr3, w3⟩
  rcases turn i n σ3 H3 w3 with ⟨stop, qn⟩ | ⟨go, Nx, hN, step⟩
  · refine thnF (T.done X rfl rfl rfl hc i pins s3 σ3 H3 (fun _ _ => False) I3 (stat fr3) st3 stop) fun r s4 ⟨hr, I4⟩ => ?_
    subst hr
    exact hR _ _ _ I4 qn
  · refine thnF (T.item X rfl rfl rfl hc i pins s3 σ3 H3 (fun _ _ => False) I3 (stat fr3) st3 go) fun r s4 ⟨u, hr, h4⟩ => ?_
    subst hr
    refine thnF h4 fun _ s5 ⟨x, H5, I5, r5, y5, st5, fr5⟩ => ?_
    have I5' := I5.pinned (stat fr5) (T.obj _ _ st5)
    refine xF (hg.run _ s5 σ3 H5 x u _ I5' r5 (step x H5 y5)) fun _ s6 ⟨σ6, H6, I6, q6⟩ => ?_
    refine xF (ht.run _ s6 σ6 H6 _ I6 q6) fun b s7 ⟨H7, I7, q7⟩ => ?_
    have fin : ∀ {σ7 : L2.St} {H7 : Hp} {s7 : Shared}, L2.Inv X (pins ++ pinsAt fp s5.heap) σ7 H7 s7 → Nx σ7 H7 → ∃ m, m < n ∧ ∃ i σ' H', L2.Inv X pins σ' H' s7 ∧ tn i s7.heap ∧ (∀ b ∈ fp, H' b = none) ∧ W i m σ' H' := fun {σ7 H7 s7} I7 n7 => by
      obtain ⟨m', hm, w7⟩ := hN σ7 H7 n7
      refine ⟨m', hm, i + 1, σ7, H7, I7.unpinned, T.keep _ _ _ st5 fun b hb o e => (I7.pin (b, o) (List.mem_append_right _ (List.mem_append_right _ (mem_pinsAt hb e)))).1, fun b hb => ?_, w7⟩
      obtain ⟨o, e, d⟩ := T.obj _ _ st5 b hb
      exact (I7.pin (b, o) (List.mem_append_right _ (List.mem_append_right _ (mem_pinsAt hb e)))).2.1
    cases b with
    | false =>
      simp only [Bool.false_eq_true, if_false] at q7 ⊢
      exact fin I7 q7
    | true =>
      simp only [if_true] at q7 ⊢
      exact xF ((hm D).run _ s7 σ6 H7 _ I7 q7) fun _ s8 ⟨σ8, H8, I8, q8⟩ => fin I8 q8
/-- a clause within the first -/
theorem pm_innerD {wi : TI} {g : TG} {tt : TT} {m : Addr → TM} (hx : X.xe = fun _ _ => False) (hc : X.calm = true) (hgd : gs[d]? = some ⟨tg, iter, ifs, 0⟩) (he : TurnOfD X kx vx tg iter ifs gs scope pos d act) (hi : PI X tg iter wi) (hg : PG X tg g) (ht : PTs X ifs tt) (hm : ∀ D, PM X (act (.ref D)) (m D))
    (hs : ∀ env x, foldedSetIterable iter env x = pure x) (D : Addr) :
    PM X (do
      let x ← eval iter X.env
      standAt iter.pos
      let x ← foldedSetIterable iter X.env x
      let _ ← runOwn (.compStart (.DictComp kx vx gs scope pos) d (← holding [x] (pyIter x)) (.ref D) X.env) X.env) (tCl wi g tt (m D)) := by
  refine ⟨fun pins s σ H N I h => ?_⟩
  refine wpAny_bind (thn (hi.run pins s σ H _ I h) fun xv s1 hx1 => ?_)
  refine wpAny_bind (wpAny_standAt (wpAny_bind (wpAny_of_eq (hs _ xv) (wpAny_bind (wpAny_holding (thn hx1 fun itv s2 h2 => ?_))))))
  obtain ⟨it, fp, tn, J, H2, e, I2, T, st2, f2, q⟩ := h2
  subst e
  refine wpAny_bind (wpAny_runOwn ?_)
  rw [Around.mark_none]
  have l : codeAny (model X.prog X.w) X.A (.compLoop (.DictComp kx vx gs scope pos) d (.ref it) (.ref D) X.env) (fun r s' => match r with
      | .ok _ => ∃ σ' H', L2.Inv X pins σ' H' s' ∧ N σ' H'
      | .error _ => False) s2 := cl_runD hx hc he hg ht hm I2 T st2 f2 q fun σ' H' s' I' n' => ⟨σ', H', I', n'⟩
  refine codeAny_mono (clStartD hgd rfl l (T.self X.A 0 _ _ _ st2 l)) fun r s' hr => ?_
  cases r with
  | ok f =>
    first
      | exact wpAny_pure hr
      | exact wpAny_bind (wpAny_pure (wpAny_pure hr))
  | error e => exact hr.elim
/-- the whole -/
theorem cp_coreD {pins : List (Addr × Obj)} {s : Shared} {σ : L2.St} {H : Hp} {Q : VK} {gr : List Comprehension} {own : List (Str × Nat)} {pos' : Pos} {wi : TI} {g : TG} {tt : TT} {m : Addr → TM} {act : Env → Value → Sem Unit} {use : Option (Value → Sem Unit)} {Qf : Value → Shared → Prop}
    (hc : X.calm = true) (hN : X.N.Nodup) (I : L2.Inv X pins σ H s) (hi : PI X tg iter wi) (ok : BlkOk X.N X.env.scope scope own)
    (he : ∀ (s : Shared) (H : Hp) (C : Addr) (cl : List (Str × Addr)) (fp : List Addr), TurnOfD (X.blk s H scope (compEnvC scope cl C X.env) fp) kx vx tg iter ifs (⟨tg, iter, ifs, 0⟩ :: gr) scope pos 0 (act (compEnvC scope cl C X.env)))
    (hg : ∀ (s : Shared) (H : Hp) (C : Addr) (cl : List (Str × Addr)) (fp : List Addr), PG (X.blk s H scope (compEnvC scope cl C X.env) fp) tg g) (ht : ∀ (s : Shared) (H : Hp) (C : Addr) (cl : List (Str × Addr)) (fp : List Addr), PTs (X.blk s H scope (compEnvC scope cl C X.env) fp) ifs tt)
    (hm : ∀ (s : Shared) (H : Hp) (C : Addr) (cl : List (Str × Addr)) (fp : List Addr) (D : Addr), PM (X.blk s H scope (compEnvC scope cl C X.env) fp) (act (compEnvC scope cl C X.env) (.ref D)) (m D)) (hs : ∀ x, foldedSetIterable iter X.env x = pure x)
    (h : tCp (newD X.w) wi g tt m (own.map (·.2)) σ H Q)
    (hRR : ∀ D C s' n H', L2.Inv X pins σ H' s' → Q (.ref D) H' → s'.heap.Ns C n → FpOk X pins H' C → compPost (model X.prog X.w) X.A X.xe use Qf (.ref D) C (.ok .next) s') :
    wpAny (model X.prog X.w) X.A (comprehension (.DictComp kx vx (⟨tg, iter, ifs, 0⟩ :: gr) scope pos) scope X.env pos' newDict false (eval iter X.env) use) Qf X.xe s := by
  have hfree : ∀ y ∈ scope.names, y.2 = .free → ∃ c, X.env.cells.lookup y.1 = some c := fun y hy e => by
    rcases ok.free y hy e with k | k
    · exact I.ok.has _ (.inl k)
    · exact I.ok.has _ (.inr k)
  refine wpAny_comprehension_free (use := use) rfl hs (closure_ok hfree) ok.kind (fun y hy e => by rw [ok.uniq y hy, e])
    (thn (hi.run pins s σ H _ I h) fun xv s1 hx => thn hx fun itv s2 h2 => ?_)
  obtain ⟨it, fp, tn, J, H2, e, I2, T, st2, f2, q⟩ := h2
  subst e
  refine wpAny_newObj_type (newEnv_comp ?_) 
  generalize hD : s2.heap.objs.size = D
  have hDn : H2 D = none := I2.hok.fresh (Nat.le_of_eq hD)
  have q := q D hDn (by
    have h1 := I2.big
    rw [hD] at h1
    simpa using Nat.ne_of_gt h1)
  generalize hs3 : ({ s2 with heap := s2.heap.push { cls := .type "dict", data := .dict #[] } } : Shared) = s3
  have I3 : L2.Inv X pins σ (upd H2 D (newD X.w D)) s3 := by
    rw [← hs3]
    refine I2.laid (t' := s2.toks) (fun b o e => Heap.get?_push_of_some _ e) (Nat.le_of_eq hD) ?_
    rw [← hD]
    exact newD_ok
  have h3 : s3.heap = s2.heap.push { cls := .type "dict", data := .dict #[] } := by rw [← hs3]
  have sz : ∀ b ∈ fp, b < s2.heap.objs.size := fun b hb => by
    obtain ⟨o, e, _⟩ := T.obj _ _ st2 b hb
    exact Heap.lt_size e
  have f3 : ∀ b ∈ fp, FpOk X pins (upd H2 D (newD X.w D)) b ∧ b < s3.heap.objs.size := fun b hb => by
    have hlt := sz b hb
    refine ⟨⟨?_, (f2 b hb).2⟩, by rw [h3, Heap.size_push]; exact Nat.lt_succ_of_lt hlt⟩
    rw [upd_ne (by rw [← hD]; exact Nat.ne_of_lt hlt)]
    exact (f2 b hb).1
  have st3 : tn 0 s3.heap := T.keep _ _ _ st2 fun b _ o e => by rw [h3]; exact Heap.get?_push_of_some _ e
  have I4 := block_start I3 ok hN f3
  generalize hcl : cellsFrom (s3.heap.objs.size + 1) scope.names (cloFrom X.env.cells scope.names []) = cl at I4
  have pn := he s3 (upd H2 D (newD X.w D)) s3.heap.objs.size cl fp
  have pg := hg s3 (upd H2 D (newD X.w D)) s3.heap.objs.size cl fp
  have pt := ht s3 (upd H2 D (newD X.w D)) s3.heap.objs.size cl fp
  have pm := hm s3 (upd H2 D (newD X.w D)) s3.heap.objs.size cl fp
  show codeAny _ _ (.compStart (.DictComp kx vx (⟨tg, iter, ifs, 0⟩ :: gr) scope pos) 0 (.ref it) (.ref D) (compEnvC scope cl s3.heap.objs.size X.env)) (compPost (model X.prog X.w) X.A X.xe use Qf (.ref D) s3.heap.objs.size) { s3 with heap := pushCells (s3.heap.push { cls := .type "dict", data := .dict #[] }) scope.names }
  have nfp : ∀ b ∈ fp, (upd H2 D (newD X.w D)) b = none := fun b hb => (f3 b hb).1.1
  generalize hs4 : ({ s3 with heap := pushCells (s3.heap.push { cls := .type "dict", data := .dict #[] }) scope.names } : Shared) = s4 at I4 ⊢
  have st4 : tn 0 s4.heap := T.keep _ _ _ st3 fun b _ o e => by rw [← hs4]; exact pushCells_keeps _ _ _ _ (Heap.get?_push_of_some _ e)
  have stat : ∀ b ∈ fp, FpOk (X.blk s3 (upd H2 D (newD X.w D)) scope (compEnvC scope cl s3.heap.objs.size X.env) fp) [] (upd H2 D (newD X.w D)) b := fun b hb =>
    ⟨nfp b hb, (I4.ok.exf b hb).1, I4.ok.exfs b hb, .inl hb, fun x c e => (I4.ok.exf b hb).2 x c e, fun p hp => absurd (show p ∈ ([] : List (Addr × Obj)) ++ [] from hp) (by simp)⟩
  have loop : codeAny (model X.prog X.w) X.A (.compLoop (.DictComp kx vx (⟨tg, iter, ifs, 0⟩ :: gr) scope pos) 0 (.ref it) (.ref D) (compEnvC scope cl s3.heap.objs.size X.env)) (compPost (model X.prog X.w) X.A X.xe use Qf (.ref D) s3.heap.objs.size) s4 := by
    refine cl_runD (X := X.blk s3 (upd H2 D (newD X.w D)) scope (compEnvC scope cl s3.heap.objs.size X.env) fp) rfl hc pn pg pt pm I4 T st4 stat q fun σ5 H5 s6 I6 qq => ?_
    have I7 : L2.Inv X pins σ H5 s6 := I3.call' (ch := fp) I6.os I6.base I6.hok I6.bare fun b hb => ⟨(f3 b hb).1.2.2.2.1, (f3 b hb).1.2.1, (f3 b hb).1.2.2.2.2.1, (f3 b hb).1.2.2.2.2.2⟩
    have nC : H5 s3.heap.objs.size = none := I6.free
    obtain ⟨n, hn, _⟩ := I6.loc
    exact hRR D s3.heap.objs.size s6 n H5 I7 qq hn (I3.fpOk (Nat.le_refl _) nC)
  exact clStartD rfl rfl loop (T.self X.A 0 _ _ _ st4 loop)
/-- as a value -/
theorem pe_cpD {gr : List Comprehension} {own : List (Str × Nat)} {wi : TI} {g : TG} {tt : TT} {m : Addr → TM} {act : Env → Value → Sem Unit} (hc : X.calm = true) (hN : X.N.Nodup) (hi : PI X tg iter wi) (ok : BlkOk X.N X.env.scope scope own)
    (he : ∀ (s : Shared) (H : Hp) (C : Addr) (cl : List (Str × Addr)) (fp : List Addr), TurnOfD (X.blk s H scope (compEnvC scope cl C X.env) fp) kx vx tg iter ifs (⟨tg, iter, ifs, 0⟩ :: gr) scope pos 0 (act (compEnvC scope cl C X.env)))
    (hg : ∀ (s : Shared) (H : Hp) (C : Addr) (cl : List (Str × Addr)) (fp : List Addr), PG (X.blk s H scope (compEnvC scope cl C X.env) fp) tg g) (ht : ∀ (s : Shared) (H : Hp) (C : Addr) (cl : List (Str × Addr)) (fp : List Addr), PTs (X.blk s H scope (compEnvC scope cl C X.env) fp) ifs tt)
    (hm : ∀ (s : Shared) (H : Hp) (C : Addr) (cl : List (Str × Addr)) (fp : List Addr) (D : Addr), PM (X.blk s H scope (compEnvC scope cl C X.env) fp) (act (compEnvC scope cl C X.env) (.ref D)) (m D)) (hs : ∀ x, foldedSetIterable iter X.env x = pure x) :
    PE X (.DictComp kx vx (⟨tg, iter, ifs, 0⟩ :: gr) scope pos) (tCp (newD X.w) wi g tt m (own.map (·.2))) := by
  refine ⟨fun pins s σ H Q I h => ?_⟩
  rw [arm_eval_DictComp]
  refine cp_coreD hc hN I hi ok he hg ht hm hs h fun D C s' n H' I' q hn f => ⟨n, hn, fun h'' sb => ?_⟩
  obtain ⟨f0, f1, f2, f3, f4, f5⟩ := f
  exact ⟨.ref D, H', I'.turned (t' := s'.toks) (fun b o hb e => (sb.2 b hb).trans e) f0 f1 f3 f4 f5, rfl, q⟩
/-- y = it, on one line -/
theorem ps_setCpD {i : Nat} {y : Str} {py spos : Pos} {gr : List Comprehension} {own : List (Str × Nat)} {wi : TI} {g : TG} {tt : TT} {m : Addr → TM} {act : Env → Value → Sem Unit} (hc : X.calm = true) (hN : X.N.Nodup) (hy : X.N[i]? = some y) (hyl : X.env.scope.names.lookup y = some .local)
    (hsw : swapsWith (.DictComp kx vx (⟨tg, iter, ifs, 0⟩ :: gr) scope pos) (some (.Name y py)) spos.line X.env = pure true) (hi : PI X tg iter wi) (ok : BlkOk X.N X.env.scope scope own)
    (he : ∀ (s : Shared) (H : Hp) (C : Addr) (cl : List (Str × Addr)) (fp : List Addr), TurnOfD (X.blk s H scope (compEnvC scope cl C X.env) fp) kx vx tg iter ifs (⟨tg, iter, ifs, 0⟩ :: gr) scope pos 0 (act (compEnvC scope cl C X.env)))
    (hg : ∀ (s : Shared) (H : Hp) (C : Addr) (cl : List (Str × Addr)) (fp : List Addr), PG (X.blk s H scope (compEnvC scope cl C X.env) fp) tg g) (ht : ∀ (s : Shared) (H : Hp) (C : Addr) (cl : List (Str × Addr)) (fp : List Addr), PTs (X.blk s H scope (compEnvC scope cl C X.env) fp) ifs tt)
    (hm : ∀ (s : Shared) (H : Hp) (C : Addr) (cl : List (Str × Addr)) (fp : List Addr) (D : Addr), PM (X.blk s H scope (compEnvC scope cl C X.env) fp) (act (compEnvC scope cl C X.env) (.ref D)) (m D)) (hs : ∀ x, foldedSetIterable iter X.env x = pure x) :
    PS X (.Assign [.Name y py] (.DictComp kx vx (⟨tg, iter, ifs, 0⟩ :: gr) scope pos) spos) (tAsg (tCp (newD X.w) wi g tt m (own.map (·.2))) (gName i)) := by
  refine ⟨fun pins s σ H D I h => ?_⟩
  rw [exec_Assign_Name_used _ _ _ _ hsw]
  refine wpAny_bind (wpAny_standAt (wpAny_bind ?_))
  show wpAny _ X.A (do let _ ← comprehension (.DictComp kx vx (⟨tg, iter, ifs, 0⟩ :: gr) scope pos) scope X.env (firstIterPos (⟨tg, iter, ifs, 0⟩ :: gr) pos) newDict false (eval iter X.env) (some (assign (.Name y py) X.env))) _ _ s
  have h : tCp (newD X.w) wi g tt m (own.map (·.2)) σ H (fun x H1 => gName i x σ H1 D.nx) := h
  refine wpAny_bind (thn (cp_coreD (Qf := fun _ s' => SP X pins D .next s') hc hN I hi ok he hg ht hm hs h fun L C s' n H' I' q hn f => ?_) fun _ s' hq => wpAny_pure (wpAny_pure hq))
  show wpAny _ _ (assign (.Name y py) X.env (.ref L)) _ _ _
  refine wpAny_assign_Name (store_ok2 (v := V.ref L) I' hN hy (.inl hyl) rfl (fun s2 I2 ⟨a, sb, ha⟩ => ?_) (.inr hyl))
  obtain ⟨f0, f1, f2, f3, f4, f5⟩ := f
  have haC : C ≠ a := by
    rcases ha with z | z
    · rw [z]; exact f1
    · exact fun e => f4 y a z e.symm
  refine ⟨n, hn.sameBut sb haC, fun h3 sb3 => ?_⟩
  exact ⟨_, H', I2.turned (t' := s2.toks) (fun b o hb e => (sb3.2 b hb).trans e) f0 f1 f3 f4 f5, q⟩
end
end DL

/-! The D layer, part 31: comprehensions over plain data. -/
namespace DL
open PySem PySem.Spec PyProof.Rows L2

abbrev TMD := D → En → (D → En → Prop) → Prop
abbrev noE : Qx := fun _ _ => False
section
variable {K : KW} {G : Gh} {F H F' H' : Hp} {σ σ' : L2.St} {en en' : En} {a : Addr} {d : D}
theorem Tmp.plus (T : Tmp K G F H σ en a d) (R : Rel K G F H σ en) : Rel K (G.plus H a) F H σ en :=
  { R with
    pr := fun b z => by
      by_cases h : b = a
      · subst h
        show H b = (if b = b then H b else G.H0 b) ∧ (if b = b then H b else G.H0 b) ≠ none ∧ _
        rw [if_pos rfl]
        exact ⟨rfl, T.at_.there, fun _ => T.nf⟩
      · show H b = (if b = a then H a else G.H0 b) ∧ (if b = a then H a else G.H0 b) ≠ none ∧ _
        rw [if_neg h]
        exact R.pr b (z.elim id fun q => absurd q h)
    ow := fun i b d e => by
      obtain ⟨c, h1, h2, h3, h4, h5⟩ := R.ow i b d e
      exact ⟨c, h1, h2, h3, fun z => z.elim h4 fun q => T.ns i b d e (by rw [← q]; exact h1), h5⟩ }
theorem Tmp.minus (T : Tmp K G F H σ en a d) (h0 : G.F0 a = none) (R : Rel K (G.plus H a) F' H' σ' en') (e : Same F F') : Rel K G F' H' σ' en' ∧ Tmp K G F' H' σ' en' a d := by
  have p := R.pr a (.inr rfl)
  have p1 : H' a = (if a = a then H a else G.H0 a) := p.1
  rw [if_pos rfl] at p1
  have na : F' a = none := p.2.2 h0
  refine ⟨{ R with
    pr := fun b z => ?_
    ow := fun i b d k => ?_ }, na, T.at_.move e p1, T.n0, fun i b d k1 k2 => ?_⟩
  · have hne : b ≠ a := fun q => T.n0.1 (by rw [← q]; exact z)
    have w := R.pr b (.inl z)
    have w1 : H' b = (if b = a then H a else G.H0 b) := w.1
    have w2 : (if b = a then H a else G.H0 b) ≠ none := w.2.1
    rw [if_neg hne] at w1 w2
    exact ⟨w1, w2, w.2.2⟩
  · obtain ⟨c, h1, h2, h3, h4, h5⟩ := R.ow i b d k
    exact ⟨c, h1, h2, h3, fun z => h4 (.inl z), h5⟩
  · obtain ⟨c, h1, h2, h3, h4, h5⟩ := R.ow i b d k1
    rw [k2] at h1
    cases h1
    exact h4 (.inr rfl)
/-- such an object is written -/
theorem Tmp.write {u : HO} {e : D} (T : Tmp K G F H σ en a d) (R : Rel K G F H σ en) (k : OwAt K F (upd H a u) a e) : Rel K G F (upd H a u) σ en ∧ Tmp K G F (upd H a u) σ en a e := by
  refine ⟨?_, T.nf, k, T.n0, T.ns⟩
  refine R.step (fun z => z = a) (Same.refl F) (fun c u q => ?_) (fun c k1 k2 => absurd k1 k2) (fun c u q m => by rw [upd_ne m]; exact q) (fun c z => by subst z; exact ⟨T.n0.1, by rw [upd_same]; simp⟩) rfl (fun j f q => .inl q) fun j b f q => ?_
  · have ne : c ≠ a := fun z => by
      subst z
      rw [T.nf] at q
      cases q
    rw [upd_ne ne]
    exact R.le _ _ q
  · obtain ⟨a2, q1, q2, q3, _⟩ := R.ow j b f q
    refine ⟨a2, f, q1, q, q3.move (Same.refl F) (upd_ne fun z => ?_)⟩
    subst z
    exact T.ns j b f q q1
end
/-- what a turn does over plain data -/
def SimM (K : KW) (vs : List Nat) (t : Addr → TM) (m : TMD) : Prop := ∀ (D : Addr) (G : Gh) (F H : Hp) (σ : L2.St) (en : En) (acc : DL.D) (N : L2.St → Hp → Prop) (Nd : DL.D → En → Prop), Rel K G F H σ en → Tmp K G F H σ en D acc → G.F0 D = none → m acc en Nd →
  (∀ F' H' σ' en' acc', Same F F' → Rel K G F' H' σ' en' → Tmp K G F' H' σ' en' D acc' → wipe σ' vs = wipe σ vs → Nd acc' en' → N σ' H') → t D σ H N
def emL (e : TDE) : TMD := fun acc en N => e en (fun x en1 => match acc with
  | .lst l => l.length < sizeLine ∧ N (.lst (l ++ [x])) en1
  | _ => False) noE
def emD (k v : TDE) : TMD := fun acc en N => k en (fun x en1 => v en1 (fun y en2 => match acc with
  | .dct ds es => fitD ds x = true ∧ ds.length < sizeLine ∧ N (.dct (putDk ds x) (putDv ds es x y)) en2
  | _ => False) noE) noE
def clD (g : TDG) (c : TDT) (m : TMD) : List D → D → En → (D → En → Prop) → Prop
  | [], acc, en, N => N acc en
  | d :: ds, acc, en, N => g d en fun en1 => c en1 (fun b en2 => if b = true then m acc en2 (fun acc' en3 => clD g c m ds acc' en3 N) else clD g c m ds acc en2 N) noE
def dCl (it : TDI) (g : TDG) (c : TDT) (m : TMD) : TMD := fun acc en N => it en (fun ds en1 => clD g c m ds acc en1 N) noE
def dCp (vs : List Nat) (z : D) (it : TDI) (g : TDG) (c : TDT) (m : TMD) : TDE := fun en Q Qe => it en (fun ds en1 => clD g c m ds z (wipeE en1 vs) fun acc en2 => Q acc (backE en1 en2 vs)) Qe

/-- the target of a comprehension stores its own names alone -/
def OwnG (g : TG) (vs : List Nat) : Prop := ∀ x τ H (Q Q' : L2.St → Hp → Prop), (∀ σ2 H2, wipe σ2 vs = wipe τ vs → Q σ2 H2 → Q' σ2 H2) → g x τ H Q → g x τ H Q'
def OwnGs (g : TGs) (vs : List Nat) : Prop := ∀ x τ H (Q Q' : L2.St → Hp → Prop), (∀ σ2 H2, wipe σ2 vs = wipe τ vs → Q σ2 H2 → Q' σ2 H2) → g x τ H Q → g x τ H Q'
theorem og_name {i : Nat} {vs : List Nat} (h : i ∈ vs) : OwnG (gName i) vs := fun x τ H Q Q' k q => k _ _ (wipe_set h) q
theorem og_nil {vs : List Nat} : OwnGs gNil vs := fun x τ H Q Q' k q => ⟨q.1, k _ _ rfl q.2⟩
theorem og_cons {g : TG} {u : TGs} {vs : List Nat} (h : OwnG g vs) (h' : OwnGs u vs) : OwnGs (gCons g u) vs := fun x τ H Q Q' k q => by
  obtain ⟨v, r, e, q⟩ := q
  exact ⟨v, r, e, h v τ H _ _ (fun σ2 H2 w2 q2 => h' r σ2 H2 _ _ (fun σ3 H3 w3 q3 => k σ3 H3 (w3.trans w2) q3) q2) q⟩
theorem og_tup {K : Fg} {n : Nat} {u : TGs} {vs : List Nat} (h : OwnGs u vs) : OwnG (gTup K n u) vs := fun x τ H Q Q' k q => by
  obtain ⟨a, xs, e1, e2, e3, q⟩ := q
  exact ⟨a, xs, e1, e2, e3, h xs τ H Q Q' k q⟩
section
variable {K : KW}
/-- d[k] = v, in a turn -/
def tEmL (te : TE) (D : Addr) : TM := fun σ H N => te σ H fun y H4 => ∃ acc, H4 D = some (.lst acc) ∧ acc.length < sizeLine ∧ N σ (upd H4 D (.lst (acc ++ [y])))
def tEmD (K : KW) (tk tv : TE) (D : Addr) : TM := fun σ H N => tk σ H fun y H4 => tv σ H4 fun z H5 => ∃ ks kvs us k, (D == sysModules) = false ∧ H5 D = some (.ext (DkΦ K.w D ks kvs us)) ∧ ks.length < sizeLine ∧ Kfit K H5 ks kvs k y ∧ N σ (upd H5 D (.ext (DkΦ K.w D (putN ks k) (putV ks kvs k y) (putL ks us k z))))
theorem sim_emL {vs : List Nat} {te : TE} {e : TDE} (h : Sim K W0 te e) : SimM K vs (tEmL te) (emL e) := fun D G F H σ en acc N Nd R T h0 q n => by
  refine h (G.plus H D) F H σ en _ _ _ (T.plus R) q xr0 fun z dz F1 H1 en1 e1 R1 i1 q1 => ?_
  obtain ⟨R2, T2⟩ := T.minus h0 R1 e1
  split at q1
  · rename_i l
    obtain ⟨ws, hv, lv⟩ := T2.at_
    obtain ⟨R3, T3⟩ := T2.write R2 (u := .lst (ws ++ [z])) (e := .lst (l ++ [dz])) ⟨_, upd_same, lv.append (IsL.single i1)⟩
    exact ⟨ws, hv, by rw [lv.length]; exact q1.1, n F1 _ σ en1 _ e1 R3 T3 rfl q1.2⟩
  · exact q1.elim
theorem sim_emD {vs : List Nat} {tk tv : TE} {k v : TDE} (hk : Sim K W0 tk k) (hv : Sim K W0 tv v) : SimM K vs (tEmD K tk tv) (emD k v) := fun D G F H σ en acc N Nd R T h0 q n => by
  refine hk (G.plus H D) F H σ en _ _ _ (T.plus R) q xr0 fun z dz F1 H1 en1 e1 R1 i1 q1 => ?_
  refine hv (G.plus H D) F1 H1 σ en1 _ _ _ R1 q1 xr0 fun y dy F2 H2 en2 e2 R2 i2 q2 => ?_
  obtain ⟨R3, T3⟩ := T.minus h0 R2 (e1.trans e2)
  split at q2
  · rename_i ds es
    obtain ⟨f, hz, q3⟩ := q2
    obtain ⟨ks, kvs, us, h3, hs3, ⟨hk3, hz3⟩, l3, m3⟩ := T3.at_
    obtain ⟨j, hj⟩ := fit_some f
    have hl := nkL_len hk3
    have i1 := Is.mono e2 _ _ i1
    obtain ⟨p1, p2⟩ := putK_of hj i1 hk3 l3
    obtain ⟨R4, T4⟩ := T3.write R3 (u := .ext (DkΦ K.w D (putN ks j) (putV ks kvs j z) (putL ks us j y))) (e := .dct (putDk ds dz) (putDv ds es dz dy)) ⟨_, _, _, upd_same, hs3, ⟨p1, by
      unfold putN
      split
      · exact hz3
      · rw [List.length_append, List.length_singleton]; omega⟩, p2, put_of hj i2 hk3 m3⟩
    exact ⟨ks, kvs, us, j, hs3, h3, by omega, kfit_of R3.le hk3 l3 hj i1 f, n F2 _ σ en2 _ (e1.trans e2) R4 T4 rfl q3⟩
  · exact q2.elim
/-- the loop of a clause -/
theorem sim_cw {vs : List Nat} {g : TG} {gd : TDG} {tt : TT} {td : TDT} {t : Addr → TM} {m : TMD} (ho : OwnG g vs) (sg : SimG K g gd) (st : SimT K W0 tt td) (sm : SimM K vs t m) {J : It} {ds : List D} {D : Addr} {G : Gh} {F F1 H : Hp} {σ : L2.St} {en : En} {acc : DL.D} {N : L2.St → Hp → Prop} {Nd : DL.D → En → Prop}
    (it : ItD K F1 J ds) (e0 : Same F1 F) (R : Rel K G F H σ en) (T : Tmp K G F H σ en D acc) (h0 : G.F0 D = none) (q : clD gd td m ds acc en Nd)
    (n : ∀ F' H' σ' en' acc', Same F F' → Rel K G F' H' σ' en' → Tmp K G F' H' σ' en' D acc' → wipe σ' vs = wipe σ vs → Nd acc' en' → N σ' H') : CW J g tt (t D) N σ H := by
  refine ⟨fun i k σ' H' => k = ds.length - i ∧ i ≤ ds.length ∧ ∃ F' en' acc', Same F F' ∧ Rel K G F' H' σ' en' ∧ Tmp K G F' H' σ' en' D acc' ∧ wipe σ' vs = wipe σ vs ∧ clD gd td m (ds.drop i) acc' en' Nd, ⟨ds.length, by simp, Nat.zero_le _, F, en, acc, Same.refl _, R, T, rfl, q⟩, ?_⟩
  rintro i k σ' H' ⟨rfl, hi, F2, en2, acc2, e2, R2, T2, w2, q2⟩
  by_cases hlt : i < ds.length
  · refine .inr ⟨it.go i F2 H' (e0.trans e2) R2.le hlt, fun σ' H' => ∃ F' en' acc', Same F F' ∧ Rel K G F' H' σ' en' ∧ Tmp K G F' H' σ' en' D acc' ∧ wipe σ' vs = wipe σ vs ∧ clD gd td m (ds.drop (i + 1)) acc' en' Nd,
      fun σ3 H3 z => ⟨ds.length - (i + 1), by omega, rfl, hlt, z⟩, fun x H3 y => ?_⟩
    have R2p := T2.plus R2
    obtain ⟨F3, e3, R3, d, hd, id⟩ := it.yld i (G.plus H' D) F2 H' σ' _ x H3 (e0.trans e2) R2p hlt y
    have hd' : ds[i] = d := by rw [List.getElem?_eq_getElem hlt] at hd; exact Option.some.inj hd
    rw [List.drop_eq_getElem_cons hlt, hd'] at q2
    refine ho x σ' H3 (fun σ4 H4 => wipe σ4 vs = wipe σ' vs → _) _ (fun σ4 H4 hw z => z hw) ?_
    refine sg (G.plus H' D) F3 H3 σ' _ d x _ _ R3 id q2 fun F4 H4 σ4 en4 e4 R4 q4 hw => ?_
    refine st (G.plus H' D) F4 H4 σ4 en4 _ _ _ R4 q4 xr0 fun b F5 H5 en5 e5 R5 q5 => ?_
    have e25 : Same F2 F5 := (e3.trans e4).trans e5
    obtain ⟨R6, T6⟩ := T2.minus h0 R5 e25
    cases b with
    | false => exact ⟨F5, en5, acc2, e2.trans e25, R6, T6, hw.trans w2, q5⟩
    | true => exact sm D G F5 H5 σ4 en5 acc2 _ _ R6 T6 h0 q5 fun F7 H7 σ7 en7 acc7 e7 R7 T7 w7 q7 => ⟨F7, en7, acc7, (e2.trans e25).trans e7, R7, T7, (w7.trans hw).trans w2, q7⟩
  · have e : i = ds.length := by omega
    subst e
    rw [List.drop_length] at q2
    exact .inl ⟨it.stop F2 H' (e0.trans e2) R2.le, n F2 H' σ' en2 acc2 e2 R2 T2 w2 q2⟩
/-- a clause within the first -/
theorem sim_inner {vs : List Nat} {wi : TI} {di : TDI} {g : TG} {gd : TDG} {tt : TT} {td : TDT} {t : Addr → TM} {m : TMD} (si : SimI K W0 wi di) (ho : OwnG g vs) (sg : SimG K g gd) (st : SimT K W0 tt td) (sm : SimM K vs t m) : SimM K vs (fun D => tCl wi g tt (t D)) (dCl di gd td m) := fun D G F H σ en acc N Nd R T h0 q n => by
  refine si (G.plus H D) F H σ en _ _ _ (T.plus R) q xr0 fun J ds F1 H1 en1 e1 R1 it q1 => ?_
  obtain ⟨R2, T2⟩ := T.minus h0 R1 e1
  exact sim_cw ho sg st sm it (Same.refl _) R2 T2 h0 q1 fun F' H' σ' en' acc' e' R' T' w' q' => n F' H' σ' en' acc' (e1.trans e') R' T' w' q'
/-- the whole -/
theorem sim_cp {W : WX} {own : List Nat} {new : Addr → HO} {z : D} {wi : TI} {di : TDI} {g : TG} {gd : TDG} {tt : TT} {td : TDT} {t : Addr → TM} {m : TMD} (hz : ∀ F H D, H D = none → (D == sysModules) = false → OwAt K F (upd H D (new D)) D z) (si : SimI K W wi di) (ho : OwnG g own) (sg : SimG K g gd) (st : SimT K W0 tt td) (sm : SimM K own t m) :
    SimO K W (tCp new wi g tt t own) (dCp own z di gd td m) := fun G F H σ en Q Qd Qe R q x k => by
  refine si G F H σ en _ _ Qe R q x fun J ds F1 H1 en1 e1 R1 it q1 D hD hsy => ?_
  have n0 : G.F0 D = none := R1.f0.free (R1.free hD)
  have T1 : Tmp K G F1 (upd H1 D (new D)) σ en1 D z := Tmp.of R1 hD (hz F1 H1 D hD hsy)
  have R1' : Rel K G F1 (upd H1 D (new D)) (wipe σ own) (wipeE en1 own) := (R1.fresh hD).wiped own
  have T1' : Tmp K G F1 (upd H1 D (new D)) (wipe σ own) (wipeE en1 own) D z := ⟨T1.nf, T1.at_, T1.n0, fun i b e h1 h2 => by
    obtain ⟨h3, h4⟩ := wipeE_get h1
    rw [wipe_get h4] at h2
    exact T1.ns i b e h3 h2⟩
  refine sim_cw ho sg st sm it (Same.refl _) R1' T1' n0 q1 fun F2 H2 σ2 en2 acc2 e2 R2 T2 w2 q2 => ?_
  have w3 : wipe σ2 own = wipe σ own := w2.trans (wipe_wipe σ own)
  have R3 := R1.back (en := wipeE en2 own) e2 (R2.rewipe w3)
  have eb : backE en1 (wipeE en2 own) own = backE en1 en2 own := backE_wipe
  rw [eb] at R3
  refine k D acc2 F2 H2 _ (e1.trans e2) R3 ⟨T2.nf, T2.at_, T2.n0, fun i b e h1 h2 => ?_⟩ q2
  rcases backE_fz h1 with ⟨n1, m1⟩ | ⟨_, d', zz, _⟩
  · refine T2.ns i b e m1 ?_
    have e5 : (wipe σ2 own)[i]? = (wipe σ own)[i]? := by rw [w3]
    rw [wipe_get n1, wipe_get n1] at e5
    rw [e5]
    exact h2
  · cases zz
theorem newL_at (F H : Hp) (D : Addr) (_ : H D = none) (_ : (D == sysModules) = false) : OwAt K F (upd H D (newL K.w D)) D (.lst []) := ⟨[], upd_same, rfl⟩
theorem newD_at (F H : Hp) (D : Addr) (h : H D = none) (hs : (D == sysModules) = false) : OwAt K F (upd H D (newD K.w D)) D (.dct [] []) := ⟨[], [], [], upd_same, hs, ⟨rfl, Nat.zero_le _⟩, rfl, rfl⟩
end
end DL

/-! The D layer, part 32: comprehensions, the rules for the walk. -/
namespace DL
open PySem PySem.Spec PyProof.Rows L2

section
variable {X : Cx} {pins : List (Addr × Obj)} {σ : L2.St} {H : Hp} {s : Shared} {a : Addr} {ks : List NestedKey} {kvs us : List V} {k : NestedKey} {kv : V} {u : Value} {A : Around} {E : Value → Shared → Prop}
/-- d[y] = v, by a comprehension -/
theorem dd_dictSet {v : V} {r' : Value} {Q : Unit → Shared → Prop} (hu : A.units + 64 < cLine) (I : L2.Inv X pins σ H s) (hs : (a == sysModules) = false) (he : H a = some (.ext (DkΦ X.w a ks kvs us))) (hz : ks.length < sizeLine) (hf : Kfit X.K H ks kvs k kv) (ry : RelV kv u) (rv : RelV v r')
    (h : ∀ s', L2.Inv X pins σ (upd H a (.ext (DkΦ X.w a (putN ks k) (putV ks kvs k kv) (putL ks us k v)))) s' → Q () s') : wpAny (model X.prog X.w) A (dictSet a u r') Q E s := by
  have hd : DAt X.w H a ks kvs us := ⟨hs, .inr he⟩
  refine flat_cases I hd hf ry (fun knd f vs x dd r e1 e2 g gx ek ev hi _ => ?_) fun xs b dd e1 e2 r ev eu kb => ?_
  · have hl : vs.length = ks.length := by rw [← e1, List.length_map]
    refine wpAny_dictSet_pairs (hsz := by omega) hi dd fun h' dd' hs => h _ ?_
    have ho : ∃ q, h'.get? a = some q := let ⟨q, _, _, hq, _⟩ := dd'; ⟨q, hq⟩
    have nd : (vs.map (·.1)).Nodup := let ⟨_, _, _, _, _, _, _, _, n⟩ := dd; n
    obtain ⟨p1, p2, p3, p4⟩ := f.put (k := x) rv vs us r nd
    have bk := f.back dd' (fun y hy => by
      rcases p4 y hy with rfl | hy
      · exact gx
      · exact g y hy) p3
    rw [p1, p2, e1, e2, ← ek, ← ev] at bk
    exact I.write (x := a) (e := a) (by rw [he]; exact True.intro) (.inl rfl) (fun b q hb z => (hs.2 b hb).trans z) ho (dkφ_ext bk)
  · subst eu
    have hl : xs.length = ks.length := by rw [← e1, List.length_map]
    have hroom : (nestedKind X.prog X.w).room A := show A.units + 8 < cLine by omega
    refine wpAny_dictSet_heap (hsz := by omega) hroom kb dd fun h' dd' hs => h _ ?_
    obtain ⟨o, es, ep, q1, q2, q3, q4, q5, q6⟩ := dd'
    have nd : (xs.map (·.1)).Nodup := let ⟨_, _, _, _, _, _, _, _, n⟩ := dd; n
    obtain ⟨p1, p2, p3⟩ := putH (b := b) rv xs us r nd
    have en := ents_ofH (P := X.prog) (w := X.w) p3
    rw [← q4, p1, p2, e1, e2, ← ev] at en
    have bk : DkΦ X.w a (putN ks k) (putV ks kvs k kv) (putL ks us k v) h' := ⟨o, q1, q2, ⟨es, ep, q3, en⟩, by rw [← e1, ← p1]; exact q6⟩
    exact I.write (x := a) (e := a) (by rw [he]; exact True.intro) (.inl rfl) (fun b q hb z => (hs.2 b hb).trans z) ⟨o, q1⟩ (dkφ_ext bk)
end
/-- what a dict comprehension's turn does -/
abbrev actD (kx vx : Expr) (env : Env) (acc : Value) : Sem Unit := do
  let kv ← eval kx env
  let vv ← holding [kv] (eval vx env)
  match acc with
  | .ref d => do
    standAt { kx.pos with endLine := vx.pos.endLine, endCol := vx.pos.endCol }
    holding [kv, vv] (dictSet d kv vv)
  | _ => unsupported "internal:dictcomp"
abbrev actL (elt : Expr) (env : Env) (acc : Value) : Sem Unit := do let _ ← call (.builtin "list.append") [acc, ← eval elt env]
abbrev actI (e : Expr) (iter : Expr) (env : Env) (acc : Value) : Sem Unit := do
  let x ← eval iter env
  standAt iter.pos
  let x ← foldedSetIterable iter env x
  let _ ← runOwn (.compStart e 1 (← holding [x] (pyIter x)) acc env) env
theorem turnD2 (kx vx t0 i0 t1 i1 : Expr) (ifs0 ifs1 : List Expr) (scope : Scope) (pos : Pos) (it acc : Value) (env : Env) :
    compTurn (.DictComp kx vx [⟨t0, i0, ifs0, 0⟩, ⟨t1, i1, ifs1, 0⟩] scope pos) 0 it acc env = (do
      standAt i0.pos
      match ← pyNext it with
      | none => pure (.done .next)
      | some v =>
        letOwnedTupleGo t0 it v
        assign t0 env v
        let mut ok := true
        for c in ifs0 do
          if ok then ok ← isTrue c env (eval c env)
        if ok then actI (.DictComp kx vx [⟨t0, i0, ifs0, 0⟩, ⟨t1, i1, ifs1, 0⟩] scope pos) i1 env acc
        again (.compLoop (.DictComp kx vx [⟨t0, i0, ifs0, 0⟩, ⟨t1, i1, ifs1, 0⟩] scope pos) 0 it acc env)) := by
  have e : compTurn (.DictComp kx vx [⟨t0, i0, ifs0, 0⟩, ⟨t1, i1, ifs1, 0⟩] scope pos) 0 it acc env = (do
      standAt i0.pos
      match ← pyNext it with
      | none => pure (.done .next)
      | some v =>
        letOwnedTupleGo t0 it v
        assign t0 env v
        let mut ok := true
        for c in ifs0 do
          if ok then ok ← isTrue c env (eval c env)
        if ok then
          let x ← eval i1 env
          standAt i1.pos
          let x ← foldedSetIterable i1 env x
          let _ ← runOwn (.compStart (.DictComp kx vx [⟨t0, i0, ifs0, 0⟩, ⟨t1, i1, ifs1, 0⟩] scope pos) 1 (← holding [x] (pyIter x)) acc env) env
        again (.compLoop (.DictComp kx vx [⟨t0, i0, ifs0, 0⟩, ⟨t1, i1, ifs1, 0⟩] scope pos) 0 it acc env)) := by rfl
  rw [e]
  refine bind_congr fun _ => bind_congr fun r => ?_
  cases r with
  | none => rfl
  | some v =>
    refine bind_congr fun _ => bind_congr fun _ => bind_congr fun ok => ?_
    cases ok with
    | false => rfl
    | true =>
      show _ = (actI (.DictComp kx vx [⟨t0, i0, ifs0, 0⟩, ⟨t1, i1, ifs1, 0⟩] scope pos) i1 env acc >>= fun _ => _)
      simp only [bind_assoc, pure_bind]
      rfl
theorem turnL2 (elt t0 i0 t1 i1 : Expr) (ifs0 ifs1 : List Expr) (scope : Scope) (pos : Pos) (it acc : Value) (env : Env) :
    compTurn (.ListComp elt [⟨t0, i0, ifs0, 0⟩, ⟨t1, i1, ifs1, 0⟩] scope pos) 0 it acc env = (do
      standAt i0.pos
      match ← pyNext it with
      | none => pure (.done .next)
      | some v =>
        letOwnedTupleGo t0 it v
        assign t0 env v
        let mut ok := true
        for c in ifs0 do
          if ok then ok ← isTrue c env (eval c env)
        if ok then actI (.ListComp elt [⟨t0, i0, ifs0, 0⟩, ⟨t1, i1, ifs1, 0⟩] scope pos) i1 env acc
        again (.compLoop (.ListComp elt [⟨t0, i0, ifs0, 0⟩, ⟨t1, i1, ifs1, 0⟩] scope pos) 0 it acc env)) := by
  have e : compTurn (.ListComp elt [⟨t0, i0, ifs0, 0⟩, ⟨t1, i1, ifs1, 0⟩] scope pos) 0 it acc env = (do
      standAt i0.pos
      match ← pyNext it with
      | none => pure (.done .next)
      | some v =>
        letOwnedTupleGo t0 it v
        assign t0 env v
        let mut ok := true
        for c in ifs0 do
          if ok then ok ← isTrue c env (eval c env)
        if ok then
          let x ← eval i1 env
          standAt i1.pos
          let x ← foldedSetIterable i1 env x
          let _ ← runOwn (.compStart (.ListComp elt [⟨t0, i0, ifs0, 0⟩, ⟨t1, i1, ifs1, 0⟩] scope pos) 1 (← holding [x] (pyIter x)) acc env) env
        again (.compLoop (.ListComp elt [⟨t0, i0, ifs0, 0⟩, ⟨t1, i1, ifs1, 0⟩] scope pos) 0 it acc env)) := by rfl
  rw [e]
  refine bind_congr fun _ => bind_congr fun r => ?_
  cases r with
  | none => rfl
  | some v =>
    refine bind_congr fun _ => bind_congr fun _ => bind_congr fun ok => ?_
    cases ok with
    | false => rfl
    | true =>
      show _ = (actI (.ListComp elt [⟨t0, i0, ifs0, 0⟩, ⟨t1, i1, ifs1, 0⟩] scope pos) i1 env acc >>= fun _ => _)
      simp only [bind_assoc, pure_bind]
      rfl
section
variable {X : Cx}
theorem pm_emD {kx vx : Expr} {tk tv : TE} (hu : X.A.units + 64 < cLine) (hk : PE X kx tk) (hv : PE X vx tv) (D : Addr) : PM X (actD kx vx X.env (.ref D)) (tEmD (kk X) tk tv D) := by
  refine ⟨fun pins s σ H N I h => ?_⟩
  refine wpAny_bind (thn (hk.run pins s σ H _ I h) fun kv s1 ⟨y, H1, I1, r1, q1⟩ => ?_)
  refine wpAny_bind (wpAny_holding (thn (hv.run pins s1 σ H1 _ I1 q1) fun vv s2 ⟨z, H2, I2, r2, q2⟩ => ?_))
  obtain ⟨ks, kvs, us, k, hs, he, hz, hf, n⟩ := q2
  refine wpAny_bind (wpAny_standAt (wpAny_holding ?_))
  exact dd_dictSet hu I2 hs he hz hf r1 r2 fun s' I' => ⟨σ, _, I', n⟩
theorem pm_emL {elt : Expr} {te : TE} (he : PE X elt te) (D : Addr) : PM X (actL elt X.env (.ref D)) (tEmL te D) := by
  refine ⟨fun pins s σ H N I h => ?_⟩
  refine wpAny_bind (thn (he.run pins s σ H _ I h) fun v s1 ⟨y, H1, I1, r1, acc, hD, hz, n⟩ => ?_)
  refine wpAny_bind (app_ok I1 hD hz r1 fun s' I' => wpAny_pure ⟨σ, _, I', n⟩)
end
/-- a clause's source, target, test, in the block -/
structure ClB (X : Cx) (vs : List Nat) (tg : Expr) (ifs : List Expr) (g : TG) (gd : TDG) (tt : TT) (td : TDT) : Prop where
  own : OwnG g vs
  dg : DG X tg g gd
  ts : DTs X ifs tt td
section
variable {X : Cx} {W : WX} {elt kx vx tg iter tg1 iter1 : Expr} {ifs ifs1 : List Expr} {scope : Scope} {own : List (Str × Nat)} {pos : Pos} {wi wi1 : TI} {di di1 : TDI} {g g1 : TG} {gd gd1 : TDG} {tt tt1 : TT} {td td1 : TDT} {te tk tv : TE} {ed kd vd : TDE}
abbrev B0 (X : Cx) (scope : Scope) : Cx := X.blk X.s_0 X.H_0 scope (compEnvC scope [] 0 X.env) []
abbrev Bx (X : Cx) (scope : Scope) (s : Shared) (H : Hp) (C : Addr) (cl : List (Str × Addr)) (fp : List Addr) : Cx := X.blk s H scope (compEnvC scope cl C X.env) fp
/-- a comprehension, as a value and stored on one line -/
structure CpS (X : Cx) (W : WX) (e : Expr) (te : TE) (td : TDE) : Prop where
  pe : PE X e te
  set : ∀ (i : Nat) (y : Str) (py spos : Pos), X.N[i]? = some y → X.env.scope.names.lookup y = some .local → swapsWith e (some (.Name y py)) spos.line X.env = pure true → PS X (.Assign [.Name y py] e spos) (tAsg te (gName i))
  sim : SimO (kk X) W te td
theorem CpS.do_ {e : Expr} {te : TE} {td : TDE} (h : CpS X W e te td) : DO X W e te td := ⟨h.pe, h.sim⟩
theorem CpS.st {e : Expr} {te : TE} {td : TDE} {i : Nat} {y : Str} {py spos : Pos} (h : CpS X W e te td) (hy : X.N[i]? = some y) (hyl : X.env.scope.names.lookup y = some .local) (hsw : swapsWith e (some (.Name y py)) spos.line X.env = pure true) :
    DS X W (.Assign [.Name y py] e spos) (tGS (tAsg te (gName i))) (dSet i td) := ⟨ps_GS (h.set i y py spos hy hyl hsw), sim_setG h.sim⟩
theorem CpS.stO {e : Expr} {te : TE} {td : TDE} {i : Nat} {y : Str} {py spos : Pos} (h : CpS X W e te td) (hy : X.N[i]? = some y) (hyl : X.env.scope.names.lookup y = some .local) (hsw : swapsWith e (some (.Name y py)) spos.line X.env = pure true) :
    DS X W (.Assign [.Name y py] e spos) (tAsg te (gName i)) (dSetO i td) := ⟨h.set i y py spos hy hyl hsw, sim_setO h.sim⟩
theorem sw_trueD {gs : List Comprehension} {py : Pos} {y : Str} {l : Nat} {env : Env} (hk : env.scope.kind = .function) (hy : env.scope.names.lookup y = some .local) (hl : (py.line == pos.line) = true)
    (ha : (scope.names.any fun (n, k) => n == y && (k == .local || k == .cell)) = false) : swapsWith (.DictComp kx vx gs scope pos) (some (.Name y py)) l env = pure true := by
  have ky : env.kindOf y = some .local := hy
  have hb : env.blockKind = .function := by unfold Env.blockKind; rw [hk]; rfl
  unfold swapsWith
  simp only [hb, ky, ha, Expr.pos, hl]
  rfl
/-- {k: v for tg in iter if ..} -/
theorem do_dc (hu : X.A.units + 64 < cLine) (hc : X.calm = true) (hN : X.N.Nodup) (hi : DI X W tg iter wi di) (ok : BlkOk X.N X.env.scope scope own)
    (c0 : ClB (B0 X scope) (own.map (·.2)) tg ifs g gd tt td) (c : ∀ s H C cl fp, ClB (Bx X scope s H C cl fp) (own.map (·.2)) tg ifs g gd tt td)
    (k0 : DE (B0 X scope) W0 kx tk kd) (hk : ∀ s H C cl fp, DE (Bx X scope s H C cl fp) W0 kx tk kd) (v0 : DE (B0 X scope) W0 vx tv vd) (hv : ∀ s H C cl fp, DE (Bx X scope s H C cl fp) W0 vx tv vd) (hs : ∀ x, foldedSetIterable iter X.env x = pure x := by intro _; rfl) :
    CpS X W (.DictComp kx vx [⟨tg, iter, ifs, 0⟩] scope pos) (tCp (newD X.w) wi g tt (tEmD (kk X) tk tv) (own.map (·.2))) (dCp (own.map (·.2)) (.dct [] []) di gd td (emD kd vd)) :=
  ⟨pe_cpD (act := actD kx vx) hc hN hi.pi ok (fun s H C cl fp it acc => rfl) (fun s H C cl fp => (c s H C cl fp).dg.pg) (fun s H C cl fp => (c s H C cl fp).ts.pts) (fun s H C cl fp D => pm_emD (X := Bx X scope s H C cl fp) hu (hk s H C cl fp).pe (hv s H C cl fp).pe D) hs, fun i y py spos hy hyl hsw => ps_setCpD (act := actD kx vx) hc hN hy hyl hsw hi.pi ok (fun s H C cl fp it acc => rfl) (fun s H C cl fp => (c s H C cl fp).dg.pg) (fun s H C cl fp => (c s H C cl fp).ts.pts) (fun s H C cl fp D => pm_emD (X := Bx X scope s H C cl fp) hu (hk s H C cl fp).pe (hv s H C cl fp).pe D) hs,
    sim_cp (newD_at (K := kk X)) hi.sim c0.own c0.dg.sim c0.ts.sim (sim_emD k0.sim v0.sim)⟩
/-- {k: v for tg in iter if .. for tg1 in iter1 if ..} -/
theorem do_dc2 (hu : X.A.units + 64 < cLine) (hc : X.calm = true) (hN : X.N.Nodup) (hi : DI X W tg iter wi di) (ok : BlkOk X.N X.env.scope scope own)
    (c0 : ClB (B0 X scope) (own.map (·.2)) tg ifs g gd tt td) (c : ∀ s H C cl fp, ClB (Bx X scope s H C cl fp) (own.map (·.2)) tg ifs g gd tt td)
    (i0 : DI (B0 X scope) W0 tg1 iter1 wi1 di1) (hi1 : ∀ s H C cl fp, DI (Bx X scope s H C cl fp) W0 tg1 iter1 wi1 di1)
    (c10 : ClB (B0 X scope) (own.map (·.2)) tg1 ifs1 g1 gd1 tt1 td1) (c1 : ∀ s H C cl fp, ClB (Bx X scope s H C cl fp) (own.map (·.2)) tg1 ifs1 g1 gd1 tt1 td1)
    (k0 : DE (B0 X scope) W0 kx tk kd) (hk : ∀ s H C cl fp, DE (Bx X scope s H C cl fp) W0 kx tk kd) (v0 : DE (B0 X scope) W0 vx tv vd) (hv : ∀ s H C cl fp, DE (Bx X scope s H C cl fp) W0 vx tv vd) (hs : ∀ x, foldedSetIterable iter X.env x = pure x := by intro _; rfl) (hs1 : ∀ env x, foldedSetIterable iter1 env x = pure x := by intro _ _; rfl) :
    CpS X W (.DictComp kx vx [⟨tg, iter, ifs, 0⟩, ⟨tg1, iter1, ifs1, 0⟩] scope pos) (tCp (newD X.w) wi g tt (fun D => tCl wi1 g1 tt1 (tEmD (kk X) tk tv D)) (own.map (·.2))) (dCp (own.map (·.2)) (.dct [] []) di gd td (dCl di1 gd1 td1 (emD kd vd))) :=
  ⟨pe_cpD (act := fun env acc => actI (.DictComp kx vx [⟨tg, iter, ifs, 0⟩, ⟨tg1, iter1, ifs1, 0⟩] scope pos) iter1 env acc) hc hN hi.pi ok (fun s H C cl fp it acc => turnD2 ..) (fun s H C cl fp => (c s H C cl fp).dg.pg) (fun s H C cl fp => (c s H C cl fp).ts.pts)
      (fun s H C cl fp D => pm_innerD (X := Bx X scope s H C cl fp) (act := actD kx vx (compEnvC scope cl C X.env)) rfl hc rfl (fun it acc => rfl) (hi1 s H C cl fp).pi (c1 s H C cl fp).dg.pg (c1 s H C cl fp).ts.pts (fun D => pm_emD (X := Bx X scope s H C cl fp) hu (hk s H C cl fp).pe (hv s H C cl fp).pe D) hs1 D) hs, fun i y py spos hy hyl hsw => ps_setCpD (act := fun env acc => actI (.DictComp kx vx [⟨tg, iter, ifs, 0⟩, ⟨tg1, iter1, ifs1, 0⟩] scope pos) iter1 env acc) hc hN hy hyl hsw hi.pi ok (fun s H C cl fp it acc => turnD2 ..) (fun s H C cl fp => (c s H C cl fp).dg.pg) (fun s H C cl fp => (c s H C cl fp).ts.pts)
      (fun s H C cl fp D => pm_innerD (X := Bx X scope s H C cl fp) (act := actD kx vx (compEnvC scope cl C X.env)) rfl hc rfl (fun it acc => rfl) (hi1 s H C cl fp).pi (c1 s H C cl fp).dg.pg (c1 s H C cl fp).ts.pts (fun D => pm_emD (X := Bx X scope s H C cl fp) hu (hk s H C cl fp).pe (hv s H C cl fp).pe D) hs1 D) hs,
    sim_cp (newD_at (K := kk X)) hi.sim c0.own c0.dg.sim c0.ts.sim (sim_inner i0.sim c10.own c10.dg.sim c10.ts.sim (sim_emD k0.sim v0.sim))⟩
/-- [e for tg in iter if ..], the target of any form -/
theorem do_lcG (hc : X.calm = true) (hN : X.N.Nodup) (hi : DI X W tg iter wi di) (ok : BlkOk X.N X.env.scope scope own)
    (c0 : ClB (B0 X scope) (own.map (·.2)) tg ifs g gd tt td) (c : ∀ s H C cl fp, ClB (Bx X scope s H C cl fp) (own.map (·.2)) tg ifs g gd tt td)
    (e0 : DE (B0 X scope) W0 elt te ed) (he : ∀ s H C cl fp, DE (Bx X scope s H C cl fp) W0 elt te ed) (hs : ∀ x, foldedSetIterable iter X.env x = pure x := by intro _; rfl) :
    CpS X W (.ListComp elt [⟨tg, iter, ifs, 0⟩] scope pos) (tCp (newL X.w) wi g tt (tEmL te) (own.map (·.2))) (dCp (own.map (·.2)) (.lst []) di gd td (emL ed)) :=
  ⟨pe_cpL (act := actL elt) hc hN hi.pi ok (fun s H C cl fp it acc => rfl) (fun s H C cl fp => (c s H C cl fp).dg.pg) (fun s H C cl fp => (c s H C cl fp).ts.pts) (fun s H C cl fp D => pm_emL (X := Bx X scope s H C cl fp) (he s H C cl fp).pe D) hs, fun i y py spos hy hyl hsw => ps_setCpL (act := actL elt) hc hN hy hyl hsw hi.pi ok (fun s H C cl fp it acc => rfl) (fun s H C cl fp => (c s H C cl fp).dg.pg) (fun s H C cl fp => (c s H C cl fp).ts.pts) (fun s H C cl fp D => pm_emL (X := Bx X scope s H C cl fp) (he s H C cl fp).pe D) hs,
    sim_cp (newL_at (K := kk X)) hi.sim c0.own c0.dg.sim c0.ts.sim (sim_emL e0.sim)⟩
theorem do_lcG2 (hc : X.calm = true) (hN : X.N.Nodup) (hi : DI X W tg iter wi di) (ok : BlkOk X.N X.env.scope scope own)
    (c0 : ClB (B0 X scope) (own.map (·.2)) tg ifs g gd tt td) (c : ∀ s H C cl fp, ClB (Bx X scope s H C cl fp) (own.map (·.2)) tg ifs g gd tt td)
    (i0 : DI (B0 X scope) W0 tg1 iter1 wi1 di1) (hi1 : ∀ s H C cl fp, DI (Bx X scope s H C cl fp) W0 tg1 iter1 wi1 di1)
    (c10 : ClB (B0 X scope) (own.map (·.2)) tg1 ifs1 g1 gd1 tt1 td1) (c1 : ∀ s H C cl fp, ClB (Bx X scope s H C cl fp) (own.map (·.2)) tg1 ifs1 g1 gd1 tt1 td1)
    (e0 : DE (B0 X scope) W0 elt te ed) (he : ∀ s H C cl fp, DE (Bx X scope s H C cl fp) W0 elt te ed) (hs : ∀ x, foldedSetIterable iter X.env x = pure x := by intro _; rfl) (hs1 : ∀ env x, foldedSetIterable iter1 env x = pure x := by intro _ _; rfl) :
    CpS X W (.ListComp elt [⟨tg, iter, ifs, 0⟩, ⟨tg1, iter1, ifs1, 0⟩] scope pos) (tCp (newL X.w) wi g tt (fun D => tCl wi1 g1 tt1 (tEmL te D)) (own.map (·.2))) (dCp (own.map (·.2)) (.lst []) di gd td (dCl di1 gd1 td1 (emL ed))) :=
  ⟨pe_cpL (act := fun env acc => actI (.ListComp elt [⟨tg, iter, ifs, 0⟩, ⟨tg1, iter1, ifs1, 0⟩] scope pos) iter1 env acc) hc hN hi.pi ok (fun s H C cl fp it acc => turnL2 ..) (fun s H C cl fp => (c s H C cl fp).dg.pg) (fun s H C cl fp => (c s H C cl fp).ts.pts)
      (fun s H C cl fp D => pm_innerL (X := Bx X scope s H C cl fp) (act := actL elt (compEnvC scope cl C X.env)) rfl hc rfl (fun it acc => rfl) (hi1 s H C cl fp).pi (c1 s H C cl fp).dg.pg (c1 s H C cl fp).ts.pts (fun D => pm_emL (X := Bx X scope s H C cl fp) (he s H C cl fp).pe D) hs1 D) hs, fun i y py spos hy hyl hsw => ps_setCpL (act := fun env acc => actI (.ListComp elt [⟨tg, iter, ifs, 0⟩, ⟨tg1, iter1, ifs1, 0⟩] scope pos) iter1 env acc) hc hN hy hyl hsw hi.pi ok (fun s H C cl fp it acc => turnL2 ..) (fun s H C cl fp => (c s H C cl fp).dg.pg) (fun s H C cl fp => (c s H C cl fp).ts.pts)
      (fun s H C cl fp D => pm_innerL (X := Bx X scope s H C cl fp) (act := actL elt (compEnvC scope cl C X.env)) rfl hc rfl (fun it acc => rfl) (hi1 s H C cl fp).pi (c1 s H C cl fp).dg.pg (c1 s H C cl fp).ts.pts (fun D => pm_emL (X := Bx X scope s H C cl fp) (he s H C cl fp).pe D) hs1 D) hs,
    sim_cp (newL_at (K := kk X)) hi.sim c0.own c0.dg.sim c0.ts.sim (sim_inner i0.sim c10.own c10.dg.sim c10.ts.sim (sim_emL e0.sim))⟩
end
section
variable {vs : List Nat} {z : D} {it : TDI} {g : TDG} {c : TDT} {m : TMD} {e k v : TDE} {en : En} {Q : D → En → Prop} {Qe : Qx} {acc d : D} {ds : List D} {N : D → En → Prop}
@[simp ↓] theorem r_Cp : dCp vs z it g c m en Q Qe = it en (fun ds en1 => clD g c m ds z (wipeE en1 vs) fun acc en2 => Q acc (backE en1 en2 vs)) Qe := rfl
@[simp ↓] theorem r_Cl : dCl it g c m acc en N = it en (fun ds en1 => clD g c m ds acc en1 N) noE := rfl
@[simp ↓] theorem r_clN : clD g c m [] acc en N = N acc en := rfl
theorem r_clC : clD g c m (d :: ds) acc en N = g d en fun en1 => c en1 (fun b en2 => if b = true then m acc en2 (fun acc' en3 => clD g c m ds acc' en3 N) else clD g c m ds acc en2 N) noE := rfl
@[simp ↓] theorem r_emL {l : List D} : emL e (.lst l) en N = e en (fun x en1 => l.length < sizeLine ∧ N (.lst (l ++ [x])) en1) noE := rfl
@[simp ↓] theorem r_emD {ks vs : List D} : emD k v (.dct ks vs) en N = k en (fun x en1 => v en1 (fun y en2 => fitD ks x = true ∧ ks.length < sizeLine ∧ N (.dct (putDk ks x) (putDv ks vs x y)) en2) noE) noE := rfl
end
end DL

/-! The D layer, part 33: an own operator with a tuple on its right, sorted, count, list(d), max, min of two. -/
namespace DL
open PySem L2 PySem.W PySem.Spec PyProof.Rows

section
variable {prog : Program} {w : World} {A : Around} {E : Value → Shared → Prop} {s : Shared} {K : Fg} {x C L f g : Addr} {h₀ : Heap} {m : Str → Option Value} {ox : Obj} {od : Option Obj}
theorem op1_KT {nm T : String} {b : Value} {Q : Option Value → Shared → Prop} (X : K.In s.heap) (I : PySem.W.InstAt s.heap x ox C od) (hb : PySem.W.Looks (model prog w) s.heap (typeOf b) (.type T)) (hc : PySem.W.selfFirst K C = true)
    (hs : PySem.W.findIn K (.ref C) (PySem.dunder nm) = some (some (.ref f))) (hf : PySem.W.isFn K (.ref f) = true) (hfill : fillsNumberSlot (.type T) nm = pure false)
    (h : wpAny (model prog w) A (tryMethod (.ref x) (PySem.dunder nm) b) (fun o s' => o.isSome = true ∧ Q o s') E s) : wpAny (model prog w) A (binaryOp1 nm (.ref x) b) Q E s := by
  obtain ⟨cd, hcd, hm⟩ := PySem.W.any_some hc
  obtain ⟨rest, hm⟩ : ∃ rest, cd.mro = .ref C :: rest := by
    cases q : cd.mro with
    | nil => rw [q] at hm; cases hm
    | cons a r => rw [q] at hm; exact ⟨r, by rw [List.head?_cons] at hm; cases (beq_iff_eq.mp hm); rfl⟩
  unfold binaryOp1
  refine wpAny_bind (I.type.here (wpAny_bind (hb.here (wpAny_bind ((PySem.W.fills_K X hcd hm hs).here ?_)))))
  rw [if_neg (show ¬ ((Value.ref C) == (Value.type T)) = true from Bool.false_ne_true), hfill]
  refine wpAny_bind (wpAny_pure ?_)
  dsimp only
  rw [if_neg (show ¬ (true && false) = true from Bool.false_ne_true), if_neg Bool.false_ne_true]
  rw [if_neg (show ¬ (true && false && !false) = true from Bool.false_ne_true)]
  refine wpAny_bind (wpAny_pure ?_)
  rw [if_neg Bool.false_ne_true, if_pos rfl]
  refine wpAny_bind (wpAny_mono h (fun o s' z => ?_) fun _ _ z => z)
  obtain ⟨z1, z2⟩ := z
  cases o with
  | none => cases z1
  | some v => exact wpAny_pure z2
theorem binop_KT {op : Operator} {T : String} {b : Value} {Q : Value → Shared → Prop} (F : Fr h₀ L s.heap m) (X₀ : K.In h₀) (I : PySem.W.InstAt s.heap x ox C od) (hb : PySem.W.Looks (model prog w) s.heap (typeOf b) (.type T)) (hc : PySem.W.selfFirst K C = true)
    (hs : PySem.W.findIn K (.ref C) (PySem.dunder op.info.2) = some (some (.ref f))) (hf : PySem.W.isFn K (.ref f) = true) (hfill : fillsNumberSlot (.type T) op.info.2 = pure false)
    (h : wpAny (model prog w) A (call (.ref f) [.ref x, b]) (PySem.W.CmpBack Q) E s) : wpAny (model prog w) A (binaryOp op (.ref x) b) Q E s := by
  have X := X₀.keeps F.keep
  unfold binaryOp
  refine wpAny_holding (wpAny_bind (op1_KT X I hb hc hs hf hfill ?_))
  unfold tryMethod
  refine wpAny_bind (PySem.W.special_fn X I hs (beq_iff_eq.mp hf) (wpAny_mono h (fun v s' hv => ?_) fun _ _ e => e))
  cases v <;> first | exact hv.elim | exact wpAny_pure ⟨rfl, wpAny_pure hv⟩
end
def rOwnT (K : Fg) (C : Addr) (sp : Sp) (W : WX) (σ : L2.St) : R2 := fun x y H Q => ∃ a dx fs b ys, x = .ref a ∧ H a = some (.ins C dx fs) ∧ y = .ref b ∧ SqT K H b ys ∧ sp [x, y] H Q fun c d H => W c d σ H
def tOwnT (K : Fg) (C : Addr) (sp : Sp) (W : WX) (ta tb : TE) : TE := fun σ H Q => ta σ H fun x H1 => tb σ H1 fun y H2 => rOwnT K C sp W σ x y H2 Q
def dOwnT (C : String) (sd : SpD) (da db : TDE) : TDE := fun en Q Qe => da en (fun x en1 => db en1 (fun y en2 => (∃ ns vs, x = .obj C ns vs) ∧ (∃ l, y = .tup l) ∧ sd [x, y] (fun r _ => Q r en2) fun x _ => Qe x en2) Qe) Qe
@[simp ↓] theorem r_OwnT {C : String} {sd : SpD} {a b : TDE} {en : En} {Q : D → En → Prop} {Qe : Qx} : dOwnT C sd a b en Q Qe = a en (fun x en1 => b en1 (fun y en2 => (∃ ns vs, x = .obj C ns vs) ∧ (∃ l, y = .tup l) ∧ sd [x, y] (fun r _ => Q r en2) fun x _ => Qe x en2) Qe) Qe := by rfl
section
variable {X : Cx} {W : WX} {K : KW}
theorem de_ownT {k : Nat} {f : Addr} {C : String} {sd : SpD} {op : Operator} {a b : Expr} {pos : Pos} {ta tb : TE} {da db : TDE} (B : BinOk X.K (He.ga X.K C) f (PySem.dunder op.info.2)) (F : FnD X.prog X.w X.K X.mg X.base k f [] sd) (hr : Room k X.A) (tk : Takes X W)
    (hfill : fillsNumberSlot (.type "tuple") op.info.2 = pure false) (ha : DE X W a ta da) (hb : DE X W b tb db) :
    DE X W (.BinOp a op b pos) (tOwnT X.K (He.ga X.K C) (spOf (kk X) [] sd) W ta tb) (dOwnT C sd da db) := ⟨⟨fun pins s σ H Q I h => wpAny_BinOp (binT ha.pe hb.pe I h fun v u s2 x y H2 I2 rx ry q => by
      obtain ⟨a, dx, fs, b, ys, rfl, ea, rfl, hq, q⟩ := q
      obtain rfl : v = Value.ref a := rx
      obtain rfl : u = Value.ref b := ry
      obtain ⟨mA, J, _⟩ := ins_get I2.hok ea
      obtain ⟨od, J, _⟩ := J.look
      obtain ⟨m, hF⟩ := I2.fr
      obtain ⟨its, rv, ht, hz⟩ := I2.tuple hq
      have lk : PySem.W.Looks (model X.prog X.w) s2.heap (typeOf (.ref b)) (.type "tuple") := fun A Q E s k q => by
        obtain ⟨o, ho, hc, _⟩ := ht
        exact wpAny_typeOf_ref (k _ _ ho) (by rw [hc]; exact q)
      exact binop_KT hF I2.ok.mod.kin J lk B.sf B.at_ B.fn hfill (call_own (vs := [.ref a, .ref b]) F hr tk I2 (.cons rfl (.cons rfl .nil)) q))⟩, fun G F H σ en Q Qd Qe R q x k =>
  ha.sim G F H σ en _ _ Qe R q x fun v d F1 H1 en1 e1 R1 i1 q1 => hb.sim G F1 H1 σ en1 _ _ Qe R1 q1 x fun u d2 F2 H2 en2 e2 R2 i2 q2 => by
    obtain ⟨⟨ns, ds, rfl⟩, ⟨l2, rfl⟩, q2⟩ := q2
    have i1 := Is.mono e2 _ _ i1
    obtain ⟨a, dx, vs, rfl, s, n, l⟩ := id i1
    obtain ⟨b, ws, rfl, sb, lb⟩ := id i2
    exact ⟨a, dx, _, b, ws, rfl, R2.le _ _ s, rfl, SqT.same R2.le sb, sp_run (ds := [.obj C ns ds, .tup l2]) (Qd := fun r => Qd r en2) (Qe := fun x => Qe x en2) R2 ⟨_, _, rfl, i1, IsL.single i2⟩ q2 (fun v r F3 H3 e3 R3 i3 q3 => k v r F3 H3 en2 ((e1.trans e2).trans e3) R3 i3 q3)
      fun y cls d F3 H3 R3 i3 q3 => x y F3 H3 σ en2 cls d R3 i3 q3⟩⟩

/-! ### sorted(ints) -/
def dSorted (a : TDE) : TDE := fun en Q Qe => a en (fun d en1 => match d with
  | .lst l => ∃ ns, intsD l = some ns ∧ ∀ ns' : List Int, ns'.Perm ns → ns'.Pairwise (· ≤ ·) → Q (.lst (ns'.map D.int)) en1
  | _ => False) Qe
theorem isL_ints {F : Hp} : ∀ {ns : List Int}, IsL K F (ns.map D.int) (ns.map V.int)
  | [] => rfl
  | n :: ns => ⟨.int n, _, rfl, rfl, isL_ints⟩
theorem do_sorted {x : Str} {p pos : Pos} {e : Expr} {te : TE} {td : TDE} (hx : x = "sorted") (hg : Gl X x) (hm : X.mg x = none) (h : DE X W e te td) (he : starEach [e] X.env = (false, eval e X.env) :: starEach [] X.env := by rfl) :
    DO X W (.Call (.Name x p) [e] [] pos) (tCB (rSortedI X.K) (tCons te tNil)) (dSorted td) :=
  ⟨by
    subst hx
    exact pe_callB cr_sortedI hg hm (by decide +kernel) (pa_cons h.pe pa_nil he) (by decide) (by decide) he rfl, fun G F H σ en Q Qd Qe R q x k => h.sim G F H σ en _ _ Qe R q x fun v d F1 H1 en1 e1 R1 i1 q1 => by
      split at q1
      · rename_i l
        obtain ⟨ns, hn, q1⟩ := q1
        obtain ⟨a, ws, e0, s, l0⟩ := one_lst R1.le (IsL.single i1)
        rw [ints_is hn l0] at s
        exact ⟨a, ns, e0, s, fun ns' p hp hs hpn => by
          obtain ⟨h1, h2⟩ := new_lst R1 (isL_ints (ns := ns')) hpn
          exact k _ _ _ _ en1 e1 h1 h2 (q1 ns' hp hs)⟩
      · exact q1.elim⟩
@[simp ↓] theorem r_Sorted {a : TDE} {en : En} {Q : D → En → Prop} {Qe : Qx} : dSorted a en Q Qe = a en (fun d en1 => match d with
  | .lst l => ∃ ns, intsD l = some ns ∧ ∀ ns' : List Int, ns'.Perm ns → ns'.Pairwise (· ≤ ·) → Q (.lst (ns'.map D.int)) en1
  | _ => False) Qe := by rfl

/-! ### l.count(x) -/
def rCntX (K : Fg) : V → List V → Hp → VK → Prop := fun x xs H Q => ∃ p ys k, x = .ref p ∧ xs = [k] ∧ SqL K H p ys ∧ flatV k = true ∧ ys.all flatV = true ∧ Q (.int ((ys.countP fun y => eqV y k : Nat) : Int)) H
theorem count_eqU {x : V} : ∀ {xs : List V} {us : List Value}, Vals xs us → xs.all flatV = true → us.countP (eqU x) = xs.countP fun y => eqV y x
  | _, _, .nil, _ => rfl
  | y :: xs, u :: us, .cons r t, f => by
    rw [List.all_cons, Bool.and_eq_true] at f
    rw [List.countP_cons, List.countP_cons, eqU_of r f.1, count_eqU t f.2]
theorem mt_countX : MtR X "list.count" (rCntX X.K) := by
  intro pins s σ H x xs v us Q I rx rxs h
  obtain ⟨p, ys, k, rfl, rfl, hs, fk, fy, q⟩ := h
  cases rx
  obtain ⟨u, rfl, ru⟩ := rxs.one
  obtain ⟨its, rv, ⟨⟨cls, dd, data, sl⟩, n, ho, hc, hdn, hd⟩, hlen⟩ := I.list hs
  simp only at hc hd
  subst hc hd
  refine call_meets PySem.F.slot_list_count ⟨_, ho, rfl⟩ PySem.F.entry_list_count (PySem.F.args_list_count_2 _ _)
    (SeqAt.list_countAt p its.toArray n dd sl u (eqU k)) ⟨ho, fun y hy => mem_eqAt ru fk rv fy y (by simpa using hy), ?_⟩
  have ec : its.toArray.toList.countP (eqU k) = ys.countP fun y => eqV y k := count_eqU rv fy
  refine ⟨.int _, H, I.tok _, ⟨s.toks, rfl⟩, ?_⟩
  rw [ec]
  exact q
def cntD (x : D) (l : List D) : Nat := l.countP fun y => eqFD y x
def cntM : LM := fun ds es Q => match es with
  | [x] => flatD x = true ∧ ds.all flatD = true ∧ Q (.int (cntD x ds)) ds
  | _ => False
theorem upd_self {H : Hp} {a : Addr} {u : HO} (h : H a = some u) : upd H a u = H := by
  funext b
  by_cases e : b = a
  · subst e; rw [upd_same, h]
  · rw [upd_ne e]
theorem cnt_of {F : Hp} {d : D} {v : V} (h : Is K F d v) (f : flatD d = true) : ∀ {ds : List D} {vs : List V}, IsL K F ds vs → ds.all flatD = true → (vs.countP fun y => eqV y v) = cntD d ds
  | [], _, l, _ => by cases l; rfl
  | e :: ds, _, ⟨u, r, q, k, l⟩, g => by
    subst q
    rw [List.all_cons, Bool.and_eq_true] at g
    have e2 : cntD d (e :: ds) = cntD d ds + if eqFD e d = true then 1 else 0 := by simp [cntD, List.countP_cons]
    rw [List.countP_cons, e2, cnt_of h f l g.2, eqV_of k h g.1 f]
theorem sim_cnt : SimL K (rCntX K) cntM := by
  intro F H a ds vs es ws Q Qd e na ha l le q k
  unfold cntM at q
  split at q
  · obtain ⟨v, r, rfl, iv, ir⟩ := le
    cases ir
    obtain ⟨f1, f2, q⟩ := q
    refine ⟨a, vs, v, rfl, rfl, SqL.of ha, flatV_of iv f1, flatL_of l f2, ?_⟩
    have := k (.int _) (.int _) vs ds rfl l q
    rw [upd_self ha] at this
    rw [cnt_of iv f1 l f2]
    exact this
  · exact q.elim

/-! ### list(d) -/
def rLstDct (K : KW) : List V → Hp → VK → Prop := fun xs H Q => ∃ a ks kvs us, xs = [.ref a] ∧ DAt K.w H a ks kvs us ∧ ks.length ≤ sizeLine ∧ ∀ p, H p = none → Q (.ref p) (upd H p (.lst kvs))
theorem ents_keyAt {w : World} : ∀ {es : List DictEntry} {ks : List NestedKey} {kvs us : List V}, Ents w es ks kvs us → ∀ (j : Nat) (x : V) (en : DictEntry), kvs[j]? = some x → es[j]? = some en → RelV x en.key
  | _, _, _, _, .nil, _, _, _, h, _ => by simp at h
  | _, _, _, _, .cons _ r _ _, 0, _, _, h1, h2 => by simp at h1 h2; subst h1; subst h2; exact r
  | _, _, _, _, .cons _ _ _ t, j + 1, _, _, h1, h2 => ents_keyAt t j _ _ (by simpa using h1) (by simpa using h2)
theorem cr_lstDct (hc : X.calm = true) : CallR X (.type "list") (rLstDct (kk X)) := by
  intro pins s σ H xs us Q I r h
  obtain ⟨d, ks, kvs, vs, rfl, hd, hz, q⟩ := h
  obtain ⟨u, rfl, rx⟩ := r.one
  cases rx
  obtain ⟨o, ho, hx, ⟨es, ep, hdt, en⟩, nd⟩ := hd.obj I
  obtain ⟨l1, l2, l3⟩ := ents_len en
  have l0 : es.size = ks.length := by rw [← l1]; simp
  refine PySem.W.kdl_call (kdl_raw hd.1 hx hdt) (I.ok.hd hc) ho (by omega) fun h' tk acc' c' kp e it => ?_
  have rv : Vals kvs acc'.toList := vals_of_at (by
    have e1 : acc'.toList.length = acc'.size := by simp
    have e2 := it.1
    omega) fun j x v h1 h2 => by
    obtain ⟨ent, hen, hv⟩ := it.2 j v (by rw [← Array.getElem?_toList]; exact h2)
    rw [hv]
    exact ents_keyAt en j x ent h1 (by rw [Array.getElem?_toList]; exact hen)
  refine ⟨.ref s.heap.objs.size, _, I.laid (t' := tk) (o := .lst kvs) kp (Nat.le_refl _) ?_, rfl, q _ (I.hok.fresh (Nat.le_refl _))⟩
  exact ⟨by omega, acc'.toList, c', rv, by rw [Array.toArray_toList]; exact e⟩
def dListD (a : TDE) : TDE := fun en Q Qe => a en (fun d en1 => match d with
  | .dct ks _ => Q (.lst ks) en1
  | _ => False) Qe
theorem do_listD {x : Str} {p pos : Pos} {e : Expr} {te : TE} {td : TDE} (hc : X.calm = true) (hx : x = "list") (hg : Gl X x) (hm : X.mg x = none) (h : DE X W e te td) (he : starEach [e] X.env = (false, eval e X.env) :: starEach [] X.env := by rfl) :
    DO X W (.Call (.Name x p) [e] [] pos) (tCB (rLstDct (kk X)) (tCons te tNil)) (dListD td) :=
  ⟨by
    subst hx
    exact pe_callTy (cr_lstDct hc) hg hm PyProof.Rows.boot_list (pa_cons h.pe pa_nil he) (by decide) (by decide) he rfl, fun G F H σ en Q Qd Qe R q x k => h.sim G F H σ en _ _ Qe R q x fun v d F1 H1 en1 e1 R1 i1 q1 => by
      split at q1
      · obtain ⟨a, ks, kvs, us, rfl, hh⟩ := dhas_fz R1.le i1
        exact ⟨a, ks, kvs, us, rfl, hh.at_, hh.hz, fun p hp => by
          obtain ⟨h1, h2⟩ := new_lst R1 hh.lk hp
          exact k _ _ _ _ en1 e1 h1 h2 q1⟩
      · exact q1.elim⟩
@[simp ↓] theorem r_ListD {a : TDE} {en : En} {Q : D → En → Prop} {Qe : Qx} : dListD a en Q Qe = a en (fun d en1 => match d with
  | .dct ks _ => Q (.lst ks) en1
  | _ => False) Qe := by rfl

/-! ### max, min of two ints -/
def max2D : CD := fun ds Q => match ds with
  | [.int i, .int j] => Q (.int (if j > i then j else i))
  | _ => False
theorem sim_max2 : SimC K (fun xs H Q => ∃ i j, xs = [.int i, .int j] ∧ Q (.int (if j > i then j else i)) H) max2D := by
  intro G F H σ en ds vs Q Qd R i q k
  unfold max2D at q
  split at q
  · obtain ⟨v, r, rfl, iv, v2, r2, rfl, iv2, ir⟩ := i
    cases ir
    cases iv
    cases iv2
    exact ⟨_, _, rfl, k _ (.int _) F H (Same.refl F) R rfl q⟩
  · exact q.elim
@[simp ↓] theorem r_max2 {i j : Int} {Q : D → Prop} : max2D [.int i, .int j] Q = Q (.int (if j > i then j else i)) := rfl
end
end DL

/-! The D layer, part 34: a def with *rest, objects handed in. -/
namespace DL
open PySem PySem.Spec PyProof.Rows L2
section
variable {P : Program} {w : World} {K : Fg} {mg : Str → Option Value} {base : Heap} {x qual : Str} {params : Arguments} {body : List Stmt} {scope : Scope} {f : Addr} {N ps : List Str} {k : Nat} {io : List Nat} {sd : SpD} {td : TDS} {cdv : Value}
variable {kn pv : Str} {dv : V} {dd : D} {pp : List Str} {fd : FuncData}
/-- f(a, .., *rest), objects handed in among the first -/
theorem fnS (F : FunD K x qual params body scope [] [] f fd) (S : FnScope N (pp ++ [pv]) scope)
    (hb : ∀ (kV doc pm : Value) (an : Option Addr) (cdv ct : Value) (us rest : List Value), us.length = pp.length → bindArgs (PySem.W.fnOf x qual params body scope .none kV doc pm an cdv ct) ⟨us ++ rest, []⟩ = (newTuple rest >>= fun t => pure (pp.zip us ++ [(pv, t)])))
    (hps : (pp ++ [pv]).length ≤ N.length) (hion : io.Nodup) (hio : ∀ i ∈ io, i < pp.length) (len : ∀ ds Qd Qe, sd ds Qd Qe → ds.length = (pp ++ [pv]).length)
    (walk : ∀ (cdv : Value) (A : Around) (outer : List Env) (s : Shared) (H : Hp) (E : XK), Room k (A.deeper (PyProof.Rows.envOfC qual scope s.heap.objs.size f cdv)) →
      ∃ ts, DSs (cxOf (L2N.CX P w) P w K mg base N qual scope f cdv A outer s H E) (wBody E) body ts td)
    (rd : ∀ ds Qd Qe, sd ds Qd Qe → td (endsD io Qd Qe) (startE N.length io ds)) : FnR P w K mg base (L2N.CX P w) (k + 1) f (spOf ⟨K, w⟩ io (stSp pp.length sd)) := by
  intro A outer s H us vs Q E hr e0 r hq
  obtain ⟨oc, od, dV, kV, doc, pm, an, cdv, ct, osl, rfl, lk, hcd, hD, hK⟩ := F.ex
  have hD : dV = .none := by
    rcases hD with ⟨_, e⟩ | ⟨e, _⟩
    · exact e
    · exact absurd rfl e
  subst hD
  obtain ⟨F0, ds, Qd, Qe, eF, A0, ⟨hn, hsz, _⟩, _, _⟩ := id hq
  have hvl : vs.length = ds.length := A0.len
  have hul : us.length = vs.length := r.length.symm
  have fresh : H s.heap.objs.size = Option.none := e0.hok.fresh (Nat.le_refl _)
  have hrest : (us.drop pp.length).length ≤ sizeLine := by rw [List.length_drop]; omega
  have rr := vals_take pp.length r
  have KX : K.In s.heap := e0.mod.kin.keeps fun b o e => (e0.bs b o e).1
  refine StX.run_bnd lk hcd S hr e0 (G := fun xs H2 => ∃ p, H p = Option.none ∧ xs = vs.take pp.length ++ [V.ref p] ∧ H2 = upd H p (.tup (vs.drop pp.length))) (fun A' Ex Q' h => ?_) fun s2 H2 xs ⟨p, hp, ex, eH⟩ hr' => ?_
  · have e := hb kV doc pm an cdv ct (us.take pp.length) (us.drop pp.length) (by rw [List.length_take]; omega)
    rw [List.take_append_drop] at e
    show wpAny (model P w) A' (bindArgs _ ⟨us, []⟩) Q' Ex s
    rw [e]
    refine wpAny_bind (wpAny_newTuple (wpAny_pure ?_) hrest)
    have new : ObjOk P w (upd H s.heap.objs.size (.tup (vs.drop pp.length))) (s.heap.push ({ cls := .type "tuple", data := .seq (us.drop pp.length).toArray } : Obj)) s.heap.objs.size (.tup (vs.drop pp.length)) :=
      ⟨by rw [rr.2.length]; exact hrest, us.drop pp.length, rr.2, ⟨_, Heap.get?_push_size _ rfl, rfl, _, rfl⟩⟩
    have un := StX.un_laid (fs := frs outer) (s := s) (o := ({ cls := .type "tuple", data := .seq (us.drop pp.length).toArray } : Obj)) (u := .tup (vs.drop pp.length)) fresh
    have q := h _ _ (vs.take pp.length ++ [V.ref s.heap.objs.size]) (us.take pp.length ++ [Value.ref s.heap.objs.size]) (StX.env0_laid e0 new) un rfl (fun e s' => cxUpN outer s H _ _ E e s' un (fun b o q => Heap.get?_push_of_some _ q) rfl) (rr.1.append (.cons rfl .nil))
      (by simp; omega) ⟨_, fresh, rfl, rfl⟩
    have ez : (pp ++ [pv]).zip (us.take pp.length ++ [Value.ref s.heap.objs.size]) = pp.zip (us.take pp.length) ++ [(pv, Value.ref s.heap.objs.size)] := by
      rw [List.zip_append (by rw [List.length_take]; omega)]
      rfl
    rw [ez] at q
    exact q
  · subst ex eH
    refine bodyD hps hion (fun i m => by have := hio i m; rw [List.length_append]; omega) len (walk cdv A outer s2 _ E hr') rd ?_
    exact spOf_up (n := pp.length) (u := .tup (vs.drop pp.length)) (ws := [V.ref p]) (sd' := sd) hio hq hp (fun F1 es' Qd' Qe' e1 fp h1 hl1 l1 => by
      obtain ⟨hn', hsz', h2⟩ := h1
      exact ⟨hn', [.tup (es'.drop pp.length)], h2, V.ref p, [], rfl, ⟨p, vs.drop pp.length, rfl, .inl (.inl upd_same), IsL.mono (same_upd fp) _ _ l1⟩, rfl⟩)
end
@[simp ↓] theorem r_stSp1 {sd : SpD} {d : D} {ds : List D} {Qd : D → List D → Prop} {Qe : Exn → List D → Prop} : stSp 1 sd (d :: ds) Qd Qe = (ds.length + 1 ≤ sizeLine ∧ sd [d, .tup ds] Qd Qe) := by
  unfold stSp
  simp
end DL

/-! The D layer, part 35: defs called within an except suite. -/
namespace DL
open PySem PySem.Spec PyProof.Rows L2

/-- what a def promises there -/
def FnHD (P : Program) (w : World) (K : Fg) (mg : Str → Option Value) (base : Heap) (k : Nat) (f : Addr) (ps : List Str) (sd : SpD) : Prop := ∃ fd, L2H.FnH P w K mg base (L2N.CX P w) k f fd ps (spOf ⟨K, w⟩ [] sd) ∧ Binds K fd ps []
theorem FnHD.mono {P : Program} {w : World} {K : Fg} {mg : Str → Option Value} {base : Heap} {j k : Nat} {f : Addr} {ps : List Str} {sd : SpD} (F : FnHD P w K mg base j f ps sd) (h : j ≤ k) : FnHD P w K mg base k f ps sd := by
  obtain ⟨fd, F, b⟩ := F
  exact ⟨fd, ⟨F.len, fun A outer s H args us vs Q E p hr => F.run A outer s H args us vs Q E p (hr.mono h)⟩, b⟩
theorem unitsH {k : Nat} {A : Around} (r : L2H.RoomH k A) : A.units + 64 < cLine := by have := r.un; omega
theorem hot_suite {X : Cx} {a : Addr} {oe : Obj} {cls : Value} {d : Option Addr} {pn : List (Addr × Obj)} (hz : L2N.Zn cls d oe) (hv : ∃ vs, oe.data = .fields vs) : L2H.HotC (X.suite a ((a, oe) :: pn)) := by
  obtain ⟨vs, hv⟩ := hv
  exact ⟨(a, oe), ⟨rfl, vs, hv, hz.2.2 vs hv⟩, List.mem_cons_self⟩
theorem room_suite {X : Cx} {a : Addr} {k : Nat} {pn : List (Addr × Obj)} (r : Room k X.A) : L2H.RoomH k (X.suite a pn).A := ⟨r.dp, r.un⟩
section
variable {P : Program} {w : World} {K : Fg} {mg : Str → Option Value} {base : Heap}
/-- THE RULE for a def that is called within a suite -/
theorem fnHD_of {x qual : Str} {params : Arguments} {body : List Stmt} {scope : Scope} {f : Addr} {fd : FuncData} {N ps : List Str} {k : Nat} {sd : SpD} {td : TDS} (F : FunD K x qual params body scope [] [] f fd) (S : FnScope N ps scope)
    (hb : Binds K fd ps []) (hps : ps.length ≤ N.length) (len : ∀ ds Qd Qe, sd ds Qd Qe → ds.length = ps.length)
    (walk : ∀ (cdv : Value) (A : Around) (outer : List Env) (s : Shared) (H : Hp) (E : XK) (p : Addr × Obj), L2H.HotC (L2H.cxH (L2N.CX P w) P w K mg base N qual scope f cdv A outer s H E p) → L2H.RoomH k (A.deeper (PyProof.Rows.envOfC qual scope s.heap.objs.size f cdv)) →
      ∃ ts, DSs (L2H.cxH (L2N.CX P w) P w K mg base N qual scope f cdv A outer s H E p) (wBody E) body ts td)
    (rd : ∀ ds Qd Qe, sd ds Qd Qe → td (endsD [] Qd Qe) (startE N.length [] ds)) : FnHD P w K mg base (k + 1) f ps sd := by
  obtain ⟨oc, od, dV, kV, doc, pm, an, cdv, ct, osl, rfl, lk, hcd, hD, hK⟩ := F.ex
  refine ⟨_, L2H.fn_ofH lk hcd S (fun vs H Q E h => ?_) (fun A outer s H vs Q E p hot hr h => ?_), hb⟩
  · obtain ⟨F', ds, Qd, Qe, _, A, h, _⟩ := h
    rw [A.len]
    exact len ds Qd Qe h
  obtain ⟨F', ds, Qd, Qe, e, A', h, h1, h2⟩ := h
  obtain ⟨ts, wk⟩ := walk cdv A outer s H E p ⟨p, hot, List.mem_singleton_self p⟩ hr
  refine ⟨ts, wk.ps, ?_⟩
  have hl := len ds Qd Qe h
  have R := start_rel (N := N) e A' (by rw [hl]; exact hps) (by simp)
  refine wk.sim _ F' H _ _ _ _ R (rd ds Qd Qe h) ⟨fun F1 H1 σ en R1 q => ?_, fun v d F1 H1 σ en _ R1 i q => ?_, fun F1 H1 σ en R1 q => q.elim, fun F1 H1 σ en R1 q => q.elim, fun x F1 H1 σ en cls d R1 i q => ?_, fun a d F1 H1 σ en z => (nomatch z)⟩
  · obtain ⟨_, outs, q1, q2⟩ := q
    exact h1 _ .non outs F1 H1 (rel_post R1) rfl (outs_rel (by simp) R1 q1) q2
  · obtain ⟨outs, q1, q2⟩ := q
    exact h1 _ d outs F1 H1 (rel_post R1) i (outs_rel (by simp) R1 q1) q2
  · obtain ⟨outs, q1, q2⟩ := q
    exact h2 x outs cls d F1 H1 (rel_post R1) i (outs_rel (by simp) R1 q1) q2
theorem fnHD_no {k : Nat} {x qual : Str} {params : Arguments} {body : List Stmt} {scope : Scope} {f : Addr} {fd : FuncData} {ps : List Str} (F : FunD K x qual params body scope [] [] f fd) (hb : Binds K fd ps []) : FnHD P w K mg base k f ps (fun _ _ _ => False) :=
  ⟨fd, ⟨fun vs H Q E h => by obtain ⟨_, _, _, _, _, _, h, _⟩ := h; exact h.elim, fun A outer s H args us vs Q E p hr hot pin e0 b r h => by obtain ⟨_, _, _, _, _, _, h, _⟩ := h; exact h.elim⟩, hb⟩
end
section
variable {X : Cx} {W : WX} {k : Nat} {f : Addr} {ps : List Str} {sd : SpD} {x : Str} {p pos : Pos} {e : Expr} {es : List Expr} {t : TA} {d : TDA}
theorem de_callH (F : FnHD X.prog X.w X.K X.mg X.base k f ps sd) (hr : L2H.RoomH k X.A) (hc : L2H.HotC X) (tk : Takes X W) (hg : Gl X x) (hm : X.mg x = some (.ref f)) (hk : PySem.W.keepIn X.K (.ref f) = true) (ha : DA X W (e :: es) t d) (hd : (x == ("__debug__" : Str)) = false := by decide)
    (he : starEach (e :: es) X.env = (false, eval e X.env) :: starEach es X.env := by rfl) (hpl : (backTo pos (starEach es X.env)).any (·.1) = false := by rfl) : DE X W (.Call (.Name x p) (e :: es) [] pos) (tCallR (spOf (kk X) [] sd) W t) (dCall sd d) := by
  obtain ⟨fd, F, hb⟩ := F
  exact ⟨L2H.pe_callH (E := WE W) F hr hc hg hm hk hb (fun σ => passAt tk σ) ha.pa hd he hpl, sim_call ha.sim⟩
structure DIH (X : Cx) (W : WX) (tg iter : Expr) (wi : TI) (di : TDI) : Prop where
  pi : L2H.PIH X tg iter wi
  sim : SimI (kk X) W wi di
theorem di_range1H {tg a : Expr} {ta : TA} {p pos : Pos} {d : TDA} (hg : Gl X "range") (hm : X.mg "range" = none) (h : DA X W [a] ta d) (hs : starEach [a] X.env = [(false, eval a X.env)] := by rfl) : DIH X W tg (.Call (.Name "range" p) [a] [] pos) (iRng1 ta) (diRng1 d) :=
  ⟨L2H.pi_range1H hg hm h.pa hs, (di_range1 (tg := tg) (p := p) (pos := pos) hg hm h hs).sim⟩
theorem sim_for {K : KW} {wi : TI} {di : TDI} {g : TG} {gd : TDG} {tb : TS} {db : TDS} (hi : SimI K W wi di) (hg : SimG K g gd) (hb : SimS K W tb db) : SimS K W (tFor wi g tb) (dFor di gd db) := fun G F H σ en D' B R q k => hi G F H σ en _ _ _ R q k.ex fun J ds F1 H1 en1 e1 R1 it q1 => by
    refine ⟨fun i m σ H => m = ds.length - i ∧ i ≤ ds.length ∧ ∃ F en, Same F1 F ∧ Rel K G F H σ en ∧ loopD gd db B (ds.drop i) en, ⟨ds.length, by simp, Nat.zero_le _, F1, en1, Same.refl _, R1, q1⟩, ?_⟩
    rintro i m σ H ⟨rfl, hi, F2, en2, e2, R2, q2⟩
    by_cases hlt : i < ds.length
    · refine .inr ⟨it.go i F2 H e2 R2.le hlt, fun σ' H' => ∃ F en, Same F1 F ∧ Rel K G F H' σ' en ∧ loopD gd db B (ds.drop (i + 1)) en, fun σ' H' ⟨F3, en3, e3, R3, q3⟩ => ⟨ds.length - (i + 1), by omega, rfl, hlt, F3, en3, e3, R3, q3⟩, fun x H' y => ?_⟩
      obtain ⟨F3, e3, R3, d, hd, id⟩ := it.yld i G F2 H σ en2 x H' e2 R2 hlt y
      have hd' : ds[i] = d := by rw [List.getElem?_eq_getElem hlt] at hd; exact Option.some.inj hd
      rw [List.drop_eq_getElem_cons hlt, hd'] at q2
      refine hg G F3 H' σ en2 d x _ _ R3 id q2 fun F4 H4 σ4 en4 e4 R4 q4 => ?_
      refine hb { G with F0 := F1 } F4 H4 σ4 en4 _ _ (R1.fwd R4 ((e2.trans e3).trans e4)) q4 ⟨fun F5 H5 σ5 en5 R5 q5 => ⟨F5, en5, R5.f0, R1.bwd R5, q5⟩, fun v d F5 H5 σ5 en5 z R5 i5 q5 => k.rt v d F5 H5 σ5 en5 z (R1.bwd R5) i5 q5,
        fun F5 H5 σ5 en5 R5 q5 => k.nx F5 H5 σ5 en5 (R1.bwd R5) q5, fun F5 H5 σ5 en5 R5 q5 => ⟨F5, en5, R5.f0, R1.bwd R5, q5⟩, fun x F5 H5 σ5 en5 cls dd R5 => k.ex x F5 H5 σ5 en5 cls dd (R1.bwd R5), fun a d F5 H5 σ5 en5 z R5 T5 q5 => k.rtO a d F5 H5 σ5 en5 z (R1.bwd R5) ⟨T5.nf, T5.at_, T5.n0, T5.ns⟩ q5⟩
    · have e : i = ds.length := by omega
      subst e
      rw [List.drop_length] at q2
      exact .inl ⟨it.stop F2 H e2 R2.le, k.nx F2 H σ en2 R2 q2⟩
theorem ds_forH {tg iter : Expr} {body : List Stmt} {pos : Pos} {wi : TI} {di : TDI} {g : TG} {gd : TDG} {tb : TS} {db : TDS} (hp : PassesOwn (model X.prog X.w) X.A X.env X.xe) (hc : L2H.HotC X) (hi : DIH X W tg iter wi di) (hg : DG X tg g gd) (hb : DSs X W body tb db)
    (hs : ∀ x, foldedSetIterable iter X.env x = pure x := by intro _; rfl) : DS X W (.For tg iter body [] pos) (tFor wi g tb) (dFor di gd db) :=
  ⟨L2H.ps_forH hp hc hi.pi hg.pg hb.ps hs, sim_for hi.sim hg.sim hb.sim⟩
end
end DL

/-! The D layer, part 36: loops and comprehensions by what stays true. -/
namespace DL
open PySem L2

section
variable {g : TDG} {b : TDS} {B : DEnds} {c : TDT} {m : TMD}
/-- a for, by what holds ahead of turn i -/
theorem loop_inv (P : Nat → En → Prop) (ds : List D) (step : ∀ i d en N, ds[i]? = some d → P i en → (∀ en', P (i + 1) en' → N en') → g d en fun en1 => b { B with nx := N, ct := N, bk := B.nx } en1) (stop : ∀ en, P ds.length en → B.nx en) :
    ∀ en, P 0 en → loopD g b B ds en := by
  have key : ∀ (k : Nat) (es : List D) (n : Nat), ds.drop n = es → ds.length = n + es.length → ∀ en, P n en → loopD g b B es en := by
    intro k es
    induction es with
    | nil =>
      intro n _ hl en p
      have : ds.length = n := by simpa using hl
      rw [← this] at p
      exact stop en p
    | cons d es ih =>
      intro n hd hl en p
      have h0 : ds[n]? = some d := by
        have : (ds.drop n)[0]? = some d := by rw [hd]; rfl
        rwa [List.getElem?_drop, Nat.add_zero] at this
      have h1 : ds.drop (n + 1) = es := by
        have : (ds.drop n).drop 1 = es := by rw [hd]; rfl
        rwa [List.drop_drop] at this
      exact step n d en _ h0 p fun en' p' => ih (n + 1) h1 (by rw [hl, List.length_cons]; omega) en' p'
  intro en p
  exact key 0 ds 0 (by simp) (by simp) en p
/-- a comprehension's clause, by what holds ahead of turn i -/
theorem cl_inv (P : Nat → D → En → Prop) (ds : List D) {N : D → En → Prop} (step : ∀ i d acc en (N : D → En → Prop), ds[i]? = some d → P i acc en → (∀ acc' en', P (i + 1) acc' en' → N acc' en') →
      g d en fun en1 => c en1 (fun b en2 => if b = true then m acc en2 N else N acc en2) noE) (stop : ∀ acc en, P ds.length acc en → N acc en) : ∀ acc en, P 0 acc en → clD g c m ds acc en N := by
  have key : ∀ (es : List D) (n : Nat), ds.drop n = es → ds.length = n + es.length → ∀ acc en, P n acc en → clD g c m es acc en N := by
    intro es
    induction es with
    | nil =>
      intro n _ hl acc en p
      have : ds.length = n := by simpa using hl
      rw [← this] at p
      exact stop acc en p
    | cons d es ih =>
      intro n hd hl acc en p
      have h0 : ds[n]? = some d := by
        have : (ds.drop n)[0]? = some d := by rw [hd]; rfl
        rwa [List.getElem?_drop, Nat.add_zero] at this
      have h1 : ds.drop (n + 1) = es := by
        have : (ds.drop n).drop 1 = es := by rw [hd]; rfl
        rwa [List.drop_drop] at this
      exact step n d acc en (fun acc' en3 => clD g c m es acc' en3 N) h0 p fun acc' en' p' => ih (n + 1) h1 (by rw [hl, List.length_cons]; omega) acc' en' p'
  intro acc en p
  exact key ds 0 (by simp) (by simp) acc en p
end
/-- .. of a list's comprehension with a name for its target -/
theorem lc_inv {vs : List Nat} {g : TDG} {c : TDT} {e : TDE} (P : Nat → List D → En → Prop) (ds : List D) {N : List D → En → Prop} (step : ∀ i d acc en (N : List D → En → Prop), ds[i]? = some d → P i acc en → (∀ acc' en', P (i + 1) acc' en' → N acc' en') →
      g d (wipeE en vs) fun en1 => c en1 (fun b en2 => if b = true then e en2 (fun x en3 => acc.length < sizeLine ∧ N (acc ++ [x]) en3) noE else N acc en2) noE) (stop : ∀ acc en, P ds.length acc en → N acc en) : ∀ acc en, P 0 acc en → lcD vs g c e ds acc en N := by
  have key : ∀ (es : List D) (n : Nat), ds.drop n = es → ds.length = n + es.length → ∀ acc en, P n acc en → lcD vs g c e es acc en N := by
    intro es
    induction es with
    | nil =>
      intro n _ hl acc en p
      have : ds.length = n := by simpa using hl
      rw [← this] at p
      exact stop acc en p
    | cons d es ih =>
      intro n hd hl acc en p
      have h0 : ds[n]? = some d := by
        have : (ds.drop n)[0]? = some d := by rw [hd]; rfl
        rwa [List.getElem?_drop, Nat.add_zero] at this
      have h1 : ds.drop (n + 1) = es := by
        have : (ds.drop n).drop 1 = es := by rw [hd]; rfl
        rwa [List.drop_drop] at this
      exact step n d acc en (fun acc' en3 => lcD vs g c e es acc' en3 N) h0 p fun acc' en' p' => ih (n + 1) h1 (by rw [hl, List.length_cons]; omega) acc' en' p'
  intro acc en p
  exact key ds 0 (by simp) (by simp) acc en p
theorem range_at {lo : Int} {n i : Nat} {d : D} (h : (rangeD lo n)[i]? = some d) : i < n ∧ d = .int (lo + i) := by
  unfold rangeD at h
  rw [List.getElem?_map] at h
  cases hi : (List.range n)[i]? with
  | none => rw [hi] at h; cases h
  | some j =>
    rw [hi] at h
    cases h
    have hl := (List.getElem?_eq_some_iff.mp hi).1
    rw [List.length_range] at hl
    rw [List.getElem?_range hl] at hi
    cases hi
    exact ⟨hl, rfl⟩
theorem range_len {lo : Int} {n : Nat} : (rangeD lo n).length = n := by simp [rangeD]
end DL

namespace DL
open PySem L2
def top (i : Nat) : Stmt := PySem.Challenge.pw_totalsbeside_k07_whole_cycle_or_model.main.body.getD i (.Pass ⟨0, 0, 0, 0⟩)
def ts : List He.Tab := []
def fx : List (Fg → Bool) := [fun K => (He.Fa.glo "_law_start").ok K,
  fun K => (He.Fa.keep "_law_start").ok K,
  fun K => (He.Fa.glo "_law_names").ok K,
  fun K => (He.Fa.keep "_law_names").ok K,
  fun K => (He.Fa.glo "_law_draw").ok K,
  fun K => (He.Fa.keep "_law_draw").ok K,
  fun K => (He.Fa.glo "_law_centres").ok K,
  fun K => (He.Fa.keep "_law_centres").ok K,
  fun K => (He.Fa.glo "_law_some_bounds").ok K,
  fun K => (He.Fa.keep "_law_some_bounds").ok K,
  fun K => (He.Fa.free "len").ok K,
  fun K => (He.Fa.glo "_law_ring").ok K,
  fun K => (He.Fa.keep "_law_ring").ok K,
  fun K => (He.Fa.glo "_law_bounds_of").ok K,
  fun K => (He.Fa.keep "_law_bounds_of").ok K,
  fun K => (He.Fa.glo "_law_right").ok K,
  fun K => (He.Fa.keep "_law_right").ok K,
  fun K => (He.Fa.free "range").ok K,
  opB "Bounds" "__add__",
  fun K => (He.Fa.glo "_law_two_sides").ok K,
  fun K => (He.Fa.keep "_law_two_sides").ok K,
  fun K => (He.Fa.cls "Bounds").ok K,
  fun K => (He.Fa.noat "Bounds" "cycle").ok K,
  fun K => (He.Fa.glo "_law_same").ok K,
  fun K => (He.Fa.keep "_law_same").ok K,
  fun K => (He.Fa.free "tuple").ok K,
  fun K => (He.Fa.noat "Bounds" "added").ok K,
  fun K => (He.Fa.free "int").ok K,
  fun K => (He.Fa.glo "_law_mixed").ok K,
  fun K => (He.Fa.keep "_law_mixed").ok K,
  fun K => (He.Fa.glo "_law_shift").ok K,
  fun K => (He.Fa.keep "_law_shift").ok K,
  fun K => (He.Fa.glo "_law_near").ok K,
  fun K => (He.Fa.keep "_law_near").ok K,
  fun K => (He.Fa.mkr "Bounds").ok K,
  fun K => (He.Fa.glo "Bounds").ok K,
  fun K => (He.Fa.noat "Bounds" "names").ok K,
  fun K => (He.Fa.noat "Bounds" "chains").ok K,
  fun K => (He.Fa.glo "_law_keeps").ok K,
  fun K => (He.Fa.keep "_law_keeps").ok K,
  fun K => (He.Fa.meth "Bounds" "model").ok K,
  fun K => (He.Fa.glo "_law_is_a_cycle").ok K,
  fun K => (He.Fa.keep "_law_is_a_cycle").ok K,
  fun K => (He.Fa.glo "_law_contradicts").ok K,
  fun K => (He.Fa.keep "_law_contradicts").ok K,
  fun K => isiChk K (.type "dict") (isiDct []) [],
  fun K => (He.Fa.free "isinstance").ok K,
  fun K => (He.Fa.free "dict").ok K,
  fun K => (He.Fa.free "list").ok K,
  fun K => (He.Fa.glo "_law_number").ok K,
  fun K => (He.Fa.keep "_law_number").ok K,
  fun K => isiChk K (.type "int") (isiInt []) [],
  fun K => isiChk K (.type "bool") (isiBool []) [],
  fun K => (He.Fa.free "bool").ok K,
  fun K => isiChk K (.type "str") (isiStr []) [],
  fun K => (He.Fa.free "str").ok K,
  fun K => isiChk K (.type "tuple") (isiTup []) [],
  fun K => isiChk K (.type "list") (isiLst []) [],
  fun K => (He.Fa.meth "Bounds" "tightest").ok K,
  xcNB "Contradiction",
  fun K => (He.Fa.glo "Contradiction").ok K,
  fun K => (He.Fa.glo "chain_shift").ok K,
  fun K => (He.Fa.keep "chain_shift").ok K,
  fun K => (He.Fa.glo "found_cycle").ok K,
  fun K => (He.Fa.keep "found_cycle").ok K,
  fun K => (He.Fa.glo "longer_chains").ok K,
  fun K => (He.Fa.keep "longer_chains").ok K,
  fun K => (He.Fa.free "sorted").ok K,
  xiB "HeldError" [("Contradiction", true)],
  fun K => (He.Fa.glo "HeldError").ok K,
  xiB "UnknownColumn" [("Contradiction", false)],
  fun K => (He.Fa.glo "UnknownColumn").ok K,
  xfsB ["Contradiction"] "cycle",
  exmB "Contradiction" ["Contradiction"] ["UnknownColumn"],
  fun K => (He.Fa.glo "law").ok K,
  supB "Contradiction" "/claim/cut.py",
  fun K => He.eqO (PySem.W.findIn K (.ref (He.ga K "Contradiction")) "cycle") (some none),
  fun K => (He.Fa.free "super").ok K]
def fn : List DefX := [⟨fun K => (He.ga K "_law_start"), "_law_start", "_law_start", defArgs (top 10), defBody (top 10), defScope (top 10), [], [], []⟩,
  ⟨fun K => (He.ga K "_law_mixed"), "_law_mixed", "_law_mixed", defArgs (top 11), defBody (top 11), defScope (top 11), [], [], []⟩,
  ⟨fun K => (He.ga K "_law_draw"), "_law_draw", "_law_draw", defArgs (top 12), defBody (top 12), defScope (top 12), [], [], []⟩,
  ⟨fun K => (He.ga K "_law_names"), "_law_names", "_law_names", defArgs (top 15), defBody (top 15), defScope (top 15), [], [], []⟩,
  ⟨fun K => (He.ga K "_law_centres"), "_law_centres", "_law_centres", defArgs (top 16), defBody (top 16), defScope (top 16), [], [], []⟩,
  ⟨fun K => (He.ga K "_law_two_sides"), "_law_two_sides", "_law_two_sides", defArgs (top 19), defBody (top 19), defScope (top 19), [], [], []⟩,
  ⟨fun K => (He.ga K "_law_near"), "_law_near", "_law_near", defArgs (top 17), defBody (top 17), defScope (top 17), [], [], []⟩,
  ⟨fun K => (He.ga K "_law_shift"), "_law_shift", "_law_shift", defArgs (top 22), defBody (top 22), defScope (top 22), [], [], []⟩,
  ⟨fun K => (He.ga K "_law_some_bounds"), "_law_some_bounds", "_law_some_bounds", defArgs (top 23), defBody (top 23), defScope (top 23), [], [], []⟩,
  ⟨fun K => (He.ga K "_law_ring"), "_law_ring", "_law_ring", defArgs (top 24), defBody (top 24), defScope (top 24), [], [], []⟩,
  ⟨fun K => (He.ma K (He.ga K "Bounds") "__init__"), "__init__", "Bounds.__init__", defArgs (inClass (top 8) 0), defBody (inClass (top 8) 0), defScope (inClass (top 8) 0), [], [("start", .non)], []⟩,
  ⟨fun K => (He.ga K "_law_bounds_of"), "_law_bounds_of", "_law_bounds_of", defArgs (top 18), defBody (top 18), defScope (top 18), [], [], []⟩,
  ⟨fun K => (He.ga K "_law_same"), "_law_same", "_law_same", defArgs (top 13), defBody (top 13), defScope (top 13), [], [], []⟩,
  ⟨fun K => (He.ga K "_law_number"), "_law_number", "_law_number", defArgs (top 14), defBody (top 14), defScope (top 14), [], [], []⟩,
  ⟨fun K => (He.ga K "_law_keeps"), "_law_keeps", "_law_keeps", defArgs (top 20), defBody (top 20), defScope (top 20), [], [], []⟩,
  ⟨fun K => (He.ga K "chain_shift"), "chain_shift", "chain_shift", defArgs (top 5), defBody (top 5), defScope (top 5), [], [], []⟩,
  ⟨fun K => (He.ma K (He.ga K "Bounds") "tightest"), "tightest", "Bounds.tightest", defArgs (inClass (top 8) 2), defBody (inClass (top 8) 2), defScope (inClass (top 8) 2), [], [], []⟩,
  ⟨fun K => (He.ga K "found_cycle"), "found_cycle", "found_cycle", defArgs (top 6), defBody (top 6), defScope (top 6), [], [], []⟩,
  ⟨fun K => (He.ga K "longer_chains"), "longer_chains", "longer_chains", defArgs (top 7), defBody (top 7), defScope (top 7), [], [], []⟩,
  ⟨fun K => (He.ma K (He.ga K "Bounds") "__add__"), "__add__", "Bounds.__add__", defArgs (inClass (top 8) 1), defBody (inClass (top 8) 1), defScope (inClass (top 8) 1), [], [], []⟩,
  ⟨fun K => (He.ma K (He.ga K "Bounds") "model"), "model", "Bounds.model", defArgs (inClass (top 8) 3), defBody (inClass (top 8) 3), defScope (inClass (top 8) 3), [], [], []⟩,
  ⟨fun K => (He.ga K "_law_is_a_cycle"), "_law_is_a_cycle", "_law_is_a_cycle", defArgs (top 21), defBody (top 21), defScope (top 21), [], [], []⟩,
  ⟨fun K => (He.ga K "_law_contradicts"), "_law_contradicts", "_law_contradicts", defArgs (top 25), defBody (top 25), defScope (top 25), [], [], []⟩,
  ⟨fun K => (He.ga K "_law_right"), "_law_right", "_law_right", defArgs (top 26), defBody (top 26), defScope (top 26), [], [], []⟩,
  ⟨fun K => (He.ga K "law"), "law", "law", defArgs (top 27), defBody (top 27), defScope (top 27), [], [], []⟩,
  ⟨fun K => He.ma K (He.ga K "Contradiction") "__init__", "__init__", "Contradiction.__init__", defArgs (inClass (top 3) 0), defBody (inClass (top 3) 0), defScope (inClass (top 3) 0), [], [], ["__class__"]⟩]
abbrev R : PySem.W.OpenRow := PySem.W.OpenLaw.row PySem.Challenge.rw_totalsbeside_k07_whole_cycle_or_model
def usedN : List PySem.Str := (["_law_start", "_law_names", "_law_draw", "_law_centres", "_law_some_bounds", "_law_ring", "_law_bounds_of", "_law_right", "Bounds", "_law_two_sides", "_law_same", "_law_mixed", "_law_shift", "_law_near", "_law_keeps", "_law_is_a_cycle", "_law_contradicts", "_law_number", "Contradiction", "chain_shift", "found_cycle", "longer_chains", "HeldError", "UnknownColumn", "law"] : List PySem.Str)
abbrev hk : PySem.W.Hook := hookB usedN 4 fx fn ts
def ob (s : PySem.W.SharedT) : AlX := obsBG usedN 4 fx fn ts (HandSHeadRun.getT s)
theorem ob_eq (s : PySem.W.SharedT) : ob s = hk.obs s.abs := obsBG_eq (HandSHeadRun.getT_eq s)
abbrev looseN : List PySem.Str := ((["HeldError", "UnknownColumn", "Contradiction", "chain_shift", "found_cycle", "longer_chains", "Bounds", "_law_start", "_law_mixed", "_law_draw", "_law_same", "_law_number", "_law_names", "_law_centres", "_law_near", "_law_bounds_of", "_law_two_sides", "_law_keeps", "_law_is_a_cycle", "_law_shift", "_law_some_bounds", "_law_ring", "_law_contradicts", "_law_right"] : List PySem.Str))
theorem run (w : World) : HandSHeadRun.RunEq R (PySem.W.view R.prog [27]) hk ob 30000 looseN w := by
  intro os
  kernel_rfl
end DL
namespace DL
open PySem L2

/-! ### draws -/
def AllI (l : List D) : Prop := ∀ d ∈ l, ∃ i : Int, d = .int i
/-- the state of the draws -/
def StOk (st : D) : Prop := ∃ (js : List D) (i r a : Int), st = .lst [.lst js, .int i, .int r, .int a] ∧ AllI js ∧ js.length ≤ 63 ∧ 0 ≤ i ∧ i ≤ js.length ∧ 0 ≤ a ∧ a ≤ 3 ∧ (0 < a → 1 ≤ i)
/-- the bound of what is drawn below -/
def Many (m : Int) : Prop := 0 < m ∧ m < 10 ^ 100
/-- a draw of state st below m, in slot-free words -/
def Dr (m : Int) (Q : Int → D → Prop) : Prop := ∀ (r : Int) (st : D), 0 ≤ r → r < m → StOk st → Q r st
def sp_law_start : SpD := fun ds Qd _ => ∃ js : List D, ds = [.lck js] ∧ AllI js ∧ ∀ st, StOk st → Qd st []
theorem len_law_start : ∀ ds Qd Qe, sp_law_start ds Qd Qe → ds.length = 1 := by rintro _ _ _ ⟨_, rfl, _⟩; rfl
@[simp ↓] theorem u_law_start {js : List D} {Qd : D → List D → Prop} {Qe : Exn → List D → Prop} : sp_law_start [.lck js] Qd Qe = (AllI js ∧ ∀ st, StOk st → Qd st []) := propext ⟨fun h => by
  obtain ⟨_, h, k⟩ := h
  cases h
  exact k, fun k => ⟨_, rfl, k⟩⟩
def sp_law_mixed : SpD := fun ds Qd _ => ∃ c k m : Int, ds = [.int c, .int k, .int m] ∧ 0 < m ∧ ∀ r, 0 ≤ r → r < m → Qd (.int r) []
theorem len_law_mixed : ∀ ds Qd Qe, sp_law_mixed ds Qd Qe → ds.length = 3 := by rintro _ _ _ ⟨_, _, _, rfl, _⟩; rfl
@[simp ↓] theorem u_law_mixed {c k m : Int} {Qd : D → List D → Prop} {Qe : Exn → List D → Prop} : sp_law_mixed [.int c, .int k, .int m] Qd Qe = (0 < m ∧ ∀ r, 0 ≤ r → r < m → Qd (.int r) []) := propext ⟨fun h => by
  obtain ⟨_, _, _, h, k⟩ := h
  cases h
  exact k, fun k => ⟨_, _, _, rfl, k⟩⟩
def sp_law_draw : SpD := fun ds Qd _ => ∃ (st : D) (m : Int), ds = [st, .int m] ∧ StOk st ∧ Many m ∧ ∀ r st', 0 ≤ r → r < m → StOk st' → Qd (.int r) [st']
theorem len_law_draw : ∀ ds Qd Qe, sp_law_draw ds Qd Qe → ds.length = 2 := by rintro _ _ _ ⟨_, _, rfl, _⟩; rfl
@[simp ↓] theorem u_law_draw {st : D} {m : Int} {Qd : D → List D → Prop} {Qe : Exn → List D → Prop} : sp_law_draw [st, .int m] Qd Qe = (StOk st ∧ Many m ∧ ∀ r st', 0 ≤ r → r < m → StOk st' → Qd (.int r) [st']) := propext ⟨fun h => by
  obtain ⟨_, _, h, k⟩ := h
  cases h
  exact k, fun k => ⟨_, _, rfl, k⟩⟩

/-! ### names -/
def letL : List Nat := [97, 98, 99, 100, 101, 102, 103, 104, 105, 106, 107, 108, 109, 110, 111, 112, 113, 114, 115, 116, 117, 118, 119, 120, 121, 122]
def sgnL : List Nat := letL ++ [48, 49, 50, 51, 52, 53, 54, 55, 56, 57, 95]
def resL : List Str := ["always", "and", "between", "case", "cls", "condition", "else", "end", "false", "in", "index", "is", "maybe", "never", "not", "on", "or", "schema", "self", "single", "then", "true", "unknown", "when", "where"]
def tl (x : Str) : List Nat := x.cps.toList
/-- 1 to 12 signs, the first a letter -/
def Cand (x : Str) : Prop := 1 ≤ x.length ∧ x.length ≤ 12 ∧ (∀ c ∈ tl x, c ∈ sgnL) ∧ ∃ c r, tl x = c :: r ∧ c ∈ letL
def NameOk (x : Str) : Prop := Cand x ∧ x ∉ resL
def NamesOk (xs : List Str) : Prop := (∀ x ∈ xs, NameOk x) ∧ xs.Nodup
def txs (xs : List Str) : List D := xs.map D.str
def sp_law_names : SpD := fun ds Qd _ => ∃ (st : D) (many : Int), ds = [st, .int many] ∧ StOk st ∧ 1 ≤ many ∧ many ≤ 9 ∧ ∀ (xs : List Str) st', (xs.length : Int) = many → NamesOk xs → StOk st' → Qd (.lst (txs xs)) [st']
theorem len_law_names : ∀ ds Qd Qe, sp_law_names ds Qd Qe → ds.length = 2 := by rintro _ _ _ ⟨_, _, rfl, _⟩; rfl
@[simp ↓] theorem u_law_names {st : D} {many : Int} {Qd : D → List D → Prop} {Qe : Exn → List D → Prop} : sp_law_names [st, .int many] Qd Qe = (StOk st ∧ 1 ≤ many ∧ many ≤ 9 ∧ ∀ (xs : List Str) st', (xs.length : Int) = many → NamesOk xs → StOk st' → Qd (.lst (txs xs)) [st']) := propext ⟨fun h => by
  obtain ⟨_, _, h, k⟩ := h
  cases h
  exact k, fun k => ⟨_, _, rfl, k⟩⟩

/-! ### shapes, conditions -/
/-- a whole number within 41 digits and some -/
def Num (n : Int) (b : Nat) : Prop := n.natAbs ≤ b * 10 ^ 40
inductive Sh where
  | non | num (n : Int) | col (x : Str) (n : Int)
def Sh.d : Sh → D
  | .non => .non
  | .num n => .tup [.non, .int n]
  | .col x n => .tup [.str x, .int n]
def Sh.Ok (xs : List Str) : Sh → Prop
  | .non => True
  | .num n => Num n 9
  | .col x n => x ∈ xs ∧ Num n 9
def opsL : List Str := ["<", "<=", "=", "!=", ">=", ">"]
def cstL : List Str := ["always", "never", "maybe"]
def wrdL : List Str := ["false", "unknown", "true"]
inductive Ct where
  | cmp (a : Sh) (op : Str) (b : Sh) | mis (a : Sh) | cst (w : Str) | neg (c : Ct) | tst (c : Ct) (w : Str) | jn (b : Bool) (cs : List Ct)
def jnW (b : Bool) : Str := if b = true then "both" else "either"
mutual
def Ct.steps : Ct → List D
  | .cmp a op b => [.tup [.str "compare", a.d, .str op, b.d]]
  | .mis a => [.tup [.str "missing", a.d]]
  | .cst w => [.tup [.str w]]
  | .neg c => c.steps ++ [.tup [.str "not"]]
  | .tst c w => c.steps ++ [.tup [.str "test", .str w]]
  | .jn b cs => stepsL cs ++ [.tup [.str (jnW b), .int cs.length]]
def stepsL : List Ct → List D
  | [] => []
  | c :: cs => c.steps ++ stepsL cs
end
mutual
def Ct.Ok (xs : List Str) : Ct → Prop
  | .cmp a op b => a.Ok xs ∧ op ∈ opsL ∧ b.Ok xs
  | .mis a => a.Ok xs
  | .cst w => w ∈ cstL
  | .neg c => c.Ok xs
  | .tst c w => c.Ok xs ∧ w ∈ wrdL
  | .jn _ cs => 2 ≤ cs.length ∧ cs.length ≤ 4 ∧ okL xs cs
def okL (xs : List Str) : List Ct → Prop
  | [] => True
  | c :: cs => c.Ok xs ∧ okL xs cs
end
mutual
/-- the number of steps -/
def Ct.size : Ct → Nat
  | .neg c => c.size + 1
  | .tst c _ => c.size + 1
  | .jn _ cs => sizeL cs + 1
  | _ => 1
def sizeL : List Ct → Nat
  | [] => 0
  | c :: cs => c.size + sizeL cs
end
def cenOk (d : D) : Prop := ∃ a b : Int, d = .lst [.int a, .int b] ∧ Num a 1 ∧ Num b 1
def sp_law_centres : SpD := fun ds Qd _ => ∃ st : D, ds = [st] ∧ StOk st ∧ ∀ c st', cenOk c → StOk st' → Qd c [st']
theorem len_law_centres : ∀ ds Qd Qe, sp_law_centres ds Qd Qe → ds.length = 1 := by rintro _ _ _ ⟨_, rfl, _⟩; rfl
@[simp ↓] theorem u_law_centres {st : D} {Qd : D → List D → Prop} {Qe : Exn → List D → Prop} : sp_law_centres [st] Qd Qe = (StOk st ∧ ∀ c st', cenOk c → StOk st' → Qd c [st']) := propext ⟨fun h => by
  obtain ⟨_, h, k⟩ := h
  cases h
  exact k, fun k => ⟨_, rfl, k⟩⟩
def sp_law_near : SpD := fun ds Qd _ => ∃ st c : D, ds = [st, c] ∧ StOk st ∧ cenOk c ∧ ∀ n st', Num n 2 → StOk st' → Qd (.int n) [st']
theorem len_law_near : ∀ ds Qd Qe, sp_law_near ds Qd Qe → ds.length = 2 := by rintro _ _ _ ⟨_, _, rfl, _⟩; rfl
@[simp ↓] theorem u_law_near {st c : D} {Qd : D → List D → Prop} {Qe : Exn → List D → Prop} : sp_law_near [st, c] Qd Qe = (StOk st ∧ cenOk c ∧ ∀ n st', Num n 2 → StOk st' → Qd (.int n) [st']) := propext ⟨fun h => by
  obtain ⟨_, _, h, k⟩ := h
  cases h
  exact k, fun k => ⟨_, _, rfl, k⟩⟩
def sp_law_column : SpD := fun ds Qd _ => ∃ (st : D) (xs : List D) (c : D), ds = [st, .lst xs, c] ∧ StOk st ∧ (∃ ys, xs = txs ys ∧ 1 ≤ ys.length ∧ ys.length ≤ 9) ∧ cenOk c ∧ ∀ x n st', (∀ ys, xs = txs ys → x ∈ ys) → Num n 3 → StOk st' → Qd (.tup [.str x, .int n]) [st']
theorem len_law_column : ∀ ds Qd Qe, sp_law_column ds Qd Qe → ds.length = 3 := by rintro _ _ _ ⟨_, _, _, rfl, _⟩; rfl
@[simp ↓] theorem u_law_column {st : D} {xs : List D} {c : D} {Qd : D → List D → Prop} {Qe : Exn → List D → Prop} : sp_law_column [st, .lst xs, c] Qd Qe = (StOk st ∧ (∃ ys, xs = txs ys ∧ 1 ≤ ys.length ∧ ys.length ≤ 9) ∧ cenOk c ∧ ∀ x n st', (∀ ys, xs = txs ys → x ∈ ys) → Num n 3 → StOk st' → Qd (.tup [.str x, .int n]) [st']) := propext ⟨fun h => by
  obtain ⟨_, _, _, h, k⟩ := h
  cases h
  exact k, fun k => ⟨_, _, _, rfl, k⟩⟩
def sp_law_side : SpD := fun ds Qd _ => ∃ (st : D) (xs : List D) (c : D), ds = [st, .lst xs, c] ∧ StOk st ∧ (∃ ys, xs = txs ys ∧ 1 ≤ ys.length ∧ ys.length ≤ 9) ∧ cenOk c ∧ ∀ (s : Sh) st', (∀ ys, xs = txs ys → s.Ok ys) → StOk st' → Qd s.d [st']
theorem len_law_side : ∀ ds Qd Qe, sp_law_side ds Qd Qe → ds.length = 3 := by rintro _ _ _ ⟨_, _, _, rfl, _⟩; rfl
@[simp ↓] theorem u_law_side {st : D} {xs : List D} {c : D} {Qd : D → List D → Prop} {Qe : Exn → List D → Prop} : sp_law_side [st, .lst xs, c] Qd Qe = (StOk st ∧ (∃ ys, xs = txs ys ∧ 1 ≤ ys.length ∧ ys.length ≤ 9) ∧ cenOk c ∧ ∀ (s : Sh) st', (∀ ys, xs = txs ys → s.Ok ys) → StOk st' → Qd s.d [st']) := propext ⟨fun h => by
  obtain ⟨_, _, _, h, k⟩ := h
  cases h
  exact k, fun k => ⟨_, _, _, rfl, k⟩⟩
def sp_law_leaf : SpD := fun ds Qd _ => ∃ (st : D) (xs : List D) (c : D), ds = [st, .lst xs, c] ∧ StOk st ∧ (∃ ys, xs = txs ys ∧ 1 ≤ ys.length ∧ ys.length ≤ 9) ∧ cenOk c ∧ ∀ (t : Ct) st', (∀ ys, xs = txs ys → t.Ok ys) → t.size = 1 → StOk st' → Qd (.lst t.steps) [st']
theorem len_law_leaf : ∀ ds Qd Qe, sp_law_leaf ds Qd Qe → ds.length = 3 := by rintro _ _ _ ⟨_, _, _, rfl, _⟩; rfl
@[simp ↓] theorem u_law_leaf {st : D} {xs : List D} {c : D} {Qd : D → List D → Prop} {Qe : Exn → List D → Prop} : sp_law_leaf [st, .lst xs, c] Qd Qe = (StOk st ∧ (∃ ys, xs = txs ys ∧ 1 ≤ ys.length ∧ ys.length ≤ 9) ∧ cenOk c ∧ ∀ (t : Ct) st', (∀ ys, xs = txs ys → t.Ok ys) → t.size = 1 → StOk st' → Qd (.lst t.steps) [st']) := propext ⟨fun h => by
  obtain ⟨_, _, _, h, k⟩ := h
  cases h
  exact k, fun k => ⟨_, _, _, rfl, k⟩⟩
def sp_law_small_leaf : SpD := fun ds Qd _ => ∃ (st : D) (xs : List D), ds = [st, .lst xs] ∧ StOk st ∧ (∃ ys, xs = txs ys ∧ 1 ≤ ys.length ∧ ys.length ≤ 9) ∧ ∀ (t : Ct) st', (∀ ys, xs = txs ys → t.Ok ys) → t.size = 1 → StOk st' → Qd (.lst t.steps) [st']
theorem len_law_small_leaf : ∀ ds Qd Qe, sp_law_small_leaf ds Qd Qe → ds.length = 2 := by rintro _ _ _ ⟨_, _, rfl, _⟩; rfl
@[simp ↓] theorem u_law_small_leaf {st : D} {xs : List D} {Qd : D → List D → Prop} {Qe : Exn → List D → Prop} : sp_law_small_leaf [st, .lst xs] Qd Qe = (StOk st ∧ (∃ ys, xs = txs ys ∧ 1 ≤ ys.length ∧ ys.length ≤ 9) ∧ ∀ (t : Ct) st', (∀ ys, xs = txs ys → t.Ok ys) → t.size = 1 → StOk st' → Qd (.lst t.steps) [st']) := propext ⟨fun h => by
  obtain ⟨_, _, h, k⟩ := h
  cases h
  exact k, fun k => ⟨_, _, rfl, k⟩⟩
def sp_law_steps : SpD := fun ds Qd _ => ∃ (st : D) (xs : List D) (c : D) (most : Int), ds = [st, .lst xs, c, .int most] ∧ StOk st ∧ (∃ ys, xs = txs ys ∧ 1 ≤ ys.length ∧ ys.length ≤ 9) ∧ cenOk c ∧ 1 ≤ most ∧ most ≤ 4 ∧ ∀ (t : Ct) st', (∀ ys, xs = txs ys → t.Ok ys) → t.size ≤ 12 → StOk st' → Qd (.lst t.steps) [st']
theorem len_law_steps : ∀ ds Qd Qe, sp_law_steps ds Qd Qe → ds.length = 4 := by rintro _ _ _ ⟨_, _, _, _, rfl, _⟩; rfl
@[simp ↓] theorem u_law_steps {st : D} {xs : List D} {c : D} {most : Int} {Qd : D → List D → Prop} {Qe : Exn → List D → Prop} : sp_law_steps [st, .lst xs, c, .int most] Qd Qe = (StOk st ∧ (∃ ys, xs = txs ys ∧ 1 ≤ ys.length ∧ ys.length ≤ 9) ∧ cenOk c ∧ 1 ≤ most ∧ most ≤ 4 ∧ ∀ (t : Ct) st', (∀ ys, xs = txs ys → t.Ok ys) → t.size ≤ 12 → StOk st' → Qd (.lst t.steps) [st']) := propext ⟨fun h => by
  obtain ⟨_, _, _, _, h, k⟩ := h
  cases h
  exact k, fun k => ⟨_, _, _, _, rfl, k⟩⟩

/-! ### terms, conditions of the program -/
abbrev term (s : D) : D := .obj "Term" ["shape"] [s]
abbrev cond (l : List D) : D := .obj "Condition" ["steps"] [.tup l]
def sp_Term_init : SpD := fun ds Qd _ => ∃ s : D, ds = [.obj "Term" [] [], s] ∧ Qd .non [term s]
theorem len_Term_init : ∀ ds Qd Qe, sp_Term_init ds Qd Qe → ds.length = 2 := by rintro _ _ _ ⟨_, rfl, _⟩; rfl
@[simp ↓] theorem u_Term_init {s : D} {Qd : D → List D → Prop} {Qe : Exn → List D → Prop} : sp_Term_init [.obj "Term" [] [], s] Qd Qe = (Qd .non [term s]) := propext ⟨fun h => by
  obtain ⟨_, h, k⟩ := h
  cases h
  exact k, fun k => ⟨_, rfl, k⟩⟩
def sp_Term_of_nothing : SpD := fun ds Qd _ => ∃ u : Unit, ds = [] ∧ Qd (term .non) []
theorem len_Term_of_nothing : ∀ ds Qd Qe, sp_Term_of_nothing ds Qd Qe → ds.length = 0 := by rintro _ _ _ ⟨_, rfl, _⟩; rfl
@[simp ↓] theorem u_Term_of_nothing  {Qd : D → List D → Prop} {Qe : Exn → List D → Prop} : sp_Term_of_nothing [] Qd Qe = (Qd (term .non) []) := propext ⟨fun h => by
  obtain ⟨_, h, k⟩ := h
  cases h
  exact k, fun k => ⟨(), rfl, k⟩⟩
def sp_Term_of_number : SpD := fun ds Qd _ => ∃ n : Int, ds = [.int n] ∧ Qd (term (.tup [.non, .int n])) []
theorem len_Term_of_number : ∀ ds Qd Qe, sp_Term_of_number ds Qd Qe → ds.length = 1 := by rintro _ _ _ ⟨_, rfl, _⟩; rfl
@[simp ↓] theorem u_Term_of_number {n : Int} {Qd : D → List D → Prop} {Qe : Exn → List D → Prop} : sp_Term_of_number [.int n] Qd Qe = (Qd (term (.tup [.non, .int n])) []) := propext ⟨fun h => by
  obtain ⟨_, h, k⟩ := h
  cases h
  exact k, fun k => ⟨_, rfl, k⟩⟩
def sp_is_name : SpD := fun ds Qd _ => ∃ x : Str, ds = [.str x] ∧ NameOk x ∧ Qd (.bl true) []
theorem len_is_name : ∀ ds Qd Qe, sp_is_name ds Qd Qe → ds.length = 1 := by rintro _ _ _ ⟨_, rfl, _⟩; rfl
@[simp ↓] theorem u_is_name {x : Str} {Qd : D → List D → Prop} {Qe : Exn → List D → Prop} : sp_is_name [.str x] Qd Qe = (NameOk x ∧ Qd (.bl true) []) := propext ⟨fun h => by
  obtain ⟨_, h, k⟩ := h
  cases h
  exact k, fun k => ⟨_, rfl, k⟩⟩
def sp_check_name : SpD := fun ds Qd _ => ∃ x : Str, ds = [.str x] ∧ NameOk x ∧ Qd .non []
theorem len_check_name : ∀ ds Qd Qe, sp_check_name ds Qd Qe → ds.length = 1 := by rintro _ _ _ ⟨_, rfl, _⟩; rfl
@[simp ↓] theorem u_check_name {x : Str} {Qd : D → List D → Prop} {Qe : Exn → List D → Prop} : sp_check_name [.str x] Qd Qe = (NameOk x ∧ Qd .non []) := propext ⟨fun h => by
  obtain ⟨_, h, k⟩ := h
  cases h
  exact k, fun k => ⟨_, rfl, k⟩⟩
def sp_Term_of_column : SpD := fun ds Qd _ => ∃ x : Str, ds = [.str x] ∧ NameOk x ∧ Qd (term (.tup [.str x, .int 0])) []
theorem len_Term_of_column : ∀ ds Qd Qe, sp_Term_of_column ds Qd Qe → ds.length = 1 := by rintro _ _ _ ⟨_, rfl, _⟩; rfl
@[simp ↓] theorem u_Term_of_column {x : Str} {Qd : D → List D → Prop} {Qe : Exn → List D → Prop} : sp_Term_of_column [.str x] Qd Qe = (NameOk x ∧ Qd (term (.tup [.str x, .int 0])) []) := propext ⟨fun h => by
  obtain ⟨_, h, k⟩ := h
  cases h
  exact k, fun k => ⟨_, rfl, k⟩⟩
def sp_shifted : SpD := fun ds Qd _ => ∃ (c : D) (m n : Int), ds = [.tup [c, .int m], .int n] ∧ Qd (.tup [c, .int (m + n)]) []
theorem len_shifted : ∀ ds Qd Qe, sp_shifted ds Qd Qe → ds.length = 2 := by rintro _ _ _ ⟨_, _, _, rfl, _⟩; rfl
@[simp ↓] theorem u_shifted {c : D} {m n : Int} {Qd : D → List D → Prop} {Qe : Exn → List D → Prop} : sp_shifted [.tup [c, .int m], .int n] Qd Qe = (Qd (.tup [c, .int (m + n)]) []) := propext ⟨fun h => by
  obtain ⟨_, _, _, h, k⟩ := h
  cases h
  exact k, fun k => ⟨_, _, _, rfl, k⟩⟩
def sp_Term_add : SpD := fun ds Qd _ => ∃ (c : D) (m n : Int), ds = [term (.tup [c, .int m]), .int n] ∧ Qd (term (.tup [c, .int (m + n)])) []
theorem len_Term_add : ∀ ds Qd Qe, sp_Term_add ds Qd Qe → ds.length = 2 := by rintro _ _ _ ⟨_, _, _, rfl, _⟩; rfl
@[simp ↓] theorem u_Term_add {c : D} {m n : Int} {Qd : D → List D → Prop} {Qe : Exn → List D → Prop} : sp_Term_add [term (.tup [c, .int m]), .int n] Qd Qe = (Qd (term (.tup [c, .int (m + n)])) []) := propext ⟨fun h => by
  obtain ⟨_, _, _, h, k⟩ := h
  cases h
  exact k, fun k => ⟨_, _, _, rfl, k⟩⟩
def sp_law_term : SpD := fun ds Qd _ => ∃ (d : D), ds = [d] ∧ (∃ s ys, d = Sh.d s ∧ s.Ok ys ∧ ∀ x ∈ ys, NameOk x) ∧ Qd (term d) []
theorem len_law_term : ∀ ds Qd Qe, sp_law_term ds Qd Qe → ds.length = 1 := by rintro _ _ _ ⟨_, rfl, _⟩; rfl
@[simp ↓] theorem u_law_term {d : D} {Qd : D → List D → Prop} {Qe : Exn → List D → Prop} : sp_law_term [d] Qd Qe = ((∃ s ys, d = Sh.d s ∧ s.Ok ys ∧ ∀ x ∈ ys, NameOk x) ∧ Qd (term d) []) := propext ⟨fun h => by
  obtain ⟨_, h, k⟩ := h
  cases h
  exact k, fun k => ⟨_, rfl, k⟩⟩
def sp_Condition_init : SpD := fun ds Qd _ => ∃ (d : D), ds = [.obj "Condition" [] [], d] ∧ ∃ l, (d = .lst l ∨ d = .tup l) ∧ Qd .non [cond l]
theorem len_Condition_init : ∀ ds Qd Qe, sp_Condition_init ds Qd Qe → ds.length = 2 := by rintro _ _ _ ⟨_, rfl, _⟩; rfl
@[simp ↓] theorem u_Condition_init {d : D} {Qd : D → List D → Prop} {Qe : Exn → List D → Prop} : sp_Condition_init [.obj "Condition" [] [], d] Qd Qe = (∃ l, (d = .lst l ∨ d = .tup l) ∧ Qd .non [cond l]) := propext ⟨fun h => by
  obtain ⟨_, h, k⟩ := h
  cases h
  exact k, fun k => ⟨_, rfl, k⟩⟩
def sp_compare : SpD := fun ds Qd _ => ∃ (a b : D) (op : Str), ds = [term a, .str op, term b] ∧ op ∈ opsL ∧ Qd (cond [.tup [.str "compare", a, .str op, b]]) []
theorem len_compare : ∀ ds Qd Qe, sp_compare ds Qd Qe → ds.length = 3 := by rintro _ _ _ ⟨_, _, _, rfl, _⟩; rfl
@[simp ↓] theorem u_compare {a b : D} {op : Str} {Qd : D → List D → Prop} {Qe : Exn → List D → Prop} : sp_compare [term a, .str op, term b] Qd Qe = (op ∈ opsL ∧ Qd (cond [.tup [.str "compare", a, .str op, b]]) []) := propext ⟨fun h => by
  obtain ⟨_, _, _, h, k⟩ := h
  cases h
  exact k, fun k => ⟨_, _, _, rfl, k⟩⟩
def sp_missing : SpD := fun ds Qd _ => ∃ a : D, ds = [term a] ∧ Qd (cond [.tup [.str "missing", a]]) []
theorem len_missing : ∀ ds Qd Qe, sp_missing ds Qd Qe → ds.length = 1 := by rintro _ _ _ ⟨_, rfl, _⟩; rfl
@[simp ↓] theorem u_missing {a : D} {Qd : D → List D → Prop} {Qe : Exn → List D → Prop} : sp_missing [term a] Qd Qe = (Qd (cond [.tup [.str "missing", a]]) []) := propext ⟨fun h => by
  obtain ⟨_, h, k⟩ := h
  cases h
  exact k, fun k => ⟨_, rfl, k⟩⟩
def sp_always : SpD := fun ds Qd _ => ∃ u : Unit, ds = [] ∧ Qd (cond [.tup [.str "always"]]) []
theorem len_always : ∀ ds Qd Qe, sp_always ds Qd Qe → ds.length = 0 := by rintro _ _ _ ⟨_, rfl, _⟩; rfl
@[simp ↓] theorem u_always  {Qd : D → List D → Prop} {Qe : Exn → List D → Prop} : sp_always [] Qd Qe = (Qd (cond [.tup [.str "always"]]) []) := propext ⟨fun h => by
  obtain ⟨_, h, k⟩ := h
  cases h
  exact k, fun k => ⟨(), rfl, k⟩⟩
def sp_never : SpD := fun ds Qd _ => ∃ u : Unit, ds = [] ∧ Qd (cond [.tup [.str "never"]]) []
theorem len_never : ∀ ds Qd Qe, sp_never ds Qd Qe → ds.length = 0 := by rintro _ _ _ ⟨_, rfl, _⟩; rfl
@[simp ↓] theorem u_never  {Qd : D → List D → Prop} {Qe : Exn → List D → Prop} : sp_never [] Qd Qe = (Qd (cond [.tup [.str "never"]]) []) := propext ⟨fun h => by
  obtain ⟨_, h, k⟩ := h
  cases h
  exact k, fun k => ⟨(), rfl, k⟩⟩
def sp_maybe : SpD := fun ds Qd _ => ∃ u : Unit, ds = [] ∧ Qd (cond [.tup [.str "maybe"]]) []
theorem len_maybe : ∀ ds Qd Qe, sp_maybe ds Qd Qe → ds.length = 0 := by rintro _ _ _ ⟨_, rfl, _⟩; rfl
@[simp ↓] theorem u_maybe  {Qd : D → List D → Prop} {Qe : Exn → List D → Prop} : sp_maybe [] Qd Qe = (Qd (cond [.tup [.str "maybe"]]) []) := propext ⟨fun h => by
  obtain ⟨_, h, k⟩ := h
  cases h
  exact k, fun k => ⟨(), rfl, k⟩⟩
def sp_negation : SpD := fun ds Qd _ => ∃ l : List D, ds = [cond l] ∧ l.length < sizeLine ∧ Qd (cond (l ++ [.tup [.str "not"]])) []
theorem len_negation : ∀ ds Qd Qe, sp_negation ds Qd Qe → ds.length = 1 := by rintro _ _ _ ⟨_, rfl, _⟩; rfl
@[simp ↓] theorem u_negation {l : List D} {Qd : D → List D → Prop} {Qe : Exn → List D → Prop} : sp_negation [cond l] Qd Qe = (l.length < sizeLine ∧ Qd (cond (l ++ [.tup [.str "not"]])) []) := propext ⟨fun h => by
  obtain ⟨_, h, k⟩ := h
  cases h
  exact k, fun k => ⟨_, rfl, k⟩⟩
def sp_truth_test : SpD := fun ds Qd _ => ∃ (l : List D) (w : Str), ds = [cond l, .str w] ∧ l.length < sizeLine ∧ w ∈ wrdL ∧ Qd (cond (l ++ [.tup [.str "test", .str w]])) []
theorem len_truth_test : ∀ ds Qd Qe, sp_truth_test ds Qd Qe → ds.length = 2 := by rintro _ _ _ ⟨_, _, rfl, _⟩; rfl
@[simp ↓] theorem u_truth_test {l : List D} {w : Str} {Qd : D → List D → Prop} {Qe : Exn → List D → Prop} : sp_truth_test [cond l, .str w] Qd Qe = (l.length < sizeLine ∧ w ∈ wrdL ∧ Qd (cond (l ++ [.tup [.str "test", .str w]])) []) := propext ⟨fun h => by
  obtain ⟨_, _, h, k⟩ := h
  cases h
  exact k, fun k => ⟨_, _, rfl, k⟩⟩
/-- conditions by their steps -/
def conds (ls : List (List D)) : List D := ls.map fun l => cond l
def sp_joined : SpD := fun ds Qd _ => ∃ (w : Str) (p : List D), ds = [.str w, .tup p] ∧ ∃ ls, p = conds ls ∧ ls.length < 1000 ∧ ls.flatten.length < 1000000 ∧ Qd (cond (ls.flatten ++ [.tup [.str w, .int ls.length]])) []
theorem len_joined : ∀ ds Qd Qe, sp_joined ds Qd Qe → ds.length = 2 := by rintro _ _ _ ⟨_, _, rfl, _⟩; rfl
@[simp ↓] theorem u_joined {w : Str} {p : List D} {Qd : D → List D → Prop} {Qe : Exn → List D → Prop} : sp_joined [.str w, .tup p] Qd Qe = (∃ ls, p = conds ls ∧ ls.length < 1000 ∧ ls.flatten.length < 1000000 ∧ Qd (cond (ls.flatten ++ [.tup [.str w, .int ls.length]])) []) := propext ⟨fun h => by
  obtain ⟨_, _, h, k⟩ := h
  cases h
  exact k, fun k => ⟨_, _, rfl, k⟩⟩
def sp_both : SpD := fun ds Qd _ => ∃ (p : List D), ds = [.tup p] ∧ ∃ ls, p = conds ls ∧ 2 ≤ ls.length ∧ ls.length < 1000 ∧ ls.flatten.length < 1000000 ∧ Qd (cond (ls.flatten ++ [.tup [.str "both", .int ls.length]])) []
theorem len_both : ∀ ds Qd Qe, sp_both ds Qd Qe → ds.length = 1 := by rintro _ _ _ ⟨_, rfl, _⟩; rfl
@[simp ↓] theorem u_both {p : List D} {Qd : D → List D → Prop} {Qe : Exn → List D → Prop} : sp_both [.tup p] Qd Qe = (∃ ls, p = conds ls ∧ 2 ≤ ls.length ∧ ls.length < 1000 ∧ ls.flatten.length < 1000000 ∧ Qd (cond (ls.flatten ++ [.tup [.str "both", .int ls.length]])) []) := propext ⟨fun h => by
  obtain ⟨_, h, k⟩ := h
  cases h
  exact k, fun k => ⟨_, rfl, k⟩⟩
def sp_either : SpD := fun ds Qd _ => ∃ (p : List D), ds = [.tup p] ∧ ∃ ls, p = conds ls ∧ 2 ≤ ls.length ∧ ls.length < 1000 ∧ ls.flatten.length < 1000000 ∧ Qd (cond (ls.flatten ++ [.tup [.str "either", .int ls.length]])) []
theorem len_either : ∀ ds Qd Qe, sp_either ds Qd Qe → ds.length = 1 := by rintro _ _ _ ⟨_, rfl, _⟩; rfl
@[simp ↓] theorem u_either {p : List D} {Qd : D → List D → Prop} {Qe : Exn → List D → Prop} : sp_either [.tup p] Qd Qe = (∃ ls, p = conds ls ∧ 2 ≤ ls.length ∧ ls.length < 1000 ∧ ls.flatten.length < 1000000 ∧ Qd (cond (ls.flatten ++ [.tup [.str "either", .int ls.length]])) []) := propext ⟨fun h => by
  obtain ⟨_, h, k⟩ := h
  cases h
  exact k, fun k => ⟨_, rfl, k⟩⟩
def sp_law_join : SpD := fun ds Qd _ => ∃ (w : Str) (p : List D), ds = [.str w, .lst p] ∧ ∃ b ls, w = jnW b ∧ p = conds ls ∧ 2 ≤ ls.length ∧ ls.length ≤ 4 ∧ ls.flatten.length < 1000000 ∧ Qd (cond (ls.flatten ++ [.tup [.str w, .int ls.length]])) []
theorem len_law_join : ∀ ds Qd Qe, sp_law_join ds Qd Qe → ds.length = 2 := by rintro _ _ _ ⟨_, _, rfl, _⟩; rfl
@[simp ↓] theorem u_law_join {w : Str} {p : List D} {Qd : D → List D → Prop} {Qe : Exn → List D → Prop} : sp_law_join [.str w, .lst p] Qd Qe = (∃ b ls, w = jnW b ∧ p = conds ls ∧ 2 ≤ ls.length ∧ ls.length ≤ 4 ∧ ls.flatten.length < 1000000 ∧ Qd (cond (ls.flatten ++ [.tup [.str w, .int ls.length]])) []) := propext ⟨fun h => by
  obtain ⟨_, _, h, k⟩ := h
  cases h
  exact k, fun k => ⟨_, _, rfl, k⟩⟩
def sp_law_made : SpD := fun ds Qd _ => ∃ (l : List D), ds = [.lst l] ∧ ∃ (t : Ct) (ys : List Str), l = t.steps ∧ t.Ok ys ∧ (∀ x ∈ ys, NameOk x) ∧ t.size ≤ 1000 ∧ Qd (cond l) []
theorem len_law_made : ∀ ds Qd Qe, sp_law_made ds Qd Qe → ds.length = 1 := by rintro _ _ _ ⟨_, rfl, _⟩; rfl
@[simp ↓] theorem u_law_made {l : List D} {Qd : D → List D → Prop} {Qe : Exn → List D → Prop} : sp_law_made [.lst l] Qd Qe = (∃ (t : Ct) (ys : List Str), l = t.steps ∧ t.Ok ys ∧ (∀ x ∈ ys, NameOk x) ∧ t.size ≤ 1000 ∧ Qd (cond l) []) := propext ⟨fun h => by
  obtain ⟨_, h, k⟩ := h
  cases h
  exact k, fun k => ⟨_, rfl, k⟩⟩
def sp_Condition_invert : SpD := fun ds Qd _ => ∃ l : List D, ds = [cond l] ∧ l.length < sizeLine ∧ Qd (cond (l ++ [.tup [.str "not"]])) []
theorem len_Condition_invert : ∀ ds Qd Qe, sp_Condition_invert ds Qd Qe → ds.length = 1 := by rintro _ _ _ ⟨_, rfl, _⟩; rfl
@[simp ↓] theorem u_Condition_invert {l : List D} {Qd : D → List D → Prop} {Qe : Exn → List D → Prop} : sp_Condition_invert [cond l] Qd Qe = (l.length < sizeLine ∧ Qd (cond (l ++ [.tup [.str "not"]])) []) := propext ⟨fun h => by
  obtain ⟨_, h, k⟩ := h
  cases h
  exact k, fun k => ⟨_, rfl, k⟩⟩

/-! ### alike -/
/-- data of so many levels -/
def plainN : Nat → D → Bool
  | 0, _ => false
  | _ + 1, .non => true
  | _ + 1, .bl _ => true
  | _ + 1, .int _ => true
  | _ + 1, .str _ => true
  | n + 1, .tup l => decide (l.length ≤ 16777216) && l.all (plainN n)
  | n + 1, .lst l => decide (l.length ≤ 16777216) && l.all (plainN n)
  | _ + 1, _ => false
def sp_law_same_n : Nat → SpD
  | 0 => fun _ _ _ => False
  | n + 1 => fun ds Qd _ => ∃ a : D, ds = [a, a] ∧ plainN (n + 1) a = true ∧ Qd (.bl true) []
def sp_law_same : SpD := sp_law_same_n 6
theorem len_law_same_n : ∀ n ds Qd Qe, sp_law_same_n n ds Qd Qe → ds.length = 2
  | _ + 1, _, _, _, h => by obtain ⟨_, rfl, _⟩ := h; rfl
end DL

namespace DL
open PySem L2

def c_RESERVED : D := .tup [.str "always", .str "and", .str "between", .str "case", .str "cls", .str "condition", .str "else", .str "end", .str "false", .str "in", .str "index", .str "is", .str "maybe", .str "never", .str "not", .str "on", .str "or", .str "schema", .str "self", .str "single", .str "then", .str "true", .str "unknown", .str "when", .str "where"]
def c_SIGNS_OF_COMPARISON : D := .tup [.str "<", .str "<=", .str "=", .str "!=", .str ">=", .str ">"]
def c_WORDS : D := .tup [.str "false", .str "unknown", .str "true"]
/-- _law_start(script); names 0:script 1:cell -/
def b_law_start : TDS :=
 (dRetO (dLst (dCons (dLc [1] (diSeq (dSl (dVar 0) dNoP (dSomeP (dC (.int 63))))) (dgName 1) dYes (dBlt intD (dCons (dVar 1) dNil))) (dCons (dC (.int 0)) (dCons (dC (.int 0)) (dCons (dC (.int 0)) dNil))))))
/-- _law_mixed(cell, k, many); names 0:cell 1:k 2:many 3:once 4:twice -/
def b_law_mixed : TDS :=
 (dSeq (dSet 3 (dOp modD (dBlt intD (dCons (dOp addD (dOp addD (dOp mulD (dVar 0) (dC (.int 48271))) (dOp mulD (dVar 1) (dC (.int 69621)))) (dC (.int 11))) dNil)) (dC (.int 2147483647)))) (dSeq (dSet 4 (dOp modD (dBlt intD (dCons (dOp addD (dOp addD (dOp addD (dOp mulD (dVar 3) (dVar 3)) (dOp mulD (dVar 3) (dC (.int 16807)))) (dOp mulD (dVar 1) (dC (.int 40692)))) (dC (.int 5))) dNil)) (dC (.int 2147483629)))) (dRet (dOp modD (dBlt intD (dCons (dOp divD (dVar 4) (dC (.int 13))) dNil)) (dVar 2)))))
/-- _law_draw(state, many); names 0:state 1:many 2:drawn 3:cell -/
def b_law_draw : TDS :=
 (dSeq (dIfS (dTest (dOp gtD (dIxV 0 (dC (.int 2))) (dC (.int 0)))) (dSeq (dSet 2 (dOp modD (dBlt intD (dCons (dIxV 0 (dC (.int 2))) dNil)) (dVar 1))) (dSeq (dStore 0 (dC (.int 2)) (dOp divD (dIxV 0 (dC (.int 2))) (dVar 1))) (dRet (dVar 2)))) dNext) (dSeq (dIfS (dTest (dOp gtD (dIxV 0 (dC (.int 3))) (dC (.int 0)))) (dSeq (dStore 0 (dC (.int 3)) (dOp subD (dIxV 0 (dC (.int 3))) (dC (.int 1)))) (dRet (dCall sp_law_mixed (dCons (dOp ixD (dIxV 0 (dC (.int 0))) (dOp subD (dIxV 0 (dC (.int 1))) (dC (.int 1)))) (dCons (dIxV 0 (dC (.int 3))) (dCons (dVar 1) dNil)))))) dNext) (dSeq (dIfS (dTest (dOp geD (dIxV 0 (dC (.int 1))) (dBlt lenD (dCons (dIxV 0 (dC (.int 0))) dNil)))) (dRet (dC (.int 0))) dNext) (dSeq (dSet 3 (dOp ixD (dIxV 0 (dC (.int 0))) (dIxV 0 (dC (.int 1))))) (dSeq (dStore 0 (dC (.int 1)) (dOp addD (dIxV 0 (dC (.int 1))) (dC (.int 1)))) (dSeq (dIfS (dTest (dOp geD (dVar 3) (dOp powD (dC (.int 10)) (dC (.int 18))))) (dSeq (dStore 0 (dC (.int 2)) (dOp divD (dVar 3) (dVar 1))) (dRet (dOp modD (dBlt intD (dCons (dVar 3) dNil)) (dVar 1)))) dNext) (dSeq (dStore 0 (dC (.int 3)) (dC (.int 3))) (dRet (dCall sp_law_mixed (dCons (dVar 3) (dCons (dC (.int 3)) (dCons (dVar 1) dNil))))))))))))
def b_law_names_1 : TDS :=
 (dSet 6 (dOp addD (dVar 6) (dOp ixD (dVar 4) (dCallIO 0 sp_law_draw (dCons (dC (.int 37)) dNil)))))
def b_law_names_2 : TDS :=
 (dIfS (dTest (dOp gtD (dVar 7) (dC (.int 0)))) (dSeq (dSet 10 (dOp addD (dOp addD (dSl (dVar 6) dNoP (dSomeP (dVar 8))) (dOp ixD (dVar 3) (dCallIO 0 sp_law_draw (dCons (dC (.int 26)) dNil)))) (dSl (dVar 6) (dSomeP (dOp addD (dVar 8) (dC (.int 1)))) dNoP))) (dIfS (dTest (dOp eqD (dCallIO 0 sp_law_draw (dCons (dC (.int 3)) dNil)) (dC (.int 2)))) (dSet 10 (dSl (dVar 10) dNoP (dSomeP (dOp addD (dC (.int 1)) (dCallIO 0 sp_law_draw (dCons (dBlt lenD (dCons (dVar 10) dNil)) dNil)))))) dNext)) dNext)
def b_law_names_3 : TDS :=
 (dIfS (dOr (dTest (dInV false 9 (dVar 10))) (dTest (dOp (inD false) (dVar 10) (dVar 2)))) (dSet 10 (dOp addD (dSl (dVar 10) dNoP (dSomeP (dC (.int 11)))) (dOp ixD (dVar 3) (dOp modD (dVar 11) (dC (.int 26)))))) dNext)
def b_law_names_4 : TDS :=
 (dSeq (dSet 10 (dVar 6)) (dSeq b_law_names_2 (dSeq (dFor (diRng1 (dCons (dC (.int 60)) dNil)) (dgName 11) b_law_names_3) (dDrop (dLM 9 appM (dCons (dVar 10) dNil))))))
/-- _law_names(state, many); names 0:state 1:many 2:reserved 3:letters 4:signs 5:size 6:base 7:k 8:at 9:names 10:name 11:j -/
def b_law_names : TDS :=
 (dSeq (dSet 2 (dLst (dCons (dC (.str "always")) (dCons (dC (.str "and")) (dCons (dC (.str "between")) (dCons (dC (.str "case")) (dCons (dC (.str "cls")) (dCons (dC (.str "condition")) (dCons (dC (.str "else")) (dCons (dC (.str "end")) (dCons (dC (.str "false")) (dCons (dC (.str "in")) (dCons (dC (.str "index")) (dCons (dC (.str "is")) dNil)))))))))))))) (dSeq (dSet 2 (dOp addD (dVar 2) (dLst (dCons (dC (.str "maybe")) (dCons (dC (.str "never")) (dCons (dC (.str "not")) (dCons (dC (.str "on")) (dCons (dC (.str "or")) (dCons (dC (.str "schema")) (dCons (dC (.str "self")) (dCons (dC (.str "single")) (dCons (dC (.str "then")) (dCons (dC (.str "true")) dNil))))))))))))) (dSeq (dSet 2 (dOp addD (dVar 2) (dLst (dCons (dC (.str "unknown")) (dCons (dC (.str "when")) (dCons (dC (.str "where")) dNil)))))) (dSeq (dSet 3 (dC (.str "abcdefghijklmnopqrstuvwxyz"))) (dSeq (dSet 4 (dOp addD (dVar 3) (dC (.str "0123456789_")))) (dSeq (dSet 5 (dOp ixD (dLst (dCons (dC (.int 1)) (dCons (dC (.int 2)) (dCons (dC (.int 4)) (dCons (dC (.int 12)) dNil))))) (dCallIO 0 sp_law_draw (dCons (dC (.int 4)) dNil)))) (dSeq (dSet 6 (dOp ixD (dVar 3) (dCallIO 0 sp_law_draw (dCons (dC (.int 26)) dNil)))) (dSeq (dFor (diRng1 (dCons (dOp subD (dVar 5) (dC (.int 1))) dNil)) (dgName 7) b_law_names_1) (dSeq (dSet 8 (dCallIO 0 sp_law_draw (dCons (dVar 5) dNil))) (dSeq (dSetO 9 (dLst dNil)) (dSeq (dFor (diRng1 (dCons (dVar 1) dNil)) (dgName 7) b_law_names_4) (dRet (dVar 9)))))))))))))
/-- _law_centres(state); names 0:state 1:kind -/
def b_law_centres : TDS :=
 (dSeq (dSet 1 (dCallIO 0 sp_law_draw (dCons (dC (.int 4)) dNil))) (dSeq (dIfS (dTest (dOp eqD (dVar 1) (dC (.int 1)))) (dRet (dLst (dCons (dC (.int 0)) (dCons (dOp subD (dCallIO 0 sp_law_draw (dCons (dC (.int 41)) dNil)) (dC (.int 20))) dNil)))) dNext) (dSeq (dIfS (dTest (dOp eqD (dVar 1) (dC (.int 2)))) (dRet (dLst (dCons (dC (.int 0)) (dCons (dCallIO 0 sp_law_draw (dCons (dOp powD (dC (.int 10)) (dC (.int 40))) dNil)) dNil)))) dNext) (dSeq (dIfS (dTest (dOp eqD (dVar 1) (dC (.int 3)))) (dRet (dLst (dCons (dC (.int 0)) (dCons (dOp subD (dC (.int 0)) (dCallIO 0 sp_law_draw (dCons (dOp powD (dC (.int 10)) (dC (.int 40))) dNil))) dNil)))) dNext) (dRet (dLst (dCons (dC (.int 0)) (dCons (dC (.int 5)) dNil))))))))
/-- _law_small_leaf(state, names); names 0:state 1:names 2:kind 3:name -/
def b_law_small_leaf : TDS :=
 (dSeq (dSet 2 (dCallIO 0 sp_law_draw (dCons (dC (.int 5)) dNil))) (dSeq (dSet 3 (dOp ixD (dVar 1) (dCallIO 0 sp_law_draw (dCons (dBlt lenD (dCons (dVar 1) dNil)) dNil)))) (dSeq (dIfS (dTest (dOp eqD (dVar 2) (dC (.int 0)))) (dRet (dLst (dCons (dTup (dCons (dC (.str "compare")) (dCons (dTup (dCons (dVar 3) (dCons (dC (.int 0)) dNil))) (dCons (dOp ixD (dLst (dCons (dC (.str "<")) (dCons (dC (.str "<=")) (dCons (dC (.str "=")) (dCons (dC (.str "!=")) (dCons (dC (.str ">=")) (dCons (dC (.str ">")) dNil))))))) (dCallIO 0 sp_law_draw (dCons (dC (.int 6)) dNil))) (dCons (dTup (dCons (dC .non) (dCons (dOp subD (dCallIO 0 sp_law_draw (dCons (dC (.int 19)) dNil)) (dC (.int 9))) dNil))) dNil))))) dNil))) dNext) (dSeq (dIfS (dTest (dOp eqD (dVar 2) (dC (.int 1)))) (dRet (dLst (dCons (dTup (dCons (dC (.str "missing")) (dCons (dTup (dCons (dVar 3) (dCons (dOp subD (dCallIO 0 sp_law_draw (dCons (dC (.int 3)) dNil)) (dC (.int 1))) dNil))) dNil))) dNil))) dNext) (dRet (dLst (dCons (dTup (dCons (dOp ixD (dLst (dCons (dC (.str "always")) (dCons (dC (.str "never")) (dCons (dC (.str "maybe")) dNil)))) (dOp subD (dVar 2) (dC (.int 2)))) dNil)) dNil)))))))
def b_law_column_1 : TDS :=
 (dIfS (dTest (dOp eqD (dCallIO 0 sp_law_draw (dCons (dC (.int 3)) dNil)) (dC (.int 2)))) (dSet 3 (dOp addD (dOp subD (dOp ixD (dVar 2) (dCallIO 0 sp_law_draw (dCons (dC (.int 2)) dNil))) (dOp ixD (dVar 2) (dCallIO 0 sp_law_draw (dCons (dC (.int 2)) dNil)))) (dOp ixD (dLst (dCons (dC (.int 0)) (dCons (dC (.int 1)) (dCons (dUn negD (dC (.int 1))) (dCons (dC (.int 2)) (dCons (dUn negD (dC (.int 2))) dNil)))))) (dCallIO 0 sp_law_draw (dCons (dC (.int 5)) dNil))))) dNext)
/-- _law_column(state, names, centres); names 0:state 1:names 2:centres 3:shift -/
def b_law_column : TDS :=
 (dSeq (dSet 3 (dC (.int 0))) (dSeq b_law_column_1 (dRet (dTup (dCons (dOp ixD (dVar 1) (dCallIO 0 sp_law_draw (dCons (dBlt lenD (dCons (dVar 1) dNil)) dNil))) (dCons (dVar 3) dNil))))))
/-- _law_near(state, centres); names 0:state 1:centres -/
def b_law_near : TDS :=
 (dSeq (dIfS (dTest (dOp eqD (dCallIO 0 sp_law_draw (dCons (dC (.int 16)) dNil)) (dC (.int 15)))) (dRet (dOp mulD (dCallIO 0 sp_law_draw (dCons (dOp powD (dC (.int 10)) (dC (.int 40))) dNil)) (dOp subD (dC (.int 1)) (dOp mulD (dC (.int 2)) (dCallIO 0 sp_law_draw (dCons (dC (.int 2)) dNil)))))) dNext) (dRet (dOp addD (dOp ixD (dVar 1) (dCallIO 0 sp_law_draw (dCons (dC (.int 2)) dNil))) (dOp ixD (dLst (dCons (dC (.int 0)) (dCons (dC (.int 1)) (dCons (dUn negD (dC (.int 1))) (dCons (dC (.int 2)) (dCons (dUn negD (dC (.int 2))) (dCons (dC (.int 3)) (dCons (dUn negD (dC (.int 3))) dNil)))))))) (dCallIO 0 sp_law_draw (dCons (dC (.int 7)) dNil))))))
/-- _law_side(state, names, centres); names 0:state 1:names 2:centres 3:kind -/
def b_law_side : TDS :=
 (dSeq (dSet 3 (dCallIO 0 sp_law_draw (dCons (dC (.int 8)) dNil))) (dSeq (dIfS (dTest (dOp ltD (dVar 3) (dC (.int 4)))) (dRet (dTup (dCons (dC .non) (dCons (dCallIO 0 sp_law_near (dCons (dVar 2) dNil)) dNil)))) dNext) (dSeq (dIfS (dTest (dOp ltD (dVar 3) (dC (.int 7)))) (dRet (dCallIO 0 sp_law_column (dCons (dVar 1) (dCons (dVar 2) dNil)))) dNext) (dRet (dC .non)))))
def b_law_leaf_1 : TDS :=
 (dIfS (dTest (dOp eqD (dVar 3) (dC (.int 8)))) (dSet 5 (dCallIO 0 sp_law_side (dCons (dVar 1) (dCons (dVar 2) dNil)))) dNext)
/-- _law_leaf(state, names, centres); names 0:state 1:names 2:centres 3:kind 4:op 5:left -/
def b_law_leaf : TDS :=
 (dSeq (dSet 3 (dCallIO 0 sp_law_draw (dCons (dC (.int 12)) dNil))) (dSeq (dIfS (dTest (dOp eqD (dVar 3) (dC (.int 9)))) (dRet (dLst (dCons (dTup (dCons (dC (.str "missing")) (dCons (dCallIO 0 sp_law_column (dCons (dVar 1) (dCons (dVar 2) dNil))) dNil))) dNil))) dNext) (dSeq (dIfS (dTest (dOp eqD (dVar 3) (dC (.int 10)))) (dRet (dLst (dCons (dTup (dCons (dC (.str "missing")) (dCons (dCallIO 0 sp_law_side (dCons (dVar 1) (dCons (dVar 2) dNil))) dNil))) dNil))) dNext) (dSeq (dIfS (dTest (dOp eqD (dVar 3) (dC (.int 11)))) (dRet (dLst (dCons (dTup (dCons (dOp ixD (dLst (dCons (dC (.str "always")) (dCons (dC (.str "never")) (dCons (dC (.str "maybe")) dNil)))) (dCallIO 0 sp_law_draw (dCons (dC (.int 3)) dNil))) dNil)) dNil))) dNext) (dSeq (dSet 4 (dOp ixD (dLst (dCons (dC (.str "<")) (dCons (dC (.str "<=")) (dCons (dC (.str "=")) (dCons (dC (.str "!=")) (dCons (dC (.str ">=")) (dCons (dC (.str ">")) dNil))))))) (dCallIO 0 sp_law_draw (dCons (dC (.int 6)) dNil)))) (dSeq (dSet 5 (dCallIO 0 sp_law_column (dCons (dVar 1) (dCons (dVar 2) dNil)))) (dSeq b_law_leaf_1 (dRet (dLst (dCons (dTup (dCons (dC (.str "compare")) (dCons (dVar 5) (dCons (dVar 4) (dCons (dCallIO 0 sp_law_side (dCons (dVar 1) (dCons (dVar 2) dNil))) dNil))))) dNil))))))))))
def b_law_steps_1 : TDS :=
 (dIfS (dTest (dOp eqD (dVar 8) (dC (.int 5)))) (dSet 7 (dOp addD (dVar 7) (dLst (dCons (dTup (dCons (dC (.str "not")) dNil)) dNil)))) dNext)
def b_law_steps_2 : TDS :=
 (dIfS (dTest (dOp gtD (dVar 8) (dC (.int 5)))) (dSet 7 (dOp addD (dVar 7) (dLst (dCons (dTup (dCons (dC (.str "test")) (dCons (dOp ixD (dVar 4) (dCallIO 0 sp_law_draw (dCons (dC (.int 3)) dNil))) dNil))) dNil)))) dNext)
def b_law_steps_3 : TDS :=
 (dSeq (dSet 7 (dCallIO 0 sp_law_leaf (dCons (dVar 1) (dCons (dVar 2) dNil)))) (dSeq (dSet 8 (dCallIO 0 sp_law_draw (dCons (dC (.int 8)) dNil))) (dSeq b_law_steps_1 (dSeq b_law_steps_2 (dDrop (dLM 5 appM (dCons (dVar 7) dNil)))))))
def b_law_steps_4 : TDS :=
 (dIfS (dAnd (dTest (dOp gtD (dLenV 5) (dC (.int 2)))) (dTest (dOp eqD (dCallIO 0 sp_law_draw (dCons (dC (.int 2)) dNil)) (dC (.int 1))))) (dSeq (dSet 9 (dOp addD (dOp addD (dIxV 5 (dC (.int 0))) (dIxV 5 (dC (.int 1)))) (dLst (dCons (dTup (dCons (dOp ixD (dLst (dCons (dC (.str "both")) (dCons (dC (.str "either")) dNil))) (dCallIO 0 sp_law_draw (dCons (dC (.int 2)) dNil))) (dCons (dC (.int 2)) dNil))) dNil)))) (dSetO 5 (dOp catD (dLst (dCons (dVar 9) dNil)) (dSlV 5 (dSomeP (dC (.int 2))) dNoP)))) dNext)
def b_law_steps_5 : TDS :=
 (dSet 10 (dOp addD (dVar 10) (dVar 7)))
def b_law_steps_6 : TDS :=
 (dIfS (dTest (dOp gtD (dLenV 5) (dC (.int 1)))) (dSeq (dSet 10 (dOp addD (dVar 10) (dLst (dCons (dTup (dCons (dOp ixD (dLst (dCons (dC (.str "both")) (dCons (dC (.str "either")) dNil))) (dCallIO 0 sp_law_draw (dCons (dC (.int 2)) dNil))) (dCons (dLenV 5) dNil))) dNil)))) (dIfS (dTest (dOp eqD (dCallIO 0 sp_law_draw (dCons (dC (.int 6)) dNil)) (dC (.int 5)))) (dSet 10 (dOp addD (dVar 10) (dLst (dCons (dTup (dCons (dC (.str "not")) dNil)) dNil)))) dNext)) dNext)
/-- _law_steps(state, names, centres, most); names 0:state 1:names 2:centres 3:most 4:words 5:parts 6:k 7:part 8:wrap 9:inner 10:steps -/
def b_law_steps : TDS :=
 (dSeq (dSet 4 (dLst (dCons (dC (.str "false")) (dCons (dC (.str "unknown")) (dCons (dC (.str "true")) dNil))))) (dSeq (dSetO 5 (dLst dNil)) (dSeq (dFor (diRng1 (dCons (dOp addD (dC (.int 1)) (dCallIO 0 sp_law_draw (dCons (dVar 3) dNil))) dNil)) (dgName 6) b_law_steps_3) (dSeq b_law_steps_4 (dSeq (dSet 10 (dLst dNil)) (dSeq (dFor (diSeq (dVar 5)) (dgName 7) b_law_steps_5) (dSeq b_law_steps_6 (dRet (dVar 10)))))))))
/-- Condition.__init__(self, steps); names 0:self 1:steps -/
def b_Condition_init : TDS :=
 (dFldS 0 ["Condition"] "steps" (dBlt tupleD (dCons (dVar 1) dNil)))
/-- compare(left, op, right); names 0:left 1:op 2:right -/
def b_compare : TDS :=
 (dSeq (dIfS (dTest (dOp (inD true) (dVar 1) (dC c_SIGNS_OF_COMPARISON))) dNever dNext) (dRet (dMake "Condition" sp_Condition_init (dCons (dLst (dCons (dTup (dCons (dC (.str "compare")) (dCons (dFld ["Term"] "shape" (dVar 0)) (dCons (dVar 1) (dCons (dFld ["Term"] "shape" (dVar 2)) dNil))))) dNil)) dNil))))
/-- Term.__init__(self, shape); names 0:self 1:shape -/
def b_Term_init : TDS :=
 (dFldS 0 ["Term"] "shape" (dVar 1))
/-- Term.of_nothing(); names  -/
def b_Term_of_nothing : TDS :=
 (dRet (dMake "Term" sp_Term_init (dCons (dC .non) dNil)))
/-- Term.of_number(number); names 0:number -/
def b_Term_of_number : TDS :=
 (dRet (dMake "Term" sp_Term_init (dCons (dTup (dCons (dC .non) (dCons (dVar 0) dNil))) dNil)))
def b_is_name_1 : TDS :=
 (dIfS (dTest (dOp (inD true) (dVar 1) (dC (.str "abcdefghijklmnopqrstuvwxyz0123456789_")))) (dRet (dC (.bl false))) dNext)
/-- is_name(text); names 0:text 1:sign -/
def b_is_name : TDS :=
 (dSeq (dIfS (dOr (dTest (dOp ltD (dBlt lenD (dCons (dVar 0) dNil)) (dC (.int 1)))) (dOr (dTest (dOp gtD (dBlt lenD (dCons (dVar 0) dNil)) (dC (.int 12)))) (dTest (dOp (inD false) (dVar 0) (dC c_RESERVED))))) (dRet (dC (.bl false))) dNext) (dSeq (dIfS (dTest (dOp (inD true) (dOp ixD (dVar 0) (dC (.int 0))) (dC (.str "abcdefghijklmnopqrstuvwxyz")))) (dRet (dC (.bl false))) dNext) (dSeq (dFor (diSeq (dVar 0)) (dgName 1) b_is_name_1) (dRet (dC (.bl true))))))
/-- check_name(name); names 0:name -/
def b_check_name : TDS :=
 (dIfS (dNot (dTru (dCall sp_is_name (dCons (dVar 0) dNil)))) dNever dNext)
/-- Term.of_column(name); names 0:name -/
def b_Term_of_column : TDS :=
 (dSeq (dDrop (dCall sp_check_name (dCons (dVar 0) dNil))) (dRet (dMake "Term" sp_Term_init (dCons (dTup (dCons (dVar 0) (dCons (dC (.int 0)) dNil))) dNil))))
/-- shifted(shape, number); names 0:shape 1:number -/
def b_shifted : TDS :=
 (dSeq (dIfS (dTest (dOp (isD false) (dVar 0) (dC .non))) (dRet (dC .non)) dNext) (dRet (dTup (dCons (dOp ixD (dVar 0) (dC (.int 0))) (dCons (dOp addD (dOp ixD (dVar 0) (dC (.int 1))) (dVar 1)) dNil)))))
/-- Term.__add__(self, other); names 0:self 1:other -/
def b_Term_add : TDS :=
 (dSeq (dIfS (dNot (dTru (dIsi (isiInt []) (dVar 1)))) (dRet deNever) dNext) (dRet (dMake "Term" sp_Term_init (dCons (dCall sp_shifted (dCons (dFld ["Term"] "shape" (dVar 0)) (dCons (dVar 1) dNil))) dNil))))
/-- _law_term(shape); names 0:shape -/
def b_law_term : TDS :=
 (dSeq (dIfS (dTest (dOp (isD false) (dVar 0) (dC .non))) (dRet (dCall sp_Term_of_nothing dNil)) dNext) (dSeq (dIfS (dTest (dOp (isD false) (dOp ixD (dVar 0) (dC (.int 0))) (dC .non))) (dRet (dCall sp_Term_of_number (dCons (dOp ixD (dVar 0) (dC (.int 1))) dNil))) dNext) (dRet (dOwnI "Term" sp_Term_add (dCall sp_Term_of_column (dCons (dOp ixD (dVar 0) (dC (.int 0))) dNil)) (dOp ixD (dVar 0) (dC (.int 1)))))))
/-- missing(term); names 0:term -/
def b_missing : TDS :=
 (dRet (dMake "Condition" sp_Condition_init (dCons (dLst (dCons (dTup (dCons (dC (.str "missing")) (dCons (dFld ["Term"] "shape" (dVar 0)) dNil))) dNil)) dNil)))
/-- negation(part); names 0:part -/
def b_negation : TDS :=
 (dRet (dMake "Condition" sp_Condition_init (dCons (dOp addD (dFld ["Condition"] "steps" (dVar 0)) (dTup (dCons (dTup (dCons (dC (.str "not")) dNil)) dNil))) dNil)))
/-- truth_test(part, word); names 0:part 1:word -/
def b_truth_test : TDS :=
 (dSeq (dIfS (dTest (dOp (inD true) (dVar 1) (dC c_WORDS))) dNever dNext) (dRet (dMake "Condition" sp_Condition_init (dCons (dOp addD (dFld ["Condition"] "steps" (dVar 0)) (dTup (dCons (dTup (dCons (dC (.str "test")) (dCons (dVar 1) dNil))) dNil))) dNil))))
/-- always(); names  -/
def b_always : TDS :=
 (dRet (dMake "Condition" sp_Condition_init (dCons (dLst (dCons (dTup (dCons (dC (.str "always")) dNil)) dNil)) dNil)))
/-- never(); names  -/
def b_never : TDS :=
 (dRet (dMake "Condition" sp_Condition_init (dCons (dLst (dCons (dTup (dCons (dC (.str "never")) dNil)) dNil)) dNil)))
/-- maybe(); names  -/
def b_maybe : TDS :=
 (dRet (dMake "Condition" sp_Condition_init (dCons (dLst (dCons (dTup (dCons (dC (.str "maybe")) dNil)) dNil)) dNil)))
def b_joined_1 : TDS :=
 (dDrop (dLM 2 extM (dCons (dList (dFld ["Condition"] "steps" (dVar 3))) dNil)))
/-- joined(word, parts); names 0:word 1:parts 2:steps 3:part -/
def b_joined : TDS :=
 (dSeq (dSetO 2 (dLst dNil)) (dSeq (dFor (diSeq (dVar 1)) (dgName 3) b_joined_1) (dSeq (dDrop (dLM 2 appM (dCons (dTup (dCons (dVar 0) (dCons (dBlt lenD (dCons (dVar 1) dNil)) dNil))) dNil))) (dRet (dMake "Condition" sp_Condition_init (dCons (dVar 2) dNil))))))
/-- both(parts); names 0:parts -/
def b_both : TDS :=
 (dSeq (dIfS (dTest (dOp eqD (dBlt lenD (dCons (dVar 0) dNil)) (dC (.int 0)))) (dRet (dCall sp_always dNil)) dNext) (dSeq (dIfS (dTest (dOp eqD (dBlt lenD (dCons (dVar 0) dNil)) (dC (.int 1)))) (dRet (dOp ixD (dVar 0) (dC (.int 0)))) dNext) (dRet (dCall sp_joined (dCons (dC (.str "both")) (dCons (dVar 0) dNil))))))
/-- either(parts); names 0:parts -/
def b_either : TDS :=
 (dSeq (dIfS (dTest (dOp eqD (dBlt lenD (dCons (dVar 0) dNil)) (dC (.int 0)))) (dRet (dCall sp_never dNil)) dNext) (dSeq (dIfS (dTest (dOp eqD (dBlt lenD (dCons (dVar 0) dNil)) (dC (.int 1)))) (dRet (dOp ixD (dVar 0) (dC (.int 0)))) dNext) (dRet (dCall sp_joined (dCons (dC (.str "either")) (dCons (dVar 0) dNil))))))
/-- _law_join(word, parts); names 0:word 1:parts -/
def b_law_join : TDS :=
 (dSeq (dIfS (dTest (dOp eqD (dBlt lenD (dCons (dVar 1) dNil)) (dC (.int 2)))) (dRet (dIf (dTest (dOp eqD (dVar 0) (dC (.str "both")))) (dCall (stSp 0 sp_both) (dCons (dOp ixD (dVar 1) (dC (.int 0))) (dCons (dOp ixD (dVar 1) (dC (.int 1))) dNil))) (dCall (stSp 0 sp_either) (dCons (dOp ixD (dVar 1) (dC (.int 0))) (dCons (dOp ixD (dVar 1) (dC (.int 1))) dNil))))) dNext) (dSeq (dIfS (dTest (dOp eqD (dBlt lenD (dCons (dVar 1) dNil)) (dC (.int 3)))) (dRet (dIf (dTest (dOp eqD (dVar 0) (dC (.str "both")))) (dCall (stSp 0 sp_both) (dCons (dOp ixD (dVar 1) (dC (.int 0))) (dCons (dOp ixD (dVar 1) (dC (.int 1))) (dCons (dOp ixD (dVar 1) (dC (.int 2))) dNil)))) (dCall (stSp 0 sp_either) (dCons (dOp ixD (dVar 1) (dC (.int 0))) (dCons (dOp ixD (dVar 1) (dC (.int 1))) (dCons (dOp ixD (dVar 1) (dC (.int 2))) dNil)))))) dNext) (dRet (dIf (dTest (dOp eqD (dVar 0) (dC (.str "both")))) (dCall (stSp 0 sp_both) (dCons (dOp ixD (dVar 1) (dC (.int 0))) (dCons (dOp ixD (dVar 1) (dC (.int 1))) (dCons (dOp ixD (dVar 1) (dC (.int 2))) (dCons (dOp ixD (dVar 1) (dC (.int 3))) dNil))))) (dCall (stSp 0 sp_either) (dCons (dOp ixD (dVar 1) (dC (.int 0))) (dCons (dOp ixD (dVar 1) (dC (.int 1))) (dCons (dOp ixD (dVar 1) (dC (.int 2))) (dCons (dOp ixD (dVar 1) (dC (.int 3))) dNil)))))))))
def b_law_made_1 : TDS :=
 (dIfS (dTest (dOp eqD (dOp ixD (dVar 2) (dC (.int 0))) (dC (.str "compare")))) (dDrop (dLM 1 appM (dCons (dCall sp_compare (dCons (dCall sp_law_term (dCons (dOp ixD (dVar 2) (dC (.int 1))) dNil)) (dCons (dOp ixD (dVar 2) (dC (.int 2))) (dCons (dCall sp_law_term (dCons (dOp ixD (dVar 2) (dC (.int 3))) dNil)) dNil)))) dNil))) (dIfS (dTest (dOp eqD (dOp ixD (dVar 2) (dC (.int 0))) (dC (.str "missing")))) (dDrop (dLM 1 appM (dCons (dCall sp_missing (dCons (dCall sp_law_term (dCons (dOp ixD (dVar 2) (dC (.int 1))) dNil)) dNil)) dNil))) (dIfS (dTest (dOp eqD (dOp ixD (dVar 2) (dC (.int 0))) (dC (.str "not")))) (dDrop (dLM 1 appM (dCons (dCall sp_negation (dCons (dLM 1 popM dNil) dNil)) dNil))) (dIfS (dTest (dOp eqD (dOp ixD (dVar 2) (dC (.int 0))) (dC (.str "test")))) (dDrop (dLM 1 appM (dCons (dCall sp_truth_test (dCons (dLM 1 popM dNil) (dCons (dOp ixD (dVar 2) (dC (.int 1))) dNil))) dNil))) (dIfS (dTest (dOp eqD (dBlt lenD (dCons (dVar 2) dNil)) (dC (.int 1)))) (dDrop (dLM 1 appM (dCons (dIf (dTest (dOp eqD (dOp ixD (dVar 2) (dC (.int 0))) (dC (.str "always")))) (dCall sp_always dNil) (dIf (dTest (dOp eqD (dOp ixD (dVar 2) (dC (.int 0))) (dC (.str "never")))) (dCall sp_never dNil) (dCall sp_maybe dNil))) dNil))) (dSeq (dSet 3 (dSlV 1 (dSomeP (dOp subD (dLenV 1) (dOp ixD (dVar 2) (dC (.int 1))))) dNoP)) (dSeq (dSetO 1 (dSlV 1 dNoP (dSomeP (dOp subD (dLenV 1) (dOp ixD (dVar 2) (dC (.int 1))))))) (dDrop (dLM 1 appM (dCons (dCall sp_law_join (dCons (dOp ixD (dVar 2) (dC (.int 0))) (dCons (dVar 3) dNil))) dNil))))))))))
/-- _law_made(steps); names 0:steps 1:stack 2:step 3:parts -/
def b_law_made : TDS :=
 (dSeq (dSetO 1 (dLst dNil)) (dSeq (dFor (diSeq (dVar 0)) (dgName 2) b_law_made_1) (dRet (dIxV 1 (dC (.int 0))))))
def b_law_same_1 (sr : SpD) : TDS :=
 (dIfS (dNot (dTru (dCall sr (dCons (dOp ixD (dVar 0) (dVar 2)) (dCons (dOp ixD (dVar 1) (dVar 2)) dNil))))) (dRet (dC (.bl false))) dNext)
/-- _law_same(one, other); names 0:one 1:other 2:k -/
def b_law_same (sr : SpD) : TDS :=
 (dSeq (dIfS (dTest (dOp (isD false) (dVar 1) (dC .non))) (dRet (dOp (isD false) (dVar 0) (dC .non))) dNext) (dSeq (dIfS (dTest (dOp (isD false) (dVar 1) (dC (.bl true)))) (dRet (dOp (isD false) (dVar 0) (dC (.bl true)))) dNext) (dSeq (dIfS (dTest (dOp (isD false) (dVar 1) (dC (.bl false)))) (dRet (dOp (isD false) (dVar 0) (dC (.bl false)))) dNext) (dSeq (dIfS (dTru (dIsi (isiInt []) (dVar 1))) (dRet (dAndV (dIsi (isiInt []) (dVar 0)) (dAndV (dNotV (dIsi (isiBool []) (dVar 0))) (dOp eqD (dVar 0) (dVar 1))))) dNext) (dSeq (dIfS (dTru (dIsi (isiStr []) (dVar 1))) (dRet (dAndV (dIsi (isiStr []) (dVar 0)) (dOp eqD (dVar 0) (dVar 1)))) dNext) (dSeq (dIfS (dTru (dIsi (isiDct []) (dVar 1))) (dSeq (dIfS (dOr (dNot (dTru (dIsi (isiDct []) (dVar 0)))) (dTest (dOp neD (dBlt lenD (dCons (dVar 0) dNil)) (dBlt lenD (dCons (dVar 1) dNil))))) (dRet (dC (.bl false))) dNext) (dRet (dCall sr (dCons (dList deNever) (dCons (dList deNever) dNil))))) dNext) (dSeq (dIfS (dAnd (dTru (dIsi (isiTup []) (dVar 1))) (dNot (dTru (dIsi (isiTup []) (dVar 0))))) (dRet (dC (.bl false))) dNext) (dSeq (dIfS (dAnd (dTru (dIsi (isiLst []) (dVar 1))) (dNot (dTru (dIsi (isiLst []) (dVar 0))))) (dRet (dC (.bl false))) dNext) (dSeq (dIfS (dTest (dOp neD (dBlt lenD (dCons (dVar 0) dNil)) (dBlt lenD (dCons (dVar 1) dNil)))) (dRet (dC (.bl false))) dNext) (dSeq (dFor (diRng1 (dCons (dBlt lenD (dCons (dVar 1) dNil)) dNil)) (dgName 2) (b_law_same_1 sr)) (dRet (dC (.bl true)))))))))))))
/-- Condition.__invert__(self); names 0:self -/
def b_Condition_invert : TDS :=
 (dRet (dCall sp_negation (dCons (dVar 0) dNil)))
end DL

namespace DL
open PySem L2

theorem lc_int : ∀ {js acc : List D} {en : En} {Q : List D → En → Prop}, AllI js → acc.length + js.length < sizeLine → AllI acc → (∀ en' r, AllI r → r.length = acc.length + js.length → Q r en') → 1 < en.length → lcD [1] (dgName 1) dYes (dBlt intD (dCons (dVar 1) dNil)) js acc en Q
  | [], acc, en, Q, hi, h, ha, q, hl => q _ _ ha rfl
  | d :: js, acc, en, Q, hi, h, ha, q, hl => by
    obtain ⟨i, rfl⟩ := hi d (List.mem_cons_self ..)
    rw [List.length_cons] at h
    have hs := r_sizeLine
    simp [lcD, wipeE, hl]
    refine ⟨by omega, lc_int (fun d m => hi d (List.mem_cons_of_mem _ m)) (by rw [List.length_append]; simp; omega) (fun d m => ?_) (fun en' r k e => q en' r k (by rw [e]; simp; omega)) (by simp [hl])⟩
    rcases List.mem_append.mp m with m | m
    · exact ha d m
    · exact ⟨i, List.mem_singleton.mp m⟩
theorem rd_law_start : ∀ ds Qd Qe, sp_law_start ds Qd Qe → b_law_start (endsD [] Qd Qe true) (startE 2 [] ds) := by
  rintro ds Qd Qe ⟨js, rfl, hj, h⟩
  simp [b_law_start, startE]
  rw [show (63 : Int) = ((63 : Nat) : Int) from rfl, dCutHead]
  have hl : (js.take 63).length ≤ 63 := by rw [List.length_take]; omega
  refine lc_int (fun d m => hj d (List.mem_of_mem_take m)) (by rw [r_sizeLine]; simp only [List.length_nil]; omega) (fun d m => by cases m) (fun en' r k e => h _ ⟨r, 0, 0, 0, rfl, k, ?_⟩) (by simp [wipeE])
  rw [List.length_nil, Nat.zero_add] at e
  refine ⟨by omega, ?_⟩
  omega
theorem rd_law_mixed : ∀ ds Qd Qe, sp_law_mixed ds Qd Qe → b_law_mixed (endsD [] Qd Qe) (startE 5 [] ds) := by
  rintro ds Qd Qe ⟨c, k, m, rfl, hm, h⟩
  simp [b_law_mixed, startE]
  have f := fmod_range (a := c * 48271 + k * 69621 + 11) (m := 2147483647) (by decide)
  have g := fmod_range (a := ((((c * 48271 + k * 69621 + 11).fmod 2147483647 * (c * 48271 + k * 69621 + 11).fmod 2147483647 + (c * 48271 + k * 69621 + 11).fmod 2147483647 * 16807 + k * 40692 + 5).fmod 2147483629).fdiv 13)) hm
  exact ⟨mul_r (by decide) (by decide), mul_r (by decide) (by decide), mul_r (by omega) (by omega), mul_r (by decide) (by decide), mul_r (by decide) (by decide), div_r (by decide) (by decide), by omega, h _ g.1 g.2⟩
theorem div_many {i m : Int} (h : Many m) : CDivN i m ∨ CDivW i m := .inr ⟨h.1, by
  obtain ⟨h1, h2⟩ := h
  have h3 : m.natAbs < 10 ^ 100 := by
    have : ((m.natAbs : Nat) : Int) < ((10 ^ 100 : Nat) : Int) := by
      rw [Int.natAbs_of_nonneg (by omega)]
      exact_mod_cast h2
    exact_mod_cast this
  have h4 : m.natAbs ≠ 0 := by omega
  exact (Nat.log2_lt h4).2 (Nat.lt_of_lt_of_le h3 (by
    have e : (10 : Nat) ^ 100 ≤ 16 ^ 100 := Nat.pow_le_pow_left (by decide) _
    have e2 : (16 : Nat) ^ 100 = 2 ^ 400 := by
      rw [show (16 : Nat) = 2 ^ 4 from rfl, ← Nat.pow_mul]
    have e3 : (2 : Nat) ^ 400 ≤ 2 ^ 9000 := Nat.pow_le_pow_right (by decide) (by decide)
    omega))⟩
theorem rd_law_draw : ∀ ds Qd Qe, sp_law_draw ds Qd Qe → b_law_draw (endsD [0] Qd Qe) (startE 4 [0] ds) := by
  rintro ds Qd Qe ⟨st, m, rfl, ⟨js, i, r, a, rfl, hj, h1, h2, h3, h4, h5, h6⟩, hM, h⟩
  have hm := hM.1
  simp [b_law_draw, startE]
  have f := fun x : Int => fmod_range (a := x) hm
  split
  · exact ⟨by omega, div_many hM, h _ _ (f r).1 (f r).2 ⟨js, i, _, a, rfl, hj, h1, h2, h3, h4, h5, h6⟩⟩
  · split
    · rename_i ha
      have := h6 ha
      obtain ⟨d, hd⟩ := atI_some (l := js) (i := i - 1) (by omega) (by omega)
      obtain ⟨x, rfl⟩ := hj d (atI_mem hd)
      refine ⟨_, hd, ?_⟩
      simp
      exact ⟨hm, fun y y0 y1 => h _ _ y0 y1 ⟨js, i, r, a - 1, rfl, hj, h1, h2, h3, by omega, by omega, fun _ => this⟩⟩
    · split
      · exact h _ _ (by omega) hm ⟨js, i, r, a, rfl, hj, h1, h2, h3, h4, h5, h6⟩
      · obtain ⟨d, hd⟩ := atI_some (l := js) (i := i) (by omega) (by omega)
        obtain ⟨x, rfl⟩ := hj d (atI_mem hd)
        refine ⟨_, hd, pow_ok (by omega) (by omega) (by omega) (by omega), ?_⟩
        simp
        split
        · exact ⟨div_many hM, by omega, h _ _ (f x).1 (f x).2 ⟨js, i + 1, _, a, rfl, hj, h1, by omega, by omega, h4, h5, by omega⟩⟩
        · exact ⟨hm, fun y y0 y1 => h _ _ y0 y1 ⟨js, i + 1, r, 3, rfl, hj, h1, by omega, by omega, by omega, by omega, by omega⟩⟩
theorem rd_Term_init : ∀ ds Qd Qe, sp_Term_init ds Qd Qe → b_Term_init (endsD [0] Qd Qe) (startE 2 [0] ds) := by
  rintro ds Qd Qe ⟨s, rfl, h⟩
  simpa [b_Term_init, startE, putF'] using h
theorem rd_Term_of_nothing : ∀ ds Qd Qe, sp_Term_of_nothing ds Qd Qe → b_Term_of_nothing (endsD [] Qd Qe) (startE 0 [] ds) := by
  rintro ds Qd Qe ⟨_, rfl, h⟩
  simpa [b_Term_of_nothing, startE] using h
theorem rd_Term_of_number : ∀ ds Qd Qe, sp_Term_of_number ds Qd Qe → b_Term_of_number (endsD [] Qd Qe) (startE 1 [] ds) := by
  rintro ds Qd Qe ⟨n, rfl, h⟩
  simpa [b_Term_of_number, startE] using h
theorem rd_check_name : ∀ ds Qd Qe, sp_check_name ds Qd Qe → b_check_name (endsD [] Qd Qe) (startE 1 [] ds) := by
  rintro ds Qd Qe ⟨x, rfl, hx, h⟩
  simpa [b_check_name, startE, hx] using h
theorem rd_Term_of_column : ∀ ds Qd Qe, sp_Term_of_column ds Qd Qe → b_Term_of_column (endsD [] Qd Qe) (startE 1 [] ds) := by
  rintro ds Qd Qe ⟨x, rfl, hx, h⟩
  simpa [b_Term_of_column, startE, hx] using h
theorem rd_shifted : ∀ ds Qd Qe, sp_shifted ds Qd Qe → b_shifted (endsD [] Qd Qe) (startE 2 [] ds) := by
  rintro ds Qd Qe ⟨c, m, n, rfl, h⟩
  simpa [b_shifted, startE, isNon] using h
theorem rd_Term_add : ∀ ds Qd Qe, sp_Term_add ds Qd Qe → b_Term_add (endsD [] Qd Qe) (startE 2 [] ds) := by
  rintro ds Qd Qe ⟨c, m, n, rfl, h⟩
  simpa [b_Term_add, startE, isiInt, getF] using h
theorem rd_Condition_init : ∀ ds Qd Qe, sp_Condition_init ds Qd Qe → b_Condition_init (endsD [0] Qd Qe) (startE 2 [0] ds) := by
  rintro ds Qd Qe ⟨d, rfl, l, e, h⟩
  rcases e with rfl | rfl <;> simpa [b_Condition_init, startE, putF'] using h
theorem cond_lst {l : List D} {Qd : D → List D → Prop} {Qe : Exn → List D → Prop} (h : Qd .non [cond l]) : sp_Condition_init [.obj "Condition" [] [], .lst l] Qd Qe := ⟨_, rfl, l, .inl rfl, h⟩
theorem cond_tup {l : List D} {Qd : D → List D → Prop} {Qe : Exn → List D → Prop} (h : Qd .non [cond l]) : sp_Condition_init [.obj "Condition" [] [], .tup l] Qd Qe := ⟨_, rfl, l, .inr rfl, h⟩
theorem rd_missing : ∀ ds Qd Qe, sp_missing ds Qd Qe → b_missing (endsD [] Qd Qe) (startE 1 [] ds) := by
  rintro ds Qd Qe ⟨a, rfl, h⟩
  simp [b_missing, startE, getF]
  exact h
theorem rd_always : ∀ ds Qd Qe, sp_always ds Qd Qe → b_always (endsD [] Qd Qe) (startE 0 [] ds) := by
  rintro ds Qd Qe ⟨_, rfl, h⟩
  simp [b_always, startE]
  exact h
theorem rd_never : ∀ ds Qd Qe, sp_never ds Qd Qe → b_never (endsD [] Qd Qe) (startE 0 [] ds) := by
  rintro ds Qd Qe ⟨_, rfl, h⟩
  simp [b_never, startE]
  exact h
theorem rd_maybe : ∀ ds Qd Qe, sp_maybe ds Qd Qe → b_maybe (endsD [] Qd Qe) (startE 0 [] ds) := by
  rintro ds Qd Qe ⟨_, rfl, h⟩
  simp [b_maybe, startE]
  exact h
theorem rd_negation : ∀ ds Qd Qe, sp_negation ds Qd Qe → b_negation (endsD [] Qd Qe) (startE 1 [] ds) := by
  rintro ds Qd Qe ⟨l, rfl, hl, h⟩
  rw [r_sizeLine] at hl
  have : l.length + 1 ≤ 16777216 := by omega
  simp [b_negation, startE, getF]
  exact ⟨by omega, h⟩
theorem rd_Condition_invert : ∀ ds Qd Qe, sp_Condition_invert ds Qd Qe → b_Condition_invert (endsD [] Qd Qe) (startE 1 [] ds) := by
  rintro ds Qd Qe ⟨l, rfl, hl, h⟩
  rw [r_sizeLine] at hl
  simp [b_Condition_invert, startE, hl]
  exact h

theorem inFD_str {x : Str} : ∀ {xs : List Str}, inFD (.str x) (txs xs) = decide (x ∈ xs)
  | [] => by simp [inFD, txs]
  | y :: xs => by
    have ih := inFD_str (x := x) (xs := xs)
    unfold inFD txs at ih ⊢
    rw [List.map_cons, List.any_cons, ih]
    simp only [eqFD, List.mem_cons]
    by_cases h : y = x
    · subst h; simp
    · have : ¬ x = y := fun e => h e.symm
      simp [h, this]
theorem flat_txs : ∀ {xs : List Str}, (txs xs).all flatD = true
  | [] => rfl
  | _ :: xs => flat_txs (xs := xs)
theorem c_WRD : c_WORDS = .tup (txs wrdL) := rfl
theorem c_OPS : c_SIGNS_OF_COMPARISON = .tup (txs opsL) := rfl
theorem c_RES : c_RESERVED = .tup (txs resL) := rfl
@[simp ↓] theorem r_inT {n : Bool} {x : Str} {xs : List Str} {Q : D → Prop} : inD n (.str x) (.tup (txs xs)) Q = Q (.bl (decide (x ∈ xs) != n)) := by
  simp only [inD, flat_txs, flatD, inFD_str, true_and]
@[simp ↓] theorem r_inL {n : Bool} {x : Str} {xs : List Str} {Q : D → Prop} : inD n (.str x) (.lst (txs xs)) Q = Q (.bl (decide (x ∈ xs) != n)) := by
  simp only [inD, flat_txs, flatD, inFD_str, true_and]
theorem rd_truth_test : ∀ ds Qd Qe, sp_truth_test ds Qd Qe → b_truth_test (endsD [] Qd Qe) (startE 2 [] ds) := by
  rintro ds Qd Qe ⟨l, w, rfl, hl, hw, h⟩
  rw [r_sizeLine] at hl
  have : l.length + 1 ≤ 16777216 := by omega
  simp [b_truth_test, startE, getF, c_WRD, hw, this]
  exact h
theorem rd_compare : ∀ ds Qd Qe, sp_compare ds Qd Qe → b_compare (endsD [] Qd Qe) (startE 3 [] ds) := by
  rintro ds Qd Qe ⟨a, b, op, rfl, hw, h⟩
  simp [b_compare, startE, getF, c_OPS, hw]
  exact h
theorem rd_law_term : ∀ ds Qd Qe, sp_law_term ds Qd Qe → b_law_term (endsD [] Qd Qe) (startE 1 [] ds) := by
  rintro ds Qd Qe ⟨d, rfl, ⟨s, ys, rfl, hs, hy⟩, h⟩
  cases s with
  | non => simpa [b_law_term, startE, Sh.d, isNon] using h
  | num n => simpa [b_law_term, startE, Sh.d, isNon] using h
  | col x n =>
    have hx := hy x hs.1
    simp [b_law_term, startE, Sh.d, isNon, hx]
    simpa [Sh.d] using h
/-! ### joined -/
theorem lp_joined {B : DEnds} {w : D} {p : Option Ent} : ∀ (ls : List (List D)) (acc : List D) (x : Option Ent), acc.length + ls.flatten.length < 16000000 → (∀ x, B.nx [some (.fz w), p, some (.ow false (.lst (acc ++ ls.flatten))), x]) →
    loopD (dgName 3) b_joined_1 B (conds ls) [some (.fz w), p, some (.ow false (.lst acc)), x]
  | [], acc, x, h, k => by
    have k := k x
    rw [List.flatten_nil, List.append_nil] at k
    exact k
  | l :: ls, acc, x, h, k => by
    rw [List.flatten_cons, List.length_append] at h
    have ih := lp_joined (B := B) (w := w) (p := p) ls (acc ++ l) (some (.fz (cond l))) (by rw [List.length_append]; omega) (fun x => by
      rw [List.append_assoc, ← List.flatten_cons]
      exact k x)
    have hl : acc.length + l.length ≤ 16777216 := by omega
    simp [conds, loopD, b_joined_1, getF, hl]
    exact ih
theorem rd_joined : ∀ ds Qd Qe, sp_joined ds Qd Qe → b_joined (endsD [] Qd Qe) (startE 4 [] ds) := by
  rintro ds Qd Qe ⟨w, p, rfl, ls, rfl, h1, h2, h⟩
  have hl : (conds ls).length = ls.length := by simp [conds]
  simp [b_joined, startE]
  refine lp_joined ls [] none (by simp only [List.length_nil]; omega) fun x => ?_
  have h3 : ls.flatten.length < 16777216 := by omega
  rw [List.length_flatten] at h3
  simp [hl, h3]
  exact h
theorem rd_both : ∀ ds Qd Qe, sp_both ds Qd Qe → b_both (endsD [] Qd Qe) (startE 1 [] ds) := by
  rintro ds Qd Qe ⟨p, rfl, ls, rfl, h1, h2, h3, h⟩
  have hl : (conds ls).length = ls.length := by simp [conds]
  have e1 : ¬ ((ls.length : Int) = 0) := by omega
  have e2 : ¬ ((ls.length : Int) = 1) := by omega
  have e3 : ls ≠ [] := fun e => by rw [e] at h1; simp at h1
  have e4 : ¬ ls.length = 1 := by omega
  simp [b_both, startE, hl, e1, e2, e3, e4]
  exact ⟨ls, rfl, h2, by simpa using h3, h⟩
theorem rd_either : ∀ ds Qd Qe, sp_either ds Qd Qe → b_either (endsD [] Qd Qe) (startE 1 [] ds) := by
  rintro ds Qd Qe ⟨p, rfl, ls, rfl, h1, h2, h3, h⟩
  have hl : (conds ls).length = ls.length := by simp [conds]
  have e1 : ¬ ((ls.length : Int) = 0) := by omega
  have e2 : ¬ ((ls.length : Int) = 1) := by omega
  have e3 : ls ≠ [] := fun e => by rw [e] at h1; simp at h1
  have e4 : ¬ ls.length = 1 := by omega
  simp [b_either, startE, hl, e1, e2, e3, e4]
  exact ⟨ls, rfl, h2, by simpa using h3, h⟩
theorem rd_law_join : ∀ ds Qd Qe, sp_law_join ds Qd Qe → b_law_join (endsD [] Qd Qe) (startE 2 [] ds) := by
  rintro ds Qd Qe ⟨w, p, rfl, b, ls, rfl, rfl, h1, h2, h3, h⟩
  match ls, h1, h2, h3, h with
  | [u, v], _, _, h3, h => cases b <;> simp [b_law_join, startE, conds, jnW] <;> exact ⟨[u, v], rfl, by simp, by simp, by simpa using h3, by simpa [jnW] using h⟩
  | [u, v, x], _, _, h3, h => cases b <;> simp [b_law_join, startE, conds, jnW] <;> exact ⟨[u, v, x], rfl, by simp, by simp, by simpa using h3, by simpa [jnW] using h⟩
  | [u, v, x, y], _, _, h3, h => cases b <;> simp [b_law_join, startE, conds, jnW] <;> exact ⟨[u, v, x, y], rfl, by simp, by simp, by simpa using h3, by simpa [jnW] using h⟩
end DL

namespace DL
open PySem L2

/-! ### alike -/
theorem lp_same {B : DEnds} {sr : SpD} {a : D} {l : List D} (ha : ∀ i Q, (∃ d, atI l i = some d ∧ Q d) → ixD a (.int i) Q) (hs : ∀ d ∈ l, ∀ Q Qe, Q (.bl true) [] → sr [d, d] Q Qe) : ∀ (n k : Nat) (x : Option Ent), k + n = l.length → (∀ x, B.nx [some (.fz a), some (.fz a), x]) →
    loopD (dgName 2) (b_law_same_1 sr) B (rangeD k n) [some (.fz a), some (.fz a), x]
  | 0, k, x, e, h => h x
  | n + 1, k, x, e, h => by
    have ih := lp_same ha hs n (k + 1) (some (.fz (.int k))) (by omega) h
    rw [rangeD_succ]
    obtain ⟨d, hd⟩ := atI_some (l := l) (i := k) (by omega) (by omega)
    simp [loopD, b_law_same_1]
    refine ha _ _ ⟨d, hd, ha _ _ ⟨d, hd, hs d (atI_mem hd) _ _ ?_⟩⟩
    simp
    exact ih
theorem rd_law_same_n : ∀ n ds Qd Qe, sp_law_same_n (n + 1) ds Qd Qe → b_law_same (sp_law_same_n n) (endsD [] Qd Qe) (startE 3 [] ds) := by
  rintro n ds Qd Qe ⟨a, rfl, hp, h⟩
  have sr : ∀ l : List D, l.all (plainN n) = true → ∀ d ∈ l, ∀ Q Qe, Q (.bl true) [] → sp_law_same_n n [d, d] Q Qe := fun l hl d m Q Qe q => by
    have h1 := List.all_eq_true.mp hl d m
    cases n with
    | zero => cases h1
    | succ n => exact ⟨d, rfl, h1, q⟩
  cases a with
  | non => simpa [b_law_same, startE, isNon] using h
  | bl b => cases b <;> simpa [b_law_same, startE, isNon, isBl] using h
  | int i => simpa [b_law_same, startE, isNon, isBl, isD, isiInt, isiBool] using h
  | str i => simpa [b_law_same, startE, isNon, isBl, isD, isiInt, isiBool, isiStr] using h
  | tup l =>
    have hp : (decide (l.length ≤ 16777216) && l.all (plainN n)) = true := hp
    simp only [Bool.and_eq_true, decide_eq_true_eq] at hp
    simp [b_law_same, startE, isD, isiInt, isiStr, isiDct, isiTup, isiLst]
    have h1 : (l.length : Int) < 4611686018427387904 := by omega
    have h2 : -4611686018427387904 ≤ (l.length : Int) := by omega
    simp [h1, h2]
    exact lp_same (a := .tup l) (l := l) (fun i Q h => h) (sr l hp.2) l.length 0 none (by omega) (fun x => by simpa using h)
  | lst l =>
    have hp : (decide (l.length ≤ 16777216) && l.all (plainN n)) = true := hp
    simp only [Bool.and_eq_true, decide_eq_true_eq] at hp
    simp [b_law_same, startE, isD, isiInt, isiStr, isiDct, isiTup, isiLst]
    have h1 : (l.length : Int) < 4611686018427387904 := by omega
    have h2 : -4611686018427387904 ≤ (l.length : Int) := by omega
    simp [h1, h2]
    exact lp_same (a := .lst l) (l := l) (fun i Q h => h) (sr l hp.2) l.length 0 none (by omega) (fun x => by simpa using h)
  | lck l => cases hp
  | dct k v => cases hp
  | obj C f v => cases hp
/-! ### numbers -/
theorem Num.le {n : Int} {a b : Nat} (h : Num n a) (hab : a ≤ b) : Num n b := Nat.le_trans h (Nat.mul_le_mul_right _ hab)
theorem num_int {n : Int} {b : Nat} (h : -((b : Int) * 10000000000000000000000000000000000000000) ≤ n) (h' : n ≤ (b : Int) * 10000000000000000000000000000000000000000) : Num n b := by
  unfold Num
  have e : (10 : Nat) ^ 40 = 10000000000000000000000000000000000000000 := by decide
  rw [e]
  omega
theorem Num.bd {n : Int} {b : Nat} (h : Num n b) : -((b : Int) * 10000000000000000000000000000000000000000) ≤ n ∧ n ≤ (b : Int) * 10000000000000000000000000000000000000000 := by
  unfold Num at h
  have e : (10 : Nat) ^ 40 = 10000000000000000000000000000000000000000 := by decide
  rw [e] at h
  omega
theorem many_ok {m : Int} (h : 0 < m) (h' : m ≤ 10000000000000000000000000000000000000000) : Many m := ⟨h, by
  have e : (10 : Int) ^ 100 = 10000000000000000000000000000000000000000000000000000000000000000000000000000000000000000000000000000 := by decide
  rw [e]
  omega⟩
theorem pw40 : CPow 10 40 := pow_ok (by decide) (by decide) (by decide) (by decide)
theorem at2 {a b : D} {r : Int} (h0 : 0 ≤ r) (h1 : r < 2) : ∃ d, atI [a, b] r = some d ∧ (d = a ∨ d = b) := by
  obtain ⟨d, hd⟩ := atI_some (l := [a, b]) (i := r) (by simp; omega) (by simpa using h1)
  have m := atI_mem hd
  simp at m
  exact ⟨d, hd, m⟩
theorem rd_law_centres : ∀ ds Qd Qe, sp_law_centres ds Qd Qe → b_law_centres (endsD [0] Qd Qe) (startE 2 [0] ds) := by
  rintro ds Qd Qe ⟨st, rfl, hs, h⟩
  have fin : ∀ b st', StOk st' → -10000000000000000000000000000000000000000 ≤ b → b ≤ 10000000000000000000000000000000000000000 → Qd (.lst [.int 0, .int b]) [st'] := fun b st' s h1 h2 => h _ _ ⟨0, b, rfl, num_int (by omega) (by omega), num_int (by omega) (by omega)⟩ s
  simp [b_law_centres, startE, hs]
  refine ⟨many_ok (by omega) (by omega), fun r st' r0 r1 s1 => ?_⟩
  split
  · exact ⟨s1, many_ok (by omega) (by omega), fun r st' r0 r1 s1 => fin _ _ s1 (by omega) (by omega)⟩
  · split
    · exact ⟨pw40, s1, many_ok (by omega) (by omega), fun r st' r0 r1 s1 => fin _ _ s1 (by omega) (by omega)⟩
    · split
      · exact ⟨pw40, s1, many_ok (by omega) (by omega), fun r st' r0 r1 s1 => fin _ _ s1 (by omega) (by omega)⟩
      · exact fin _ _ s1 (by omega) (by omega)
theorem cen_at {a b : Int} (ha : Num a 1) (hb : Num b 1) {r : Int} (h0 : 0 ≤ r) (h1 : r < 2) : ∃ n : Int, atI [D.int a, D.int b] r = some (.int n) ∧ Num n 1 := by
  obtain ⟨d, hd, e⟩ := at2 (a := D.int a) (b := D.int b) h0 h1
  rcases e with rfl | rfl
  · exact ⟨a, hd, ha⟩
  · exact ⟨b, hd, hb⟩
theorem sm_at {l : List D} {r : Int} (hl : ∀ d ∈ l, ∃ n : Int, d = .int n ∧ -3 ≤ n ∧ n ≤ 3) (h0 : 0 ≤ r) (h1 : r < l.length) : ∃ n : Int, atI l r = some (.int n) ∧ -3 ≤ n ∧ n ≤ 3 := by
  obtain ⟨d, hd⟩ := atI_some (l := l) (i := r) (by omega) h1
  obtain ⟨n, rfl, h2, h3⟩ := hl d (atI_mem hd)
  exact ⟨n, hd, h2, h3⟩
theorem rd_law_near : ∀ ds Qd Qe, sp_law_near ds Qd Qe → b_law_near (endsD [0] Qd Qe) (startE 2 [0] ds) := by
  rintro ds Qd Qe ⟨st, c, rfl, hs, ⟨a, b, rfl, ha, hb⟩, h⟩
  simp [b_law_near, startE, hs]
  refine ⟨many_ok (by omega) (by omega), fun r st' r0 r1 s1 => ?_⟩
  split
  · refine ⟨pw40, s1, many_ok (by omega) (by omega), fun r st' r0 r1 s1 => ⟨s1, many_ok (by omega) (by omega), fun d st' d0 d1 s1 => ⟨mul_l (by omega) (by omega), mul_r (by omega) (by omega), h _ _ ?_ s1⟩⟩⟩
    obtain rfl | rfl : d = 0 ∨ d = 1 := by omega
    · exact num_int (by omega) (by omega)
    · exact num_int (by omega) (by omega)
  · refine ⟨s1, many_ok (by omega) (by omega), fun r st' r0 r1 s1 => ?_⟩
    obtain ⟨n, hn, hn1⟩ := cen_at ha hb r0 r1
    refine ⟨_, hn, s1, many_ok (by omega) (by omega), fun r st' r0 r1 s1 => ?_⟩
    obtain ⟨m, hm, m1, m2⟩ := sm_at (l := [.int 0, .int 1, .int (-1), .int 2, .int (-2), .int 3, .int (-3)]) (r := r) (by simp) r0 (by simpa using r1)
    refine ⟨_, hm, ?_⟩
    simp
    have := hn1.bd
    exact h _ _ (num_int (by omega) (by omega)) s1
theorem txs_inj : ∀ {p q : List Str}, txs p = txs q → p = q
  | [], [], _ => rfl
  | [], _ :: _, e => by simp [txs] at e
  | _ :: _, [], e => by simp [txs] at e
  | x :: p, y :: q, e => by
    simp only [txs, List.map_cons, List.cons.injEq, D.str.injEq] at e
    rw [e.1, txs_inj e.2]
theorem len_txs {ys : List Str} : (txs ys).length = ys.length := by simp [txs]
/-- a drawn name -/
theorem txs_at {ys : List Str} {r : Int} (h0 : 0 ≤ r) (h1 : r < ((txs ys).length : Int)) : ∃ x, atI (txs ys) r = some (.str x) ∧ ∀ zs, txs ys = txs zs → x ∈ zs := by
  obtain ⟨d, hd⟩ := atI_some (l := txs ys) (i := r) (by omega) h1
  obtain ⟨x, hx, rfl⟩ := List.mem_map.mp (atI_mem hd)
  refine ⟨_, hd, fun zs e => ?_⟩
  rw [← txs_inj e]
  exact hx
theorem txs_in {l : List D} {xs : List Str} (e : l = txs xs) {r : Int} (h0 : 0 ≤ r) (h1 : r < (xs.length : Int)) : ∃ x, atI l r = some (.str x) ∧ x ∈ xs := by
  obtain ⟨d, hd⟩ := atI_some (l := l) (i := r) (by omega) (by rw [e, len_txs]; exact h1)
  have m := atI_mem hd
  rw [e] at m
  obtain ⟨x, hx, rfl⟩ := List.mem_map.mp m
  exact ⟨x, hd, hx⟩
theorem rd_law_column : ∀ ds Qd Qe, sp_law_column ds Qd Qe → b_law_column (endsD [0] Qd Qe) (startE 4 [0] ds) := by
  rintro ds Qd Qe ⟨st, xs, c, rfl, hs, ⟨ys, rfl, h1, h2⟩, ⟨a, b, rfl, ha, hb⟩, h⟩
  have hl : (txs ys).length = ys.length := len_txs
  have fin : ∀ n st', Num n 3 → StOk st' → StOk st' ∧ Many ((txs ys).length : Int) ∧ ∀ (r : Int) (st' : D), 0 ≤ r → r < ((txs ys).length : Int) → StOk st' → ∃ d, atI (txs ys) r = some d ∧ Qd (.tup [d, .int n]) [st'] := fun n st' hn s1 => ⟨s1, many_ok (by omega) (by omega), fun r st' r0 r1 s1 => by
    obtain ⟨x, hx, hm⟩ := txs_at r0 r1
    exact ⟨_, hx, h _ _ _ hm hn s1⟩⟩
  simp [b_law_column, b_law_column_1, startE, hs]
  refine ⟨many_ok (by omega) (by omega), fun r st' r0 r1 s1 => ?_⟩
  split
  · refine ⟨s1, many_ok (by omega) (by omega), fun r st' r0 r1 s1 => ?_⟩
    obtain ⟨n, hn, hn1⟩ := cen_at ha hb r0 r1
    refine ⟨_, hn, s1, many_ok (by omega) (by omega), fun r st' r0 r1 s1 => ?_⟩
    obtain ⟨m, hm, hm1⟩ := cen_at ha hb r0 r1
    refine ⟨_, hm, ?_⟩
    simp
    refine ⟨s1, many_ok (by omega) (by omega), fun r st' r0 r1 s1 => ?_⟩
    obtain ⟨k, hk, k1, k2⟩ := sm_at (l := [.int 0, .int 1, .int (-1), .int 2, .int (-2)]) (r := r) (by simp) r0 (by simpa using r1)
    refine ⟨_, hk, ?_⟩
    simp
    have := hn1.bd
    have := hm1.bd
    exact fin _ _ (num_int (by omega) (by omega)) s1
  · exact fin _ _ (num_int (by omega) (by omega)) s1
theorem rd_law_side : ∀ ds Qd Qe, sp_law_side ds Qd Qe → b_law_side (endsD [0] Qd Qe) (startE 4 [0] ds) := by
  rintro ds Qd Qe ⟨st, xs, c, rfl, hs, ⟨ys, rfl, h1, h2⟩, hc, h⟩
  simp [b_law_side, startE, hs]
  refine ⟨many_ok (by omega) (by omega), fun r st' r0 r1 s1 => ?_⟩
  split
  · exact ⟨s1, hc, fun n st' hn s1 => h (.num n) _ (fun _ _ => hn.le (by decide)) s1⟩
  · split
    · exact ⟨s1, ⟨ys, rfl, h1, h2⟩, hc, fun x n st' hx hn s1 => h (.col x n) _ (fun zs e => ⟨hx zs e, hn.le (by decide)⟩) s1⟩
    · exact h .non _ (fun _ _ => trivial) s1
theorem ops_at {r : Int} (h0 : 0 ≤ r) (h1 : r < 6) : ∃ x, atI [D.str "<", .str "<=", .str "=", .str "!=", .str ">=", .str ">"] r = some (.str x) ∧ x ∈ opsL := txs_in (xs := opsL) rfl h0 (by simpa [opsL] using h1)
theorem cst_at {r : Int} (h0 : 0 ≤ r) (h1 : r < 3) : ∃ x, atI [D.str "always", .str "never", .str "maybe"] r = some (.str x) ∧ x ∈ cstL := txs_in (xs := cstL) rfl h0 (by simpa [cstL] using h1)
theorem wrd_at {r : Int} (h0 : 0 ≤ r) (h1 : r < 3) : ∃ x, atI [D.str "false", .str "unknown", .str "true"] r = some (.str x) ∧ x ∈ wrdL := txs_in (xs := wrdL) rfl h0 (by simpa [wrdL] using h1)
theorem rd_law_small_leaf : ∀ ds Qd Qe, sp_law_small_leaf ds Qd Qe → b_law_small_leaf (endsD [0] Qd Qe) (startE 4 [0] ds) := by
  rintro ds Qd Qe ⟨st, xs, rfl, hs, ⟨ys, rfl, h1, h2⟩, h⟩
  have hl : (txs ys).length = ys.length := len_txs
  simp [b_law_small_leaf, startE, hs]
  refine ⟨many_ok (by omega) (by omega), fun k st' k0 k1 s1 => ⟨s1, many_ok (by omega) (by omega), fun r st' r0 r1 s1 => ?_⟩⟩
  obtain ⟨x, hx, hm⟩ := txs_at r0 r1
  refine ⟨_, hx, ?_⟩
  split
  · refine ⟨s1, many_ok (by omega) (by omega), fun r st' r0 r1 s1 => ?_⟩
    obtain ⟨op, ho, ho1⟩ := ops_at r0 r1
    refine ⟨_, ho, s1, many_ok (by omega) (by omega), fun r st' r0 r1 s1 => ?_⟩
    exact h (.cmp (.col x 0) op (.num (r - 9))) _ (fun zs e => ⟨⟨hm zs e, num_int (by omega) (by omega)⟩, ho1, num_int (by omega) (by omega)⟩) (by simp [Ct.size]) s1
  · split
    · refine ⟨s1, many_ok (by omega) (by omega), fun r st' r0 r1 s1 => ?_⟩
      exact h (.mis (.col x (r - 1))) _ (fun zs e => ⟨hm zs e, num_int (by omega) (by omega)⟩) (by simp [Ct.size]) s1
    · obtain ⟨w, hw, hw1⟩ := cst_at (r := k - 2) (by omega) (by omega)
      exact ⟨_, hw, h (.cst w) _ (fun _ _ => hw1) (by simp [Ct.size]) s1⟩
theorem rd_law_leaf : ∀ ds Qd Qe, sp_law_leaf ds Qd Qe → b_law_leaf (endsD [0] Qd Qe) (startE 6 [0] ds) := by
  rintro ds Qd Qe ⟨st, xs, c, rfl, hs, hy, hc, h⟩
  simp [b_law_leaf, b_law_leaf_1, startE, hs]
  refine ⟨many_ok (by omega) (by omega), fun k st' k0 k1 s1 => ?_⟩
  split
  · exact ⟨s1, hy, hc, fun x n st' hx hn s1 => h (.mis (.col x n)) _ (fun zs e => ⟨hx zs e, hn.le (by decide)⟩) (by simp [Ct.size]) s1⟩
  · split
    · exact ⟨s1, hy, hc, fun s st' hs s1 => h (.mis s) _ (fun zs e => hs zs e) (by simp [Ct.size]) s1⟩
    · split
      · refine ⟨s1, many_ok (by omega) (by omega), fun r st' r0 r1 s1 => ?_⟩
        obtain ⟨w, hw, hw1⟩ := cst_at r0 r1
        exact ⟨_, hw, h (.cst w) _ (fun _ _ => hw1) (by simp [Ct.size]) s1⟩
      · refine ⟨s1, many_ok (by omega) (by omega), fun r st' r0 r1 s1 => ?_⟩
        obtain ⟨op, ho, ho1⟩ := ops_at r0 r1
        refine ⟨_, ho, s1, hy, hc, fun x n st' hx hn s1 => ?_⟩
        split
        · exact ⟨s1, hy, hc, fun s st' hs s1 => ⟨s1, hy, hc, fun s' st' hs' s1 => h (.cmp s op s') _ (fun zs e => ⟨hs zs e, ho1, hs' zs e⟩) (by simp [Ct.size]) s1⟩⟩
        · exact ⟨s1, hy, hc, fun s' st' hs' s1 => h (.cmp (.col x n) op s') _ (fun zs e => ⟨⟨hx zs e, hn.le (by decide)⟩, ho1, hs' zs e⟩) (by simp [Ct.size]) s1⟩
end DL

namespace DL
open PySem L2

mutual
theorem steps_len : ∀ t : Ct, t.steps.length = t.size
  | .cmp _ _ _ => by simp [Ct.steps, Ct.size]
  | .mis _ => by simp [Ct.steps, Ct.size]
  | .cst _ => by simp [Ct.steps, Ct.size]
  | .neg c => by simp [Ct.steps, Ct.size, steps_len c]
  | .tst c _ => by simp [Ct.steps, Ct.size, steps_len c]
  | .jn _ cs => by simp [Ct.steps, Ct.size, stepsL_len cs]
theorem stepsL_len : ∀ ts : List Ct, (stepsL ts).length = sizeL ts
  | [] => by simp [stepsL, sizeL]
  | c :: cs => by simp [stepsL, sizeL, steps_len c, stepsL_len cs]
end
theorem sizeL_append : ∀ {a b : List Ct}, sizeL (a ++ b) = sizeL a + sizeL b
  | [], b => by simp [sizeL]
  | c :: a, b => by simp [sizeL, sizeL_append (a := a) (b := b)]; omega
theorem okL_append {xs : List Str} : ∀ {a b : List Ct}, okL xs (a ++ b) ↔ okL xs a ∧ okL xs b
  | [], b => by simp [okL]
  | c :: a, b => by simp [okL, okL_append (a := a) (b := b), and_assoc]
theorem stepsL_append : ∀ {a b : List Ct}, stepsL (a ++ b) = stepsL a ++ stepsL b
  | [], b => by simp [stepsL]
  | c :: a, b => by simp [stepsL, stepsL_append (a := a) (b := b)]
def prt (t : Ct) : D := .lst t.steps
/-- conditions over the names that xs are -/
def OkT (xs : List D) (t : Ct) : Prop := ∀ ys, xs = txs ys → t.Ok ys
def OkTs (xs : List D) (ts : List Ct) : Prop := ∀ ys, xs = txs ys → okL ys ts
theorem lp_steps1 {B : DEnds} {ys : List Str} {c : D} {e3 e9 e10 : Option Ent} (h1 : 1 ≤ ys.length) (h2 : ys.length ≤ 9) (hc : cenOk c) : ∀ (n k : Nat) (ts : List Ct) (st : D) (e6 e7 e8 : Option Ent), StOk st → ts.length = k → ts.length + n ≤ 4 → OkTs (txs ys) ts → sizeL ts ≤ 2 * k →
    (∀ (ts' : List Ct) (st : D) (e6 e7 e8 : Option Ent), StOk st → ts'.length = k + n → OkTs (txs ys) ts' → sizeL ts' ≤ 2 * (k + n) → B.nx [some (.ow true st), some (.fz (.lst (txs ys))), some (.fz c), e3, some (.fz (.lst (txs wrdL))), some (.ow false (.lst (ts'.map prt))), e6, e7, e8, e9, e10]) →
    loopD (dgName 6) b_law_steps_3 B (rangeD k n) [some (.ow true st), some (.fz (.lst (txs ys))), some (.fz c), e3, some (.fz (.lst (txs wrdL))), some (.ow false (.lst (ts.map prt))), e6, e7, e8, e9, e10]
  | 0, k, ts, st, e6, e7, e8, hs, hl, hn, ho, hz, h => h ts st _ _ _ hs hl ho hz
  | n + 1, k, ts, st, e6, e7, e8, hs, hl, hn, ho, hz, h => by
    have ih := fun (t : Ct) (st : D) (e7 e8 : Option Ent) (hs : StOk st) (ht : OkT (txs ys) t) (hz' : t.size ≤ 2) => lp_steps1 (B := B) (e3 := e3) (e9 := e9) (e10 := e10) h1 h2 hc n (k + 1) (ts ++ [t]) st (some (.fz (.int k))) e7 e8 hs (by simp [hl]) (by simp; omega) (fun zs e => okL_append.mpr ⟨ho zs e, ht zs e, trivial⟩) (by simp [sizeL_append, sizeL]; omega) (fun ts' st e6 e7 e8 q1 q2 q3 q4 => h ts' st e6 e7 e8 q1 (by omega) q3 (by omega))
    rw [rangeD_succ]
    have hl2 : ts.length < 16777216 := by omega
    simp [loopD, b_law_steps_3, b_law_steps_1, b_law_steps_2, hs, hc, hl2]
    refine ⟨⟨ys, rfl, h1, h2⟩, fun t st' ht hz1 s1 => ⟨s1, many_ok (by omega) (by omega), fun r st' r0 r1 s1 => ?_⟩⟩
    have tl := steps_len t
    split
    · rename_i r5
      subst r5
      refine ⟨by omega, ?_⟩
      have := ih (.neg t) st' (some (.fz (prt (.neg t)))) (some (.fz (.int 5))) s1 (fun zs e => ht zs e) (by simp [Ct.size]; omega)
      simp [prt, Ct.steps] at this
      exact this
    · split
      · refine ⟨s1, many_ok (by omega) (by omega), fun r' st' r0 r1 s1 => ?_⟩
        obtain ⟨w, hw, hw1⟩ := txs_in (xs := wrdL) rfl r0 (by simpa [wrdL] using r1)
        refine ⟨_, hw, by omega, ?_⟩
        have := ih (.tst t w) st' (some (.fz (prt (.tst t w)))) (some (.fz (.int r))) s1 (fun zs e => ⟨ht zs e, hw1⟩) (by simp [Ct.size]; omega)
        simp [prt, Ct.steps] at this
        exact this
      · have := ih t st' (some (.fz (prt t))) (some (.fz (.int r))) s1 ht (by omega)
        simp [prt] at this
        exact this

theorem bth_at {r : Int} (h0 : 0 ≤ r) (h1 : r < 2) : ∃ b : Bool, atI [D.str "both", .str "either"] r = some (.str (jnW b)) := by
  obtain ⟨d, hd, e⟩ := at2 (a := D.str "both") (b := D.str "either") h0 h1
  rcases e with rfl | rfl
  · exact ⟨true, hd⟩
  · exact ⟨false, hd⟩
theorem st_4 {B : DEnds} {ys : List Str} {c : D} {st : D} {ts : List Ct} {e2 e3 e4 e6 e7 e8 e9 e10 : Option Ent} (hs : StOk st) (hl : 1 ≤ ts.length) (hn : ts.length ≤ 4) (ho : OkTs (txs ys) ts) (hz : sizeL ts ≤ 8)
    (h : ∀ (ts' : List Ct) (st : D) (e9 : Option Ent), StOk st → 1 ≤ ts'.length → ts'.length ≤ 4 → OkTs (txs ys) ts' → sizeL ts' ≤ 9 → B.nx [some (.ow true st), some (.fz (.lst (txs ys))), e2, e3, e4, some (.ow false (.lst (ts'.map prt))), e6, e7, e8, e9, e10]) :
    b_law_steps_4 B [some (.ow true st), some (.fz (.lst (txs ys))), e2, e3, e4, some (.ow false (.lst (ts.map prt))), e6, e7, e8, e9, e10] := by
  by_cases h3 : 2 < ts.length
  · match ts, h3, hl, hn, ho, hz, h with
    | a :: b :: d :: rest, _, hl, hn, ho, hz, h =>
      simp only [List.length_cons] at hn
      simp only [sizeL] at hz
      have la := steps_len a
      have lb := steps_len b
      have e3 : (2 : Int) < rest.length + 1 + 1 + 1 := by omega
      simp [b_law_steps_4, hs, prt, e3]
      refine ⟨many_ok (by omega) (by omega), fun r st' r0 r1 s1 => ?_⟩
      split
      · refine ⟨by omega, s1, many_ok (by omega) (by omega), fun r st' r0 r1 s1 => ?_⟩
        obtain ⟨w, hw⟩ := bth_at r0 r1
        refine ⟨_, hw, by omega, ?_⟩
        rw [show (2 : Int) = ((2 : Nat) : Int) from rfl]
        have cut : cutD (D.lst a.steps :: D.lst b.steps :: D.lst d.steps :: List.map prt rest) (some ((2 : Nat) : Int)) none = D.lst d.steps :: rest.map prt := by
          unfold cutD
          rw [HT.sIx_nat, HT.sIx_none]
          simp
          exact List.take_of_length_le (by simp)
        rw [cut]
        have := h (.jn w [a, b] :: d :: rest) st' (some (.fz (prt (.jn w [a, b])))) s1 (by simp) (by simp; omega) (fun zs e => by
          obtain ⟨o1, o2, o3⟩ := ho zs e
          exact ⟨⟨by simp, by simp, o1, o2, trivial⟩, o3⟩) (by simp [sizeL, Ct.size]; omega)
        simp [prt, Ct.steps, stepsL, catD] at this ⊢
        exact ⟨by omega, this⟩
      · have := h (a :: b :: d :: rest) st' e9 s1 (by simp) (by simp; omega) ho (by simp only [sizeL]; omega)
        simp [prt] at this
        exact this
  · have e3 : ¬ ((2 : Int) < ts.length) := by omega
    simp [b_law_steps_4, e3]
    exact h ts st e9 hs hl hn ho (by omega)

theorem lp_steps5 {B : DEnds} {e0 e1 e2 e3 e4 e5 e6 e8 e9 : Option Ent} : ∀ (ts : List Ct) (acc : List D) (e7 : Option Ent), acc.length + sizeL ts < 1000000 →
    (∀ e7, B.nx [e0, e1, e2, e3, e4, e5, e6, e7, e8, e9, some (.fz (.lst (acc ++ stepsL ts)))]) →
    loopD (dgName 7) b_law_steps_5 B (ts.map prt) [e0, e1, e2, e3, e4, e5, e6, e7, e8, e9, some (.fz (.lst acc))]
  | [], acc, e7, hl, h => by
    have h := h e7
    rw [stepsL, List.append_nil] at h
    exact h
  | t :: ts, acc, e7, hl, h => by
    rw [sizeL] at hl
    have tl := steps_len t
    have ih := lp_steps5 (B := B) (e0 := e0) (e1 := e1) (e2 := e2) (e3 := e3) (e4 := e4) (e5 := e5) (e6 := e6) (e8 := e8) (e9 := e9) ts (acc ++ t.steps) (some (.fz (prt t))) (by rw [List.length_append]; omega) (fun e7 => by
      rw [List.append_assoc, ← stepsL]
      exact h e7)
    have hl2 : acc.length + t.steps.length ≤ 16777216 := by omega
    simp [loopD, b_law_steps_5, prt, hl2]
    exact ih
theorem st_6 {B : DEnds} {xs : List D} {st : D} {ts : List Ct} {e1 e2 e3 e4 e6 e7 e8 e9 : Option Ent} (hs : StOk st) (hl : 1 ≤ ts.length) (hn : ts.length ≤ 4) (ho : OkTs xs ts) (hz : sizeL ts ≤ 9)
    (h : ∀ (t : Ct) (st : D) (e5 : Option Ent), StOk st → OkT xs t → t.size ≤ 12 → B.nx [some (.ow true st), e1, e2, e3, e4, e5, e6, e7, e8, e9, some (.fz (.lst t.steps))]) :
    b_law_steps_6 B [some (.ow true st), e1, e2, e3, e4, some (.fz (.lst (ts.map prt))), e6, e7, e8, e9, some (.fz (.lst (stepsL ts)))] := by
  have sl := stepsL_len ts
  by_cases h2 : 1 < ts.length
  · have h3 : (1 : Int) < ts.length := by omega
    simp [b_law_steps_6, hs, h3]
    refine ⟨many_ok (by omega) (by omega), fun r st' r0 r1 s1 => ?_⟩
    obtain ⟨w, hw⟩ := bth_at r0 r1
    refine ⟨_, hw, by omega, s1, many_ok (by omega) (by omega), fun r st' r0 r1 s1 => ?_⟩
    have oj : OkT xs (.jn w ts) := fun zs e => ⟨by omega, hn, ho zs e⟩
    split
    · refine ⟨by omega, ?_⟩
      have := h (.neg (.jn w ts)) st' (some (.fz (.lst (ts.map prt)))) s1 (fun zs e => oj zs e) (by simp only [Ct.size]; omega)
      simp [Ct.steps] at this
      exact this
    · have := h (.jn w ts) st' (some (.fz (.lst (ts.map prt)))) s1 oj (by simp only [Ct.size]; omega)
      simp [Ct.steps] at this
      exact this
  · have h3 : ¬ ((1 : Int) < ts.length) := by omega
    simp [b_law_steps_6, h3]
    obtain ⟨t, rfl⟩ := List.length_eq_one_iff.mp (show ts.length = 1 by omega)
    have := h t st (some (.fz (.lst ([t].map prt)))) hs (fun zs e => (ho zs e).1) (by simp only [sizeL] at hz; omega)
    simp [stepsL]
    exact this
theorem rd_law_steps : ∀ ds Qd Qe, sp_law_steps ds Qd Qe → b_law_steps (endsD [0] Qd Qe) (startE 11 [0] ds) := by
  rintro ds Qd Qe ⟨st, xs, c, most, rfl, hs, ⟨ys, rfl, h1, h2⟩, hc, m1, m2, h⟩
  simp [b_law_steps, startE, hs]
  refine ⟨many_ok (by omega) (by omega), fun r st' r0 r1 s1 => ?_⟩
  refine ⟨by omega, by omega, ?_⟩
  have e0 : (1 + r).toNat ≤ 4 := by omega
  refine lp_steps1 h1 h2 hc (1 + r).toNat 0 [] st' none none none s1 rfl (by simpa using e0) (fun _ _ => trivial) (by simp [sizeL]) fun ts st e6 e7 e8 s1 hl ho hz => ?_
  refine st_4 (c := c) s1 (by omega) (by omega) ho (by omega) fun ts st e9 s1 hl hn ho hz => ?_
  simp
  refine lp_steps5 ts [] e7 (by simp; omega) fun e7 => ?_
  refine st_6 s1 hl hn ho hz fun t st e5 s1 ht hz => ?_
  simp
  exact h t st ht hz s1
end DL

namespace DL
open PySem L2

@[simp ↓] theorem r_ixS {s : Str} {i : Int} {Q : D → Prop} : ixD (.str s) (.int i) Q = (s.length ≤ sizeLine ∧ ∃ c, atI s.cps.toList i = some c ∧ Q (.str ⟨#[c]⟩)) := by rfl
@[simp ↓] theorem r_len_str {s : Str} {Q : D → Prop} : lenD [.str s] Q = (s.length ≤ sizeLine ∧ Q (.int s.length)) := propext (Iff.intro (fun ⟨n, h, q⟩ => by
  by_cases l : s.length ≤ sizeLine
  · have h : (if s.length ≤ sizeLine then some s.length else none) = some n := h
    rw [if_pos l] at h
    cases h
    exact ⟨l, q⟩
  · have h : (if s.length ≤ sizeLine then some s.length else none) = some n := h
    rw [if_neg l] at h
    cases h) (fun ⟨l, q⟩ => ⟨_, if_pos l, q⟩))
def sg (c : Nat) : Str := ⟨#[c]⟩
def letS : Str := "abcdefghijklmnopqrstuvwxyz"
def sgnS : Str := "abcdefghijklmnopqrstuvwxyz0123456789_"
theorem tl_letS : tl letS = letL := by decide +kernel
theorem tl_sgnS : tl sgnS = sgnL := by decide +kernel
theorem sgn_cat : letS ++ ("0123456789_" : Str) = sgnS := by decide +kernel
theorem len_letS : letS.length = 26 := by decide +kernel
theorem len_sgnS : sgnS.length = 37 := by decide +kernel
theorem tl_len {x : Str} : x.length = (tl x).length := TL.len_tl x
theorem tl_app {x y : Str} : tl (x ++ y) = tl x ++ tl y := TL.tl_append x y
theorem tl_ext {x y : Str} (h : tl x = tl y) : x = y := TL.ext_tl h
theorem tl_sg {c : Nat} : tl (sg c) = [c] := rfl
theorem len_app {x y : Str} : (x ++ y).length = x.length + y.length := by rw [tl_len, tl_app, List.length_append, ← tl_len, ← tl_len]
theorem len_sg {c : Nat} : (sg c).length = 1 := rfl
theorem tl_take {x : Str} {n : Nat} : tl (cutS x none (some (n : Int))) = (tl x).take n := by
  show ((x.cps.toList.drop (HT.sIx x.length 0 none)).take (HT.sIx x.length x.length (some (n : Int)) - HT.sIx x.length 0 none)).toArray.toList = _
  rw [HT.sIx_none, HT.sIx_nat, List.drop_zero, Nat.sub_zero]
  have e : x.length = x.cps.toList.length := tl_len
  by_cases h : n ≤ x.length
  · rw [Nat.min_eq_left h]; rfl
  · rw [Nat.min_eq_right (by omega)]
    show List.take _ _ = List.take _ _
    rw [List.take_of_length_le (by omega), List.take_of_length_le (by show (x.cps.toList).length ≤ n; omega)]
    rfl
theorem tl_drop {x : Str} {n : Nat} : tl (cutS x (some (n : Int)) none) = (tl x).drop n := by
  show ((x.cps.toList.drop (HT.sIx x.length 0 (some (n : Int)))).take (HT.sIx x.length x.length none - HT.sIx x.length 0 (some (n : Int)))).toArray.toList = _
  rw [HT.sIx_none, HT.sIx_nat]
  have e : x.length = x.cps.toList.length := tl_len
  show List.take _ (List.drop _ _) = List.drop _ _
  by_cases h : n ≤ x.length
  · rw [Nat.min_eq_left h, List.take_of_length_le (by rw [List.length_drop]; omega)]
    rfl
  · rw [Nat.min_eq_right (by omega), List.drop_of_length_le (by omega), List.drop_of_length_le (by show (x.cps.toList).length ≤ n; omega)]
    simp
theorem let_at {r : Int} (h0 : 0 ≤ r) (h1 : r < 26) : ∃ c, atI letS.cps.toList r = some c ∧ c ∈ letL := by
  have e : letS.cps.toList = letL := tl_letS
  rw [e]
  obtain ⟨c, hc⟩ := atI_some (l := letL) (i := r) (by simp [letL]; omega) (by simpa [letL] using h1)
  exact ⟨c, hc, atI_mem hc⟩
theorem sgn_at {r : Int} (h0 : 0 ≤ r) (h1 : r < 37) : ∃ c, atI sgnS.cps.toList r = some c ∧ c ∈ sgnL := by
  have e : sgnS.cps.toList = sgnL := tl_sgnS
  rw [e]
  obtain ⟨c, hc⟩ := atI_some (l := sgnL) (i := r) (by simp [sgnL, letL]; omega) (by simpa [sgnL, letL] using h1)
  exact ⟨c, hc, atI_mem hc⟩
theorem let_sgn {c : Nat} (h : c ∈ letL) : c ∈ sgnL := List.mem_append_left _ h
/-! ### candidates -/
theorem cand_sg {c : Nat} (h : c ∈ letL) : Cand (sg c) := ⟨Nat.le_refl 1, (by decide : 1 ≤ 12), fun d m => by
  rw [tl_sg, List.mem_singleton] at m
  rw [m]
  exact let_sgn h, c, [], rfl, h⟩
theorem cand_app {x : Str} {c : Nat} (h : Cand x) (hl : x.length < 12) (hc : c ∈ sgnL) : Cand (x ++ sg c) := by
  obtain ⟨h1, h2, h3, d, r, h4, h5⟩ := h
  refine ⟨by rw [len_app, len_sg]; omega, by rw [len_app, len_sg]; omega, fun e m => ?_, d, r ++ [c], by rw [tl_app, h4]; rfl, h5⟩
  rw [tl_app, List.mem_append] at m
  rcases m with m | m
  · exact h3 e m
  · rw [tl_sg, List.mem_singleton] at m
    rw [m]
    exact hc
theorem cand_take {x : Str} {n : Nat} (h : Cand x) (hn : 1 ≤ n) : Cand (cutS x none (some (n : Int))) := by
  obtain ⟨h1, h2, h3, d, r, h4, h5⟩ := h
  obtain ⟨m, rfl⟩ : ∃ m, n = m + 1 := ⟨n - 1, by omega⟩
  have e : tl (cutS x none (some ((m + 1 : Nat) : Int))) = d :: r.take m := by rw [tl_take, h4]; rfl
  rw [tl_len, h4] at h2
  refine ⟨by rw [tl_len, e]; simp, by rw [tl_len, e]; simp at h2 ⊢; omega, fun c mc => h3 c ?_, d, r.take m, e, h5⟩
  rw [tl_take] at mc
  exact List.mem_of_mem_take mc
theorem cand_mid {x : Str} {n c : Nat} (h : Cand x) (hn : n < x.length) (hc : c ∈ letL) : Cand (cutS x none (some (n : Int)) ++ sg c ++ cutS x (some ((n : Int) + 1)) none) ∧ (cutS x none (some (n : Int)) ++ sg c ++ cutS x (some ((n : Int) + 1)) none).length = x.length := by
  have e1 : ((n : Int) + 1) = ((n + 1 : Nat) : Int) := by omega
  rw [e1]
  obtain ⟨h1, h2, h3, d, r, h4, h5⟩ := h
  have et : tl (cutS x none (some (n : Int)) ++ sg c ++ cutS x (some ((n + 1 : Nat) : Int)) none) = (tl x).take n ++ [c] ++ (tl x).drop (n + 1) := by rw [tl_app, tl_app, tl_take, tl_drop, tl_sg]
  have el : ((tl x).take n ++ [c] ++ (tl x).drop (n + 1)).length = x.length := by
    rw [tl_len] at hn ⊢
    simp
    omega
  refine ⟨⟨by rw [tl_len, et, el]; exact h1, by rw [tl_len, et, el]; exact h2, fun b m => ?_, ?_⟩, by rw [tl_len, et, el]⟩
  · rw [et, List.mem_append, List.mem_append, List.mem_singleton] at m
    rcases m with (m | rfl) | m
    · exact h3 b (List.mem_of_mem_take m)
    · exact let_sgn hc
    · exact h3 b (List.mem_of_mem_drop m)
  · rw [et]
    cases n with
    | zero => exact ⟨c, (tl x).drop 1, by simp, hc⟩
    | succ n => exact ⟨d, r.take n ++ [c] ++ (tl x).drop (n + 2), by rw [h4]; simp, h5⟩
/-! ### the name that is new -/
def badN (names : List Str) (x : Str) : Prop := x ∈ names ∨ x ∈ resL
instance {names : List Str} {x : Str} : Decidable (badN names x) := by unfold badN; infer_instance
def letN (j : Nat) : Nat := letL.getD (j % 26) 0
def nextN (names : List Str) (j : Nat) (x : Str) : Str := if badN names x then cutS x none (some 11) ++ sg (letN j) else x
theorem letN_mem {j : Nat} : letN j ∈ letL := by
  unfold letN
  have h : j % 26 < letL.length := by simp [letL]; omega
  rw [List.getD_eq_getElem?_getD, List.getElem?_eq_getElem h]
  exact List.getElem_mem h
theorem cand_next {names : List Str} {j : Nat} {x : Str} (h : Cand x) : Cand (nextN names j x) := by
  unfold nextN
  split
  · refine cand_app (cand_take (n := 11) h (by decide)) ?_ (let_sgn letN_mem)
    rw [tl_len, show ((11 : Int)) = ((11 : Nat) : Int) from rfl, tl_take]
    simp
    omega
  · exact h
end DL

namespace DL
open PySem L2

theorem inj_len {α : Type} [DecidableEq α] : ∀ (n : Nat) (l : List α) (f : Nat → α), (∀ i, i < n → f i ∈ l) → (∀ i j, i < n → j < n → f i = f j → i = j) → n ≤ l.length
  | 0, _, _, _, _ => Nat.zero_le _
  | n + 1, l, f, h, k => by
    have m := h n (by omega)
    have ih := inj_len n (l.erase (f n)) f (fun i hi => (List.mem_erase_of_ne (fun e => by have := k i n (by omega) (by omega) e; omega)).mpr (h i (by omega))) (fun i j hi hj => k i j (by omega) (by omega))
    have e := List.length_erase_of_mem m
    have p : 0 < l.length := List.length_pos_of_mem m
    omega
def seqN (names : List Str) (x : Str) : Nat → Str
  | 0 => x
  | j + 1 => nextN names j (seqN names x j)
theorem seq_cand {names : List Str} {x : Str} (h : Cand x) : ∀ j, Cand (seqN names x j)
  | 0 => h
  | j + 1 => cand_next (seq_cand h j)
theorem seq_bad {names : List Str} {x : Str} : ∀ (n j : Nat), badN names (seqN names x (j + n)) → badN names (seqN names x j)
  | 0, j, h => h
  | n + 1, j, h => by
    refine seq_bad n j ?_
    by_cases b : badN names (seqN names x (j + n))
    · exact b
    · have e : seqN names x (j + (n + 1)) = seqN names x (j + n) := by
        show nextN names (j + n) (seqN names x (j + n)) = _
        unfold nextN
        rw [if_neg b]
      rw [e] at h
      exact h
theorem seq_tl {names : List Str} {x : Str} {j : Nat} (h : badN names (seqN names x j)) : tl (seqN names x (j + 1)) = (tl (seqN names x j)).take 11 ++ [letN j] := by
  show tl (nextN names j (seqN names x j)) = _
  unfold nextN
  rw [if_pos h, tl_app, show ((11 : Int)) = ((11 : Nat) : Int) from rfl, tl_take, tl_sg]
theorem res_len {x : Str} (h : x ∈ resL) : x.length ≤ 9 := by
  have : resL.all (fun x => decide (x.length ≤ 9)) = true := by decide +kernel
  have := List.all_eq_true.mp this x h
  simpa using this
theorem letN_inj : ∀ i, i < 9 → ∀ j, j < 9 → letN (12 + i) = letN (12 + j) → i = j := by decide
theorem seq_good {names : List Str} {x : Str} (h : Cand x) (hl : names.length ≤ 8) : ¬ badN names (seqN names x 60) := by
  intro b
  have bad : ∀ j, j ≤ 60 → badN names (seqN names x j) := fun j hj => seq_bad (60 - j) j (by rw [show j + (60 - j) = 60 by omega]; exact b)
  have len : ∀ j, j ≤ 60 → min 12 (1 + j) ≤ (tl (seqN names x j)).length := by
    intro j
    induction j with
    | zero =>
      intro _
      have := h.1
      rw [tl_len] at this
      show min 12 1 ≤ (tl x).length
      omega
    | succ j ih =>
      intro hj
      have := ih (by omega)
      rw [seq_tl (bad j (by omega)), List.length_append, List.length_take]
      simp
      omega
  have pre : ∀ j, 11 ≤ j → j ≤ 59 → (tl (seqN names x j)).take 11 = (tl (seqN names x 11)).take 11 := by
    intro j
    induction j with
    | zero => intro h; omega
    | succ j ih =>
      intro h1 h2
      by_cases e : j + 1 = 11
      · rw [e]
      · rw [seq_tl (bad j (by omega)), ← ih (by omega) (by omega)]
        have := len j (by omega)
        rw [List.take_append_of_le_length (by rw [List.length_take]; omega), List.take_take]
        simp
  have tlv : ∀ j, 11 ≤ j → j ≤ 59 → tl (seqN names x (j + 1)) = (tl (seqN names x 11)).take 11 ++ [letN j] := fun j h1 h2 => by
    rw [seq_tl (bad j (by omega)), pre j h1 h2]
  have inn : ∀ i, i < 9 → seqN names x (12 + i + 1) ∈ names := fun i hi => by
    rcases bad (12 + i + 1) (by omega) with q | q
    · exact q
    · have q := res_len q
      have := len (12 + i + 1) (by omega)
      rw [tl_len] at q
      omega
  have := inj_len 9 names (fun i => seqN names x (12 + i + 1)) inn (fun i j hi hj e => by
    have e : tl (seqN names x (12 + i + 1)) = tl (seqN names x (12 + j + 1)) := congrArg tl e
    rw [tlv (12 + i) (by omega) (by omega), tlv (12 + j) (by omega) (by omega)] at e
    have e := List.append_cancel_left e
    exact letN_inj i hi j hj (by simpa using e))
  omega
theorem let_mod {j : Nat} : atI letS.cps.toList ((j : Int).fmod 26) = some (letN j) := by
  have e : letS.cps.toList = letL := tl_letS
  rw [e, Int.fmod_eq_emod_of_nonneg _ (by decide), atI_nonneg (j := j % 26) (by omega)]
  unfold letN
  have h : j % 26 < letL.length := by simp [letL]; omega
  rw [List.getD_eq_getElem?_getD, List.getElem?_eq_getElem h]
  rfl
theorem letS_eq : (Str.ofString "abcdefghijklmnopqrstuvwxyz") = letS := rfl
theorem lp_names3 {B : DEnds} {names : List Str} {x : Str} {e0 e1 e4 e5 e6 e7 e8 : Option Ent} (hx : Cand x) : ∀ (n j : Nat) (e11 : Option Ent),
    (∀ e11, B.nx [e0, e1, some (.fz (.lst (txs resL))), some (.fz (.str letS)), e4, e5, e6, e7, e8, some (.ow false (.lst (txs names))), some (.fz (.str (seqN names x (j + n)))), e11]) →
    loopD (dgName 11) b_law_names_3 B (rangeD j n) [e0, e1, some (.fz (.lst (txs resL))), some (.fz (.str letS)), e4, e5, e6, e7, e8, some (.ow false (.lst (txs names))), some (.fz (.str (seqN names x j))), e11]
  | 0, j, e11, h => h e11
  | n + 1, j, e11, h => by
    have ih := lp_names3 (B := B) (names := names) (e0 := e0) (e1 := e1) (e4 := e4) (e5 := e5) (e6 := e6) (e7 := e7) (e8 := e8) hx n (j + 1) (some (.fz (.int j))) (fun e11 => by
      rw [show j + 1 + n = j + (n + 1) by omega]
      exact h e11)
    rw [rangeD_succ]
    have hc := seq_cand (names := names) hx j
    have l1 := hc.2.1
    have nx : seqN names x (j + 1) = nextN names j (seqN names x j) := rfl
    rw [nx] at ih
    simp only [nextN] at ih
    have l2 : letS.length = 26 := len_letS
    have cl : (cutS (seqN names x j) none (some 11)).length ≤ 12 := Nat.le_trans (cutS_length _ _ _) l1
    have l3 : (cutS (seqN names x j) none (some 11)).length + Str.length { cps := #[letN j] } ≤ 16777216 := by
      show _ + 1 ≤ _
      omega
    by_cases b1 : seqN names x j ∈ names
    · rw [if_pos (show badN names (seqN names x j) from .inl b1)] at ih
      simp [loopD, b_law_names_3, b1, l2]
      refine ⟨by omega, _, let_mod, l3, ?_⟩
      exact ih
    · by_cases b2 : seqN names x j ∈ resL
      · rw [if_pos (show badN names (seqN names x j) from .inr b2)] at ih
        simp [loopD, b_law_names_3, b1, b2, l2]
        refine ⟨by omega, _, let_mod, l3, ?_⟩
        exact ih
      · rw [if_neg (show ¬ badN names (seqN names x j) from fun z => z.elim b1 b2)] at ih
        simp [loopD, b_law_names_3, b1, b2]
        exact ih
end DL

namespace DL
open PySem L2

theorem cut_le {x : Str} {lo hi : Option Int} : (cutS x lo hi).length ≤ x.length := cutS_length x lo hi
theorem lp_names1 {B : DEnds} {e1 e2 e3 e5 e8 e9 e10 e11 : Option Ent} : ∀ (n k : Nat) (x : Str) (st : D) (e7 : Option Ent), StOk st → Cand x → x.length = k + 1 → k + 1 + n ≤ 12 →
    (∀ (x : Str) (st : D) e7, StOk st → Cand x → x.length = k + 1 + n → B.nx [some (.ow true st), e1, e2, e3, some (.fz (.str sgnS)), e5, some (.fz (.str x)), e7, e8, e9, e10, e11]) →
    loopD (dgName 7) b_law_names_1 B (rangeD k n) [some (.ow true st), e1, e2, e3, some (.fz (.str sgnS)), e5, some (.fz (.str x)), e7, e8, e9, e10, e11]
  | 0, k, x, st, e7, hs, hx, hl, hn, h => h x st e7 hs hx hl
  | n + 1, k, x, st, e7, hs, hx, hl, hn, h => by
    have l2 : sgnS.length = 37 := len_sgnS
    rw [rangeD_succ]
    simp [loopD, b_law_names_1, hs, l2]
    refine ⟨many_ok (by omega) (by omega), fun r st' r0 r1 s1 => ?_⟩
    obtain ⟨c, hc, hm⟩ := sgn_at r0 r1
    refine ⟨_, hc, by show x.length + 1 ≤ _; omega, ?_⟩
    exact lp_names1 n (k + 1) (x ++ sg c) st' (some (.fz (.int k))) s1 (cand_app hx (by omega) hm) (by rw [len_app, len_sg]; omega) (by omega) (fun y st e7 q1 q2 q3 => h y st e7 q1 q2 (by omega))
theorem nm_2 {B : DEnds} {st : D} {base : Str} {k at_ : Int} {e1 e2 e4 e5 e9 e11 : Option Ent} (hs : StOk st) (hb : Cand base) (h0 : 0 ≤ at_) (h1 : at_ < base.length)
    (h : ∀ (st : D) (x : Str), StOk st → Cand x → B.nx [some (.ow true st), e1, e2, some (.fz (.str letS)), e4, e5, some (.fz (.str base)), some (.fz (.int k)), some (.fz (.int at_)), e9, some (.fz (.str x)), e11]) :
    b_law_names_2 B [some (.ow true st), e1, e2, some (.fz (.str letS)), e4, e5, some (.fz (.str base)), some (.fz (.int k)), some (.fz (.int at_)), e9, some (.fz (.str base)), e11] := by
  obtain ⟨n, rfl⟩ : ∃ n : Nat, at_ = n := ⟨at_.toNat, by omega⟩
  have l2 : letS.length = 26 := len_letS
  have lb := hb.2.1
  have lb1 := hb.1
  by_cases hk : 0 < k
  · simp [b_law_names_2, hs, l2, hk]
    refine ⟨by omega, many_ok (by omega) (by omega), fun r st' r0 r1 s1 => ?_⟩
    obtain ⟨c, hc, hm⟩ := let_at r0 r1
    obtain ⟨hcand, hlen⟩ := cand_mid (x := base) (n := n) hb (by omega) hm
    have c1 : (cutS base none (some (n : Int))).length ≤ base.length := cut_le
    have c2 : (cutS base (some ((n : Int) + 1)) none).length ≤ base.length := cut_le
    have c3 : ({ cps := #[c] } : Str).length = 1 := rfl
    have c4 : (cutS base none (some (n : Int)) ++ ({ cps := #[c] } : Str)).length = (cutS base none (some (n : Int))).length + 1 := len_app
    refine ⟨_, hc, by omega, by omega, by omega, s1, many_ok (by omega) (by omega), fun r st' r0 r1 s1 => ?_⟩
    have hlen' : (cutS base none (some (n : Int)) ++ ({ cps := #[c] } : Str) ++ cutS base (some ((n : Int) + 1)) none).length = base.length := hlen
    split
    · refine ⟨by omega, s1, many_ok (by omega) (by omega), fun r st' r0 r1 s1 => ⟨by omega, ?_⟩⟩
      obtain ⟨m, rfl⟩ : ∃ m : Nat, r = m := ⟨r.toNat, by omega⟩
      have := cand_take (x := cutS base none (some (n : Int)) ++ sg c ++ cutS base (some ((n : Int) + 1)) none) (n := m + 1) hcand (by omega)
      rw [show (((m + 1 : Nat) : Int)) = 1 + (m : Int) by omega] at this
      exact h _ _ s1 this
    · exact h _ _ s1 hcand
  · simp [b_law_names_2, hk]
    exact h _ _ hs hb

theorem lp_names4 {B : DEnds} {base : Str} {at_ : Int} {e1 e4 e5 : Option Ent} (hb : Cand base) (h0 : 0 ≤ at_) (h1 : at_ < base.length) : ∀ (n k : Nat) (xs : List Str) (st : D) (e7 e10 e11 : Option Ent), StOk st → xs.length = k → k + n ≤ 9 → NamesOk xs →
    (∀ (xs : List Str) (st : D) e7 e10 e11, StOk st → xs.length = k + n → NamesOk xs → B.nx [some (.ow true st), e1, some (.fz (.lst (txs resL))), some (.fz (.str letS)), e4, e5, some (.fz (.str base)), e7, some (.fz (.int at_)), some (.ow false (.lst (txs xs))), e10, e11]) →
    loopD (dgName 7) b_law_names_4 B (rangeD k n) [some (.ow true st), e1, some (.fz (.lst (txs resL))), some (.fz (.str letS)), e4, e5, some (.fz (.str base)), e7, some (.fz (.int at_)), some (.ow false (.lst (txs xs))), e10, e11]
  | 0, k, xs, st, e7, e10, e11, hs, hl, hn, ho, h => h xs st e7 e10 e11 hs hl ho
  | n + 1, k, xs, st, e7, e10, e11, hs, hl, hn, ho, h => by
    have ih := fun (x : Str) (st : D) e7 e10 e11 (hs : StOk st) (hx : NameOk x) (hx2 : x ∉ xs) => lp_names4 (B := B) (e1 := e1) (e4 := e4) (e5 := e5) hb h0 h1 n (k + 1) (xs ++ [x]) st e7 e10 e11 hs (by simp [hl]) (by omega) ⟨fun y m => by
      rcases List.mem_append.mp m with m | m
      · exact ho.1 y m
      · rw [List.mem_singleton.mp m]; exact hx, List.nodup_append.mpr ⟨ho.2, by simp, fun a ha b hb e => by
        rw [List.mem_singleton] at hb
        subst hb
        rw [e] at ha
        exact hx2 ha⟩⟩ (fun xs st e7 e10 e11 q1 q2 q3 => h xs st e7 e10 e11 q1 (by omega) q3)
    have hl2 : (txs xs).length < 16777216 := by rw [len_txs]; omega
    rw [rangeD_succ]
    simp [loopD, b_law_names_4]
    refine nm_2 hs hb h0 h1 fun st x hs hx => ?_
    simp
    refine lp_names3 (names := xs) (x := x) hx 60 0 e11 fun e11 => ?_
    have g := seq_good (names := xs) hx (by omega)
    have c := seq_cand (names := xs) hx 60
    have := ih (seqN xs x 60) st (some (.fz (.int k))) (some (.fz (.str (seqN xs x 60)))) e11 hs ⟨c, fun z => g (.inr z)⟩ (fun z => g (.inl z))
    simp [hl2]
    simp [txs] at this ⊢
    exact this
theorem rd_law_names : ∀ ds Qd Qe, sp_law_names ds Qd Qe → b_law_names (endsD [0] Qd Qe) (startE 12 [0] ds) := by
  rintro ds Qd Qe ⟨st, many, rfl, hs, m1, m2, h⟩
  have l1 : letS.length = 26 := len_letS
  have l2 : Str.length "abcdefghijklmnopqrstuvwxyz" = 26 := len_letS
  have l3 : Str.length "0123456789_" = 11 := by decide +kernel
  simp [b_law_names, startE, hs, l2, l3]
  refine ⟨many_ok (by omega) (by omega), fun r st' r0 r1 s1 => ?_⟩
  obtain ⟨d, hd⟩ := atI_some (l := [D.int 1, .int 2, .int 4, .int 12]) (i := r) (by simp; omega) (by simpa using r1)
  have md := atI_mem hd
  obtain ⟨z, rfl, z1, z2⟩ : ∃ z : Nat, d = .int z ∧ 1 ≤ z ∧ z ≤ 12 := by
    simp at md
    rcases md with rfl | rfl | rfl | rfl
    · exact ⟨1, rfl, by decide, by decide⟩
    · exact ⟨2, rfl, by decide, by decide⟩
    · exact ⟨4, rfl, by decide, by decide⟩
    · exact ⟨12, rfl, by decide, by decide⟩
  refine ⟨_, hd, s1, many_ok (by omega) (by omega), fun r st' r0 r1 s1 => ?_⟩
  obtain ⟨c, hc, hm⟩ := let_at r0 r1
  refine ⟨_, hc, ?_⟩
  simp
  refine ⟨by omega, by omega, ?_⟩
  refine lp_names1 (z - 1) 0 (sg c) st' none s1 (cand_sg hm) rfl (by omega) fun x st e7 s1 hx hl => ?_
  simp [s1]
  refine ⟨many_ok (by omega) (by omega), fun r st' r0 r1 s1 => ⟨by omega, by omega, ?_⟩⟩
  refine lp_names4 hx r0 (by omega) many.toNat 0 [] st' _ _ _ s1 rfl (by omega) ⟨by simp, by simp⟩ fun xs st e7 e10 e11 s1 hl ho => ?_
  simp
  exact h xs st (by omega) ho s1
end DL

namespace DL
open PySem L2

theorem sub_one {c : Nat} {x : Str} : subS (sg c) x = decide (c ∈ tl x) := StrLaws.found_one x c
@[simp ↓] theorem r_in1 {n : Bool} {c : Nat} {x : Str} {Q : D → Prop} : inD n (.str ⟨#[c]⟩) (.str x) Q = Q (.bl (decide (c ∈ tl x) != n)) := by
  have e : inD n (.str ⟨#[c]⟩) (.str x) Q = Q (.bl (subS (sg c) x != n)) := rfl
  rw [e, sub_one]
theorem lp_isname {B : DEnds} {e0 : Option Ent} : ∀ (l : List Nat) (e1 : Option Ent), (∀ c ∈ l, c ∈ sgnL) → (∀ e1, B.nx [e0, e1]) → loopD (dgName 1) b_is_name_1 B (l.map fun c => D.str ⟨#[c]⟩) [e0, e1]
  | [], e1, h, k => k e1
  | c :: l, e1, h, k => by
    have hc : c ∈ tl "abcdefghijklmnopqrstuvwxyz0123456789_" := by
      show c ∈ tl sgnS
      rw [tl_sgnS]
      exact h c (List.mem_cons_self ..)
    have ih := lp_isname (B := B) (e0 := e0) l (some (.fz (.str ⟨#[c]⟩))) (fun c m => h c (List.mem_cons_of_mem _ m)) k
    simp [loopD, b_is_name_1, hc]
    exact ih
theorem rd_is_name : ∀ ds Qd Qe, sp_is_name ds Qd Qe → b_is_name (endsD [] Qd Qe) (startE 2 [] ds) := by
  rintro ds Qd Qe ⟨x, rfl, ⟨⟨h1, h2, h3, c, r, h4, h5⟩, h6⟩, h⟩
  have e1 : ¬ ((x.length : Int) < 1) := by omega
  have e2 : ¬ ((12 : Int) < (x.length : Int)) := by omega
  have e3 : x.length ≤ 16777216 := by omega
  have e4 : x.cps.toList = c :: r := h4
  have e5 : c ∈ tl "abcdefghijklmnopqrstuvwxyz" := by
    show c ∈ tl letS
    rw [tl_letS]
    exact h5
  have e6 : atI x.cps.toList 0 = some c := by rw [e4, atI_nonneg (i := 0) (j := 0) rfl]; rfl
  have e7 : x ≠ Str.empty := fun e => by rw [e] at h4; cases h4
  simp [b_is_name, startE, e1, e2, e3, c_RES, h6, e6, e5, itemsD]
  exact lp_isname (tl x) none h3 fun e1 => by simpa using h
/-! ### conditions made of their steps -/
@[simp] theorem ofStr_eq {a b : String} : (Str.ofString a = Str.ofString b) = (a = b) := propext ofString_inj
abbrev cnd (t : Ct) : D := cond t.steps
theorem cut_tail {S P : List D} {i : Int} (h : i = S.length) : cutD (S ++ P) (some i) none = P := by
  subst h
  unfold cutD
  rw [HT.sIx_nat, HT.sIx_none, List.length_append, Nat.min_eq_left (by omega), List.drop_left, List.take_of_length_le (by omega)]
theorem cut_head {S P : List D} {i : Int} (h : i = S.length) : cutD (S ++ P) none (some i) = S := by
  subst h
  unfold cutD
  rw [HT.sIx_nat, HT.sIx_none, List.length_append, Nat.min_eq_left (by omega), List.drop_zero, Nat.sub_zero, List.take_left]
theorem sh_ok {s : Sh} {ys : List Str} (h : s.Ok ys) (hy : ∀ x ∈ ys, NameOk x) : ∃ s', s.d = Sh.d s' ∧ ∃ ys, s'.Ok ys ∧ ∀ x ∈ ys, NameOk x := ⟨s, rfl, ys, h, hy⟩
theorem flat_steps : ∀ {cs : List Ct}, (cs.map Ct.steps).flatten = stepsL cs
  | [] => rfl
  | c :: cs => by rw [List.map_cons, List.flatten_cons, flat_steps, stepsL]
mutual
theorem lpM {B : DEnds} {ys : List Str} {e0 : Option Ent} (hy : ∀ x ∈ ys, NameOk x) : ∀ (t : Ct), t.Ok ys → ∀ (rest S : List D) (e2 e3 : Option Ent), S.length + t.size ≤ 100000 →
    (∀ e2 e3, loopD (dgName 2) b_law_made_1 B rest [e0, some (.ow false (.lst (S ++ [cnd t]))), e2, e3]) →
    loopD (dgName 2) b_law_made_1 B (t.steps ++ rest) [e0, some (.ow false (.lst S)), e2, e3]
  | .cmp a op b, ok, rest, S, e2, e3, hl, h => by
    simp only [Ct.size] at hl
    have hl2 : S.length < 16777216 := by omega
    have oa := sh_ok ok.1 hy
    have ob := sh_ok ok.2.2 hy
    have h := h (some (.fz (.tup [.str "compare", a.d, .str op, b.d]))) e3
    simp only [cnd, Ct.steps] at h
    simp [loopD, b_law_made_1, Ct.steps, ok.2.1, hl2]
    exact ⟨oa, ob, h⟩
  | .mis a, ok, rest, S, e2, e3, hl, h => by
    simp only [Ct.size] at hl
    have hl2 : S.length < 16777216 := by omega
    have oa := sh_ok ok hy
    have h := h (some (.fz (.tup [.str "missing", a.d]))) e3
    simp only [cnd, Ct.steps] at h
    simp [loopD, b_law_made_1, Ct.steps, hl2]
    exact ⟨oa, h⟩
  | .cst w, ok, rest, S, e2, e3, hl, h => by
    simp only [Ct.size] at hl
    have hl2 : S.length < 16777216 := by omega
    have h := h (some (.fz (.tup [.str w]))) e3
    simp only [cnd, Ct.steps] at h
    have ok : w ∈ cstL := ok
    simp only [cstL, List.mem_cons, List.not_mem_nil, or_false] at ok
    rcases ok with rfl | rfl | rfl <;> simp [loopD, b_law_made_1, Ct.steps, hl2] <;> exact h
  | .neg c, ok, rest, S, e2, e3, hl, h => by
    simp only [Ct.size] at hl
    have lc := steps_len c
    rw [Ct.steps, List.append_assoc]
    refine lpM hy c ok ([.tup [.str "not"]] ++ rest) S e2 e3 (by omega) fun e2 e3 => ?_
    have h := h (some (.fz (.tup [.str "not"]))) e3
    simp only [cnd, Ct.steps] at h
    have hl2 : S.length < 16777216 := by omega
    have hl3 : c.steps.length < 16777216 := by omega
    simp [loopD, b_law_made_1, hl2, hl3]
    exact h
  | .tst c w, ok, rest, S, e2, e3, hl, h => by
    simp only [Ct.size] at hl
    have lc := steps_len c
    rw [Ct.steps, List.append_assoc]
    refine lpM hy c ok.1 ([.tup [.str "test", .str w]] ++ rest) S e2 e3 (by omega) fun e2 e3 => ?_
    have h := h (some (.fz (.tup [.str "test", .str w]))) e3
    simp only [cnd, Ct.steps] at h
    have hl2 : S.length < 16777216 := by omega
    have hl3 : c.steps.length < 16777216 := by omega
    simp [loopD, b_law_made_1, hl2, hl3, ok.2]
    exact h
  | .jn b cs, ok, rest, S, e2, e3, hl, h => by
    simp only [Ct.size] at hl
    have lc := stepsL_len cs
    rw [Ct.steps, List.append_assoc]
    refine lpMs hy cs ok.2.2 ([.tup [.str (jnW b), .int cs.length]] ++ rest) S e2 e3 (by omega) fun e2 e3 => ?_
    have h := h (some (.fz (.tup [.str (jnW b), .int cs.length]))) (some (.fz (.lst (cs.map cnd))))
    simp only [cnd, Ct.steps] at h
    have hl2 : S.length < 16777216 := by omega
    have ct : cutD (S ++ cs.map cnd) (some (S.length : Int)) none = cs.map cnd := cut_tail rfl
    have ch : cutD (S ++ cs.map cnd) none (some (S.length : Int)) = S := cut_head rfl
    have fl : ((cs.map Ct.steps).map List.length).sum = (stepsL cs).length := by rw [← List.length_flatten, flat_steps]
    cases b <;> simp [loopD, b_law_made_1, hl2, jnW]
    · rw [ct, ch]
      refine ⟨cs.map Ct.steps, by simp [conds], by simpa using ok.1, by simpa using ok.2.1, by omega, hl2, ?_⟩
      rw [← flat_steps] at h
      simp [jnW] at h
      rw [List.length_map]
      exact h
    · rw [ct, ch]
      refine ⟨cs.map Ct.steps, by simp [conds], by simpa using ok.1, by simpa using ok.2.1, by omega, hl2, ?_⟩
      rw [← flat_steps] at h
      simp [jnW] at h
      rw [List.length_map]
      exact h
theorem lpMs {B : DEnds} {ys : List Str} {e0 : Option Ent} (hy : ∀ x ∈ ys, NameOk x) : ∀ (ts : List Ct), okL ys ts → ∀ (rest S : List D) (e2 e3 : Option Ent), S.length + sizeL ts ≤ 100000 →
    (∀ e2 e3, loopD (dgName 2) b_law_made_1 B rest [e0, some (.ow false (.lst (S ++ ts.map cnd))), e2, e3]) →
    loopD (dgName 2) b_law_made_1 B (stepsL ts ++ rest) [e0, some (.ow false (.lst S)), e2, e3]
  | [], _, rest, S, e2, e3, hl, h => by
    have h := h e2 e3
    simpa [stepsL] using h
  | t :: ts, ok, rest, S, e2, e3, hl, h => by
    rw [sizeL] at hl
    rw [stepsL, List.append_assoc]
    have tp : 1 ≤ t.size := by cases t <;> simp [Ct.size]
    refine lpM hy t ok.1 (stepsL ts ++ rest) S e2 e3 (by omega) fun e2 e3 => lpMs hy ts ok.2 rest (S ++ [cnd t]) e2 e3 (by rw [List.length_append]; simp; omega) fun e2 e3 => ?_
    have h := h e2 e3
    rw [List.append_assoc]
    exact h
end

theorem rd_law_made : ∀ ds Qd Qe, sp_law_made ds Qd Qe → b_law_made (endsD [] Qd Qe) (startE 4 [] ds) := by
  rintro ds Qd Qe ⟨l, rfl, t, ys, rfl, ok, hy, hz, h⟩
  simp [b_law_made, startE]
  have e : t.steps = t.steps ++ [] := by simp
  rw [e]
  refine lpM hy t ok [] [] none none (by simp; omega) fun e2 e3 => ?_
  simpa [loopD] using h
end DL

namespace DL
open PySem L2

theorem txs_snoc {l : List Str} {x : Str} : txs l ++ [D.str x] = txs (l ++ [x]) := by simp [txs]
theorem size_pos {t : Ct} : 1 ≤ t.size := by cases t <;> simp [Ct.size]
theorem size_in : ∀ {cs : List Ct} {c : Ct}, c ∈ cs → c.size ≤ sizeL cs
  | d :: cs, c, m => by
    simp only [sizeL]
    rcases List.mem_cons.mp m with rfl | m
    · omega
    · have := size_in m
      omega
theorem ok_in {ys : List Str} : ∀ {cs : List Ct} {c : Ct}, c ∈ cs → okL ys cs → c.Ok ys
  | d :: cs, c, m, ok => by
    rcases List.mem_cons.mp m with rfl | m
    · exact ok.1
    · exact ok_in m ok.2
theorem wrd_cases {w : Str} (h : w ∈ wrdL) : w = "false" ∨ w = "unknown" ∨ w = "true" := by simpa [wrdL] using h
theorem cst_cases {w : Str} (h : w ∈ cstL) : w = "always" ∨ w = "never" ∨ w = "maybe" := by simpa [cstL] using h
/-- how a walk over steps goes: leaves push, a not, a test and a join take their parts off; at most N stand on the stack -/
structure StepsRun (ys : List Str) {α : Type} (val : Ct → α) (N : Nat) (run : List D → List α → Prop) : Prop where
  leaf : ∀ (t : Ct) (d : D) (xs : List α) (rest : List D), t.Ok ys → t.size = 1 → t.steps = [d] → xs.length + 1 ≤ N → run rest (xs ++ [val t]) → run (d :: rest) xs
  neg : ∀ (c : Ct) (xs : List α) (rest : List D), c.Ok ys → xs.length + 1 ≤ N → run rest (xs ++ [val (.neg c)]) → run (.tup [.str "not"] :: rest) (xs ++ [val c])
  tst : ∀ (c : Ct) (w : Str) (xs : List α) (rest : List D), c.Ok ys → w ∈ wrdL → xs.length + 1 ≤ N → run rest (xs ++ [val (.tst c w)]) → run (.tup [.str "test", .str w] :: rest) (xs ++ [val c])
  jn : ∀ (b : Bool) (cs : List Ct) (xs : List α) (rest : List D), 2 ≤ cs.length → cs.length ≤ 4 → okL ys cs → xs.length + cs.length ≤ N → run rest (xs ++ [val (.jn b cs)]) → run (.tup [.str (jnW b), .int cs.length] :: rest) (xs ++ cs.map val)
theorem sizeL_len : ∀ cs : List Ct, cs.length ≤ sizeL cs
  | [] => Nat.zero_le _
  | c :: cs => by
    have := sizeL_len cs
    have := size_pos (t := c)
    simp only [sizeL, List.length_cons]
    omega
section
variable {ys : List Str} {α : Type} {val : Ct → α} {N : Nat} {run : List D → List α → Prop}
mutual
theorem StepsRun.go (R : StepsRun ys val N run) : ∀ (t : Ct), t.Ok ys → ∀ (rest : List D) (xs : List α), xs.length + t.size ≤ N → run rest (xs ++ [val t]) → run (t.steps ++ rest) xs
  | .cmp a op b, ok, rest, xs, hn, h => R.leaf (.cmp a op b) _ xs rest ok rfl rfl hn h
  | .mis a, ok, rest, xs, hn, h => R.leaf (.mis a) _ xs rest ok rfl rfl hn h
  | .cst w, ok, rest, xs, hn, h => R.leaf (.cst w) _ xs rest ok rfl rfl hn h
  | .neg c, ok, rest, xs, hn, h => by
    simp only [Ct.size] at hn
    have hp := size_pos (t := c)
    rw [Ct.steps, List.append_assoc]
    exact R.go c ok _ xs (by omega) (R.neg c xs rest ok (by omega) h)
  | .tst c w, ok, rest, xs, hn, h => by
    simp only [Ct.size] at hn
    have hp := size_pos (t := c)
    rw [Ct.steps, List.append_assoc]
    exact R.go c ok.1 _ xs (by omega) (R.tst c w xs rest ok.1 ok.2 (by omega) h)
  | .jn b cs, ok, rest, xs, hn, h => by
    simp only [Ct.size] at hn
    have := sizeL_len cs
    rw [Ct.steps, List.append_assoc]
    exact R.goL cs ok.2.2 _ xs (by omega) (R.jn b cs xs rest ok.1 ok.2.1 ok.2.2 (by omega) h)
theorem StepsRun.goL (R : StepsRun ys val N run) : ∀ (cs : List Ct), okL ys cs → ∀ (rest : List D) (xs : List α), xs.length + sizeL cs ≤ N → run rest (xs ++ cs.map val) → run (stepsL cs ++ rest) xs
  | [], _, rest, xs, hn, h => by simpa [stepsL] using h
  | c :: cs, ok, rest, xs, hn, h => by
    simp only [sizeL] at hn
    have hp := size_pos (t := c)
    rw [stepsL, List.append_assoc]
    refine R.go c ok.1 _ xs (by omega) (R.goL cs ok.2 rest (xs ++ [val c]) (by rw [List.length_append]; simp; omega) ?_)
    rw [List.append_assoc]
    exact h
end
end
theorem leaf_cases {ys : List Str} {t : Ct} {d : D} (ok : t.Ok ys) (h : t.size = 1) (e : t.steps = [d]) : (∃ a op b, t = .cmp a op b ∧ d = .tup [.str "compare", a.d, .str op, b.d]) ∨ (∃ a, t = .mis a ∧ d = .tup [.str "missing", a.d]) ∨ ∃ w, t = .cst w ∧ d = .tup [.str w] := by
  cases t with
  | cmp a op b => left; refine ⟨a, op, b, rfl, ?_⟩; simp [Ct.steps] at e; exact e.symm
  | mis a => right; left; refine ⟨a, rfl, ?_⟩; simp [Ct.steps] at e; exact e.symm
  | cst w => right; right; refine ⟨w, rfl, ?_⟩; simp [Ct.steps] at e; exact e.symm
  | neg c => simp only [Ct.size] at h; have := size_pos (t := c); omega
  | tst c w => simp only [Ct.size] at h; have := size_pos (t := c); omega
  | jn b cs =>
    simp only [Ct.steps] at e
    cases cs with
    | nil => have := ok.1; simp at this
    | cons c cs => simp only [Ct.size, sizeL] at h; have := size_pos (t := c); omega
end DL

namespace DL
open PySem L2

/-! ### shared: texts that are plain, cuts -/
theorem sh_plain (s : Sh) : ∀ n, plainN (n + 2) s.d = true := fun n => by cases s <;> rfl
mutual
theorem steps_plain : ∀ (t : Ct), t.size ≤ 1000 → ∀ d ∈ t.steps, plainN 5 d = true
  | .cmp a op b, _, d, m => by
    simp only [Ct.steps, List.mem_singleton] at m
    subst m
    have ha := sh_plain a 2
    have hb := sh_plain b 2
    simp only [Nat.reduceAdd] at ha hb
    simp [plainN, ha, hb]
  | .mis a, _, d, m => by
    simp only [Ct.steps, List.mem_singleton] at m
    subst m
    have ha := sh_plain a 2
    simp only [Nat.reduceAdd] at ha
    simp [plainN, ha]
  | .cst w, _, d, m => by
    simp only [Ct.steps, List.mem_singleton] at m
    subst m
    rfl
  | .neg c, hz, d, m => by
    simp only [Ct.size] at hz
    simp only [Ct.steps, List.mem_append, List.mem_singleton] at m
    rcases m with m | rfl
    · exact steps_plain c (by omega) d m
    · rfl
  | .tst c w, hz, d, m => by
    simp only [Ct.size] at hz
    simp only [Ct.steps, List.mem_append, List.mem_singleton] at m
    rcases m with m | rfl
    · exact steps_plain c (by omega) d m
    · rfl
  | .jn b cs, hz, d, m => by
    simp only [Ct.size] at hz
    simp only [Ct.steps, List.mem_append, List.mem_singleton] at m
    rcases m with m | rfl
    · exact stepsL_plain cs (by omega) d m
    · rfl
theorem stepsL_plain : ∀ (cs : List Ct), sizeL cs ≤ 1000 → ∀ d ∈ stepsL cs, plainN 5 d = true
  | [], _, d, m => by simp [stepsL] at m
  | c :: cs, hz, d, m => by
    simp only [sizeL] at hz
    simp only [stepsL, List.mem_append] at m
    rcases m with m | m
    · exact steps_plain c (by omega) d m
    · exact stepsL_plain cs (by omega) d m
end
theorem same_txt {x : Str} {Qd : D → List D → Prop} {Qe : Exn → List D → Prop} (q : Qd (.bl true) []) : sp_law_same [.str x, .str x] Qd Qe := ⟨_, rfl, rfl, q⟩
theorem same_steps {t : Ct} (hz : t.size ≤ 1000) {Qd : D → List D → Prop} {Qe : Exn → List D → Prop} (q : Qd (.bl true) []) : sp_law_same [.tup t.steps, .tup t.steps] Qd Qe := ⟨_, rfl, by
  show (decide (t.steps.length ≤ 16777216) && t.steps.all (plainN 5)) = true
  have := steps_len t
  simp only [Bool.and_eq_true, decide_eq_true_eq, List.all_eq_true]
  exact ⟨by omega, fun d m => steps_plain t hz d m⟩, q⟩
theorem cut_one {l : List D} : cutD l (some 1) none = l.tail := by
  cases l with
  | nil => simp [cutD]
  | cons x l => exact cut_tail (S := [x]) (P := l) (by simp)
end DL

namespace DL
open PySem L2

/-! ### answers, bounds -/
def sd : Option Str → D
  | none => .non
  | some x => .str x
def bd (l r : Option Str) (s : Int) : D := .tup [sd l, sd r, .int s]
inductive An where
  | unk (x : Str) (b : Bool) | mst (l r : Option Str) (s : Int) (b : Bool)
def An.d : An → D
  | .unk x b => .tup [.str "unknown", .str x, .bl b]
  | .mst l r s b => .tup [.str "most", sd l, sd r, .int s, .bl b]
def ans (as : List An) : List D := as.map An.d
/-- the bound of a most-answer -/
def bnL (l r : Option Str) (b : Bool) : Option Str := if b then l else r
def bnS (s : Int) (b : Bool) : Int := if b then s else -s - 1
def optB : Option Bool → D
  | none => .non
  | some b => .bl b
/-- how a column is answered, first -/
def asked : List An → Str → Option Bool
  | [], _ => none
  | .unk y b :: as, x => if y = x then some b else asked as x
  | _ :: as, x => asked as x
/-- some answer gives the bound (l, r, s) or a tighter one -/
def hasB : List An → Option Str → Option Str → Int → Bool
  | [], _, _, _ => false
  | .mst l' r' s' b :: as, l, r, s => (decide (bnL l' r' b = l) && decide (bnL r' l' b = r) && decide (bnS s' b ≤ s)) || hasB as l r s
  | _ :: as, l, r, s => hasB as l r s
def stl (as : List An) (l r : Option Str) (s : Int) : Option Bool :=
  if l = r then some (decide (0 ≤ s)) else if hasB as l r s = true then some true else if hasB as r l (-s - 1) = true then some false else none
/-- the columns answered, each once -/
def cols : List An → List Str
  | [] => []
  | .unk y _ :: as => y :: cols as
  | _ :: as => cols as
def Uq (as : List An) : Prop := (cols as).Nodup
def Sh.side : Sh → Option Str
  | .col x _ => some x
  | _ => none
def Sh.sh : Sh → Int
  | .num n => n
  | .col _ n => n
  | .non => 0
/-- the bounds on which a comparison rests -/
def rests (a : Sh) (op : Str) (b : Sh) : List (Option Str × Option Str × Int) :=
  if op = "<=" then [(a.side, b.side, b.sh - a.sh)] else if op = "<" then [(a.side, b.side, b.sh - a.sh - 1)] else if op = ">=" then [(b.side, a.side, -(b.sh - a.sh))] else if op = ">" then [(b.side, a.side, -(b.sh - a.sh) - 1)] else [(a.side, b.side, b.sh - a.sh), (b.side, a.side, -(b.sh - a.sh))]
def bds (l : List (Option Str × Option Str × Int)) : List D := l.map fun b => bd b.1 b.2.1 b.2.2
/-! ### sets of truth values -/
structure T3 where
  f : Bool
  u : Bool
  t : Bool
def T3.d (x : T3) : D := .lst [.bl x.f, .bl x.u, .bl x.t]
def b01 (b : Bool) (n : Int) : Int := if b then n else 0
def T3.n (x : T3) : Int := b01 x.f 1 + b01 x.u 2 + b01 x.t 4
def T3.mir (x : T3) : T3 := ⟨x.t, x.u, x.f⟩
def T3.lst (x y : T3) : T3 := ⟨x.f || y.f, (x.u && (y.u || y.t)) || (y.u && (x.u || x.t)), x.t && y.t⟩
def T3.bth (x : T3) : List T3 → T3
  | [] => x
  | y :: ys => (x.lst y).bth ys
def T3.jnd (b : Bool) (xs : List T3) : T3 := if b = true then T3.bth ⟨false, false, true⟩ xs else (T3.bth ⟨false, false, true⟩ (xs.map T3.mir)).mir
def T3.tst (x : T3) (w : Str) : T3 := if w = "false" then ⟨x.u || x.t, false, x.f⟩ else if w = "unknown" then ⟨x.f || x.t, false, x.u⟩ else ⟨x.f || x.u, false, x.t⟩
def T3.words (x : T3) : List Str := (if x.f then (["false"] : List Str) else []) ++ ((if x.u then (["unknown"] : List Str) else []) ++ (if x.t then (["true"] : List Str) else []))
def unkB (as : List An) (s : Sh) : Bool := match s with
  | .non => true
  | .num _ => false
  | .col x _ => decide (asked as x = some true)
def opnB (as : List An) (s : Sh) : Bool := match s with
  | .col x _ => decide (asked as x = none)
  | _ => false
def cmpMay (as : List An) (a : Sh) (op : Str) (b : Sh) : T3 :=
  if (unkB as a || unkB as b) = true then ⟨false, true, false⟩ else if (opnB as a || opnB as b) = true then ⟨true, true, true⟩ else
    let fs := (rests a op b).map fun q => stl as q.1 q.2.1 q.2.2
    let m : T3 := if some false ∈ fs then ⟨true, false, false⟩ else if none ∈ fs then ⟨true, false, true⟩ else ⟨false, false, true⟩
    if op = "!=" then m.mir else m
def misMay (as : List An) (s : Sh) : T3 := match s with
  | .non => ⟨false, false, true⟩
  | .num _ => ⟨true, false, false⟩
  | .col x _ => if asked as x = some false then ⟨true, false, false⟩ else if asked as x = some true then ⟨false, false, true⟩ else ⟨true, false, true⟩
def cstMay (w : Str) : T3 := if w = "always" then ⟨false, false, true⟩ else if w = "never" then ⟨true, false, false⟩ else ⟨false, true, false⟩
mutual
def Ct.may (as : List An) : Ct → T3
  | .cmp a op b => cmpMay as a op b
  | .mis a => misMay as a
  | .cst w => cstMay w
  | .neg c => (c.may as).mir
  | .tst c w => (c.may as).tst w
  | .jn b cs => T3.jnd b (mayL as cs)
def mayL (as : List An) : List Ct → List T3
  | [] => []
  | c :: cs => c.may as :: mayL as cs
end
/-- a comparison's step -/
def stepC (a : Sh) (op : Str) (b : Sh) : D := .tup [.str "compare", a.d, .str op, b.d]
/-- dicts of the answers -/
structure ColsR (as : List An) (ks vs : List D) : Prop where
  sz : ks.length = vs.length
  keys : ∀ d ∈ ks, ∃ x, d = .str x
  len : ks.length ≤ as.length
  at_ : ∀ x, lkD ks vs (.str x) = (asked as x).map D.bl
structure ShiftsR (as : List An) (ks vs : List D) : Prop where
  sz : ks.length = vs.length
  keys : ∀ d ∈ ks, ∃ l r, d = .tup [sd l, sd r]
  len : ks.length ≤ as.length
  at_ : ∀ l r, (∃ s, lkD ks vs (.tup [sd l, sd r]) = some (.int s) ∧ ∀ s', hasB as l r s' = decide (s ≤ s')) ∨ (lkD ks vs (.tup [sd l, sd r]) = none ∧ ∀ s', hasB as l r s' = false)
def sp_law_bound : SpD := fun ds Qd _ => ∃ (d : D), ds = [d] ∧ ∃ l r s b, d = An.d (.mst l r s b) ∧ Qd (bd (bnL l r b) (bnL r l b) (bnS s b)) []
theorem len_law_bound : ∀ ds Qd Qe, sp_law_bound ds Qd Qe → ds.length = 1 := by rintro _ _ _ ⟨_, rfl, _⟩; rfl
theorem i_law_bound {d : D} {Qd : D → List D → Prop} {Qe : Exn → List D → Prop} (h : ∃ l r s b, d = An.d (.mst l r s b) ∧ Qd (bd (bnL l r b) (bnL r l b) (bnS s b)) []) : sp_law_bound [d] Qd Qe := ⟨_, rfl, h⟩
def sp_answer_bound : SpD := fun ds Qd _ => ∃ (d : D), ds = [d] ∧ ∃ l r s b, d = An.d (.mst l r s b) ∧ Qd (bd (bnL l r b) (bnL r l b) (bnS s b)) []
theorem len_answer_bound : ∀ ds Qd Qe, sp_answer_bound ds Qd Qe → ds.length = 1 := by rintro _ _ _ ⟨_, rfl, _⟩; rfl
theorem i_answer_bound {d : D} {Qd : D → List D → Prop} {Qe : Exn → List D → Prop} (h : ∃ l r s b, d = An.d (.mst l r s b) ∧ Qd (bd (bnL l r b) (bnL r l b) (bnS s b)) []) : sp_answer_bound [d] Qd Qe := ⟨_, rfl, h⟩
def sp_law_asked : SpD := fun ds Qd _ => ∃ (l : List D) (x : Str), ds = [.lst l, .str x] ∧ ∃ as, l = ans as ∧ Qd (optB (asked as x)) []
theorem len_law_asked : ∀ ds Qd Qe, sp_law_asked ds Qd Qe → ds.length = 2 := by rintro _ _ _ ⟨_, _, rfl, _⟩; rfl
theorem i_law_asked {l : List D} {x : Str} {Qd : D → List D → Prop} {Qe : Exn → List D → Prop} (h : ∃ as, l = ans as ∧ Qd (optB (asked as x)) []) : sp_law_asked [.lst l, .str x] Qd Qe := ⟨_, _, rfl, h⟩
def sp_law_settled : SpD := fun ds Qd _ => ∃ (dl dr : D) (s : Int) (l : List D), ds = [dl, dr, .int s, .lst l] ∧ ∃ as x y, dl = sd x ∧ dr = sd y ∧ l = ans as ∧ Qd (optB (stl as x y s)) []
theorem len_law_settled : ∀ ds Qd Qe, sp_law_settled ds Qd Qe → ds.length = 4 := by rintro _ _ _ ⟨_, _, _, _, rfl, _⟩; rfl
theorem i_law_settled {dl dr : D} {s : Int} {l : List D} {Qd : D → List D → Prop} {Qe : Exn → List D → Prop} (h : ∃ as x y, dl = sd x ∧ dr = sd y ∧ l = ans as ∧ Qd (optB (stl as x y s)) []) : sp_law_settled [dl, dr, .int s, .lst l] Qd Qe := ⟨_, _, _, _, rfl, h⟩
def sp_law_rests : SpD := fun ds Qd _ => ∃ (d : D), ds = [d] ∧ ∃ a op b, d = stepC a op b ∧ a ≠ .non ∧ b ≠ .non ∧ Qd (.lst (bds (rests a op b))) []
theorem len_law_rests : ∀ ds Qd Qe, sp_law_rests ds Qd Qe → ds.length = 1 := by rintro _ _ _ ⟨_, rfl, _⟩; rfl
theorem i_law_rests {d : D} {Qd : D → List D → Prop} {Qe : Exn → List D → Prop} (h : ∃ a op b, d = stepC a op b ∧ a ≠ .non ∧ b ≠ .non ∧ Qd (.lst (bds (rests a op b))) []) : sp_law_rests [d] Qd Qe := ⟨_, rfl, h⟩
def sp_bounds_of : SpD := fun ds Qd _ => ∃ (d : D), ds = [d] ∧ ∃ a op b, d = stepC a op b ∧ a ≠ .non ∧ b ≠ .non ∧ Qd (.lst (bds (rests a op b))) []
theorem len_bounds_of : ∀ ds Qd Qe, sp_bounds_of ds Qd Qe → ds.length = 1 := by rintro _ _ _ ⟨_, rfl, _⟩; rfl
theorem i_bounds_of {d : D} {Qd : D → List D → Prop} {Qe : Exn → List D → Prop} (h : ∃ a op b, d = stepC a op b ∧ a ≠ .non ∧ b ≠ .non ∧ Qd (.lst (bds (rests a op b))) []) : sp_bounds_of [d] Qd Qe := ⟨_, rfl, h⟩
def sp_law_compare_may : SpD := fun ds Qd _ => ∃ (d : D) (l : List D), ds = [d, .lst l] ∧ ∃ a op b as, d = stepC a op b ∧ l = ans as ∧ Qd (T3.d (cmpMay as a op b)) []
theorem len_law_compare_may : ∀ ds Qd Qe, sp_law_compare_may ds Qd Qe → ds.length = 2 := by rintro _ _ _ ⟨_, _, rfl, _⟩; rfl
theorem i_law_compare_may {d : D} {l : List D} {Qd : D → List D → Prop} {Qe : Exn → List D → Prop} (h : ∃ a op b as, d = stepC a op b ∧ l = ans as ∧ Qd (T3.d (cmpMay as a op b)) []) : sp_law_compare_may [d, .lst l] Qd Qe := ⟨_, _, rfl, h⟩
def sp_law_leaf_may : SpD := fun ds Qd _ => ∃ (d : D) (l : List D), ds = [d, .lst l] ∧ ∃ (t : Ct) (as : List An) (ys : List Str), [d] = t.steps ∧ t.Ok ys ∧ t.size = 1 ∧ l = ans as ∧ Qd (T3.d (t.may as)) []
theorem len_law_leaf_may : ∀ ds Qd Qe, sp_law_leaf_may ds Qd Qe → ds.length = 2 := by rintro _ _ _ ⟨_, _, rfl, _⟩; rfl
theorem i_law_leaf_may {d : D} {l : List D} {Qd : D → List D → Prop} {Qe : Exn → List D → Prop} (h : ∃ (t : Ct) (as : List An) (ys : List Str), [d] = t.steps ∧ t.Ok ys ∧ t.size = 1 ∧ l = ans as ∧ Qd (T3.d (t.may as)) []) : sp_law_leaf_may [d, .lst l] Qd Qe := ⟨_, _, rfl, h⟩
def sp_law_both_may : SpD := fun ds Qd _ => ∃ (d e : D), ds = [d, e] ∧ ∃ x y : T3, d = x.d ∧ e = y.d ∧ Qd (x.lst y).d []
theorem len_law_both_may : ∀ ds Qd Qe, sp_law_both_may ds Qd Qe → ds.length = 2 := by rintro _ _ _ ⟨_, _, rfl, _⟩; rfl
theorem i_law_both_may {d e : D} {Qd : D → List D → Prop} {Qe : Exn → List D → Prop} (h : ∃ x y : T3, d = x.d ∧ e = y.d ∧ Qd (x.lst y).d []) : sp_law_both_may [d, e] Qd Qe := ⟨_, _, rfl, h⟩
def sp_law_joined_may : SpD := fun ds Qd _ => ∃ (w : Str) (l : List D), ds = [.str w, .lst l] ∧ ∃ b xs, w = jnW b ∧ l = xs.map T3.d ∧ Qd (T3.jnd b xs).d []
theorem len_law_joined_may : ∀ ds Qd Qe, sp_law_joined_may ds Qd Qe → ds.length = 2 := by rintro _ _ _ ⟨_, _, rfl, _⟩; rfl
theorem i_law_joined_may {w : Str} {l : List D} {Qd : D → List D → Prop} {Qe : Exn → List D → Prop} (h : ∃ b xs, w = jnW b ∧ l = xs.map T3.d ∧ Qd (T3.jnd b xs).d []) : sp_law_joined_may [.str w, .lst l] Qd Qe := ⟨_, _, rfl, h⟩
def sp_law_possible : SpD := fun ds Qd _ => ∃ (l m : List D), ds = [.lst l, .lst m] ∧ ∃ (t : Ct) (as : List An) (ys : List Str), l = t.steps ∧ t.Ok ys ∧ t.size ≤ 1000 ∧ m = ans as ∧ Qd (t.may as).d []
theorem len_law_possible : ∀ ds Qd Qe, sp_law_possible ds Qd Qe → ds.length = 2 := by rintro _ _ _ ⟨_, _, rfl, _⟩; rfl
theorem i_law_possible {l m : List D} {Qd : D → List D → Prop} {Qe : Exn → List D → Prop} (h : ∃ (t : Ct) (as : List An) (ys : List Str), l = t.steps ∧ t.Ok ys ∧ t.size ≤ 1000 ∧ m = ans as ∧ Qd (t.may as).d []) : sp_law_possible [.lst l, .lst m] Qd Qe := ⟨_, _, rfl, h⟩
def sp_read_answers : SpD := fun ds Qd _ => ∃ (l : List D), ds = [.lst l] ∧ ∃ as, l = ans as ∧ Uq as ∧ as.length ≤ 1000 ∧ ∀ ck cv sk sv, ColsR as ck cv → ShiftsR as sk sv → Qd (.tup [.dct ck cv, .dct sk sv]) []
theorem len_read_answers : ∀ ds Qd Qe, sp_read_answers ds Qd Qe → ds.length = 1 := by rintro _ _ _ ⟨_, rfl, _⟩; rfl
theorem i_read_answers {l : List D} {Qd : D → List D → Prop} {Qe : Exn → List D → Prop} (h : ∃ as, l = ans as ∧ Uq as ∧ as.length ≤ 1000 ∧ ∀ ck cv sk sv, ColsR as ck cv → ShiftsR as sk sv → Qd (.tup [.dct ck cv, .dct sk sv]) []) : sp_read_answers [.lst l] Qd Qe := ⟨_, rfl, h⟩
def sp_step_shapes : SpD := fun ds Qd _ => ∃ (d : D), ds = [d] ∧ ((∃ a op b, d = stepC a op b ∧ Qd (.tup [a.d, b.d]) []) ∨ (∃ a, d = .tup [.str "missing", Sh.d a] ∧ Qd (.tup [a.d]) []) ∨ ∃ w r, d = .tup (.str w :: r) ∧ w ≠ "compare" ∧ w ≠ "missing" ∧ Qd (.tup []) [])
theorem len_step_shapes : ∀ ds Qd Qe, sp_step_shapes ds Qd Qe → ds.length = 1 := by rintro _ _ _ ⟨_, rfl, _⟩; rfl
theorem i_step_shapes {d : D} {Qd : D → List D → Prop} {Qe : Exn → List D → Prop} (h : ((∃ a op b, d = stepC a op b ∧ Qd (.tup [a.d, b.d]) []) ∨ (∃ a, d = .tup [.str "missing", Sh.d a] ∧ Qd (.tup [a.d]) []) ∨ ∃ w r, d = .tup (.str w :: r) ∧ w ≠ "compare" ∧ w ≠ "missing" ∧ Qd (.tup []) [])) : sp_step_shapes [d] Qd Qe := ⟨_, rfl, h⟩
def sp_settled : SpD := fun ds Qd _ => ∃ (dl dr : D) (s : Int) (k v : List D), ds = [.tup [dl, dr, .int s], .dct k v] ∧ ∃ as x y, dl = sd x ∧ dr = sd y ∧ ShiftsR as k v ∧ Qd (.int (match stl as x y s with | some true => 4 | some false => 1 | none => 5)) []
theorem len_settled : ∀ ds Qd Qe, sp_settled ds Qd Qe → ds.length = 2 := by rintro _ _ _ ⟨_, _, _, _, _, rfl, _⟩; rfl
theorem i_settled {dl dr : D} {s : Int} {k v : List D} {Qd : D → List D → Prop} {Qe : Exn → List D → Prop} (h : ∃ as x y, dl = sd x ∧ dr = sd y ∧ ShiftsR as k v ∧ Qd (.int (match stl as x y s with | some true => 4 | some false => 1 | none => 5)) []) : sp_settled [.tup [dl, dr, .int s], .dct k v] Qd Qe := ⟨_, _, _, _, _, rfl, h⟩
def sp_mirrored : SpD := fun ds Qd _ => ∃ (n : Int), ds = [.int n] ∧ ∃ x : T3, n = x.n ∧ Qd (.int x.mir.n) []
theorem len_mirrored : ∀ ds Qd Qe, sp_mirrored ds Qd Qe → ds.length = 1 := by rintro _ _ _ ⟨_, rfl, _⟩; rfl
theorem i_mirrored {n : Int} {Qd : D → List D → Prop} {Qe : Exn → List D → Prop} (h : ∃ x : T3, n = x.n ∧ Qd (.int x.mir.n) []) : sp_mirrored [.int n] Qd Qe := ⟨_, rfl, h⟩
def sp_compare_truths : SpD := fun ds Qd _ => ∃ (d : D) (ck cv sk sv : List D), ds = [d, .dct ck cv, .dct sk sv] ∧ ∃ a op b as, d = stepC a op b ∧ ColsR as ck cv ∧ ShiftsR as sk sv ∧ Qd (.int (cmpMay as a op b).n) []
theorem len_compare_truths : ∀ ds Qd Qe, sp_compare_truths ds Qd Qe → ds.length = 3 := by rintro _ _ _ ⟨_, _, _, _, _, rfl, _⟩; rfl
theorem i_compare_truths {d : D} {ck cv sk sv : List D} {Qd : D → List D → Prop} {Qe : Exn → List D → Prop} (h : ∃ a op b as, d = stepC a op b ∧ ColsR as ck cv ∧ ShiftsR as sk sv ∧ Qd (.int (cmpMay as a op b).n) []) : sp_compare_truths [d, .dct ck cv, .dct sk sv] Qd Qe := ⟨_, _, _, _, _, rfl, h⟩
def sp_leaf_truths : SpD := fun ds Qd _ => ∃ (d : D) (ck cv sk sv : List D), ds = [d, .dct ck cv, .dct sk sv] ∧ ∃ (t : Ct) (as : List An) (ys : List Str), [d] = t.steps ∧ t.Ok ys ∧ t.size = 1 ∧ ColsR as ck cv ∧ ShiftsR as sk sv ∧ Qd (.int (t.may as).n) []
theorem len_leaf_truths : ∀ ds Qd Qe, sp_leaf_truths ds Qd Qe → ds.length = 3 := by rintro _ _ _ ⟨_, _, _, _, _, rfl, _⟩; rfl
theorem i_leaf_truths {d : D} {ck cv sk sv : List D} {Qd : D → List D → Prop} {Qe : Exn → List D → Prop} (h : ∃ (t : Ct) (as : List An) (ys : List Str), [d] = t.steps ∧ t.Ok ys ∧ t.size = 1 ∧ ColsR as ck cv ∧ ShiftsR as sk sv ∧ Qd (.int (t.may as).n) []) : sp_leaf_truths [d, .dct ck cv, .dct sk sv] Qd Qe := ⟨_, _, _, _, _, rfl, h⟩
def sp_least_of : SpD := fun ds Qd _ => ∃ (m n : Int), ds = [.int m, .int n] ∧ ∃ x y : T3, m = x.n ∧ n = y.n ∧ Qd (.int (x.lst y).n) []
theorem len_least_of : ∀ ds Qd Qe, sp_least_of ds Qd Qe → ds.length = 2 := by rintro _ _ _ ⟨_, _, rfl, _⟩; rfl
theorem i_least_of {m n : Int} {Qd : D → List D → Prop} {Qe : Exn → List D → Prop} (h : ∃ x y : T3, m = x.n ∧ n = y.n ∧ Qd (.int (x.lst y).n) []) : sp_least_of [.int m, .int n] Qd Qe := ⟨_, _, rfl, h⟩
def t3ns (xs : List T3) : List D := xs.map fun x => .int x.n
def sp_joined_truths_n : Nat → SpD
  | 0 => fun _ _ _ => False
  | n + 1 => fun ds Qd _ => ∃ (b : Bool) (xs : List T3), ds = [.str (jnW b), .lst (t3ns xs)] ∧ (b = false → 1 ≤ n) ∧ xs.length ≤ 1000 ∧ Qd (.int (T3.jnd b xs).n) []
def sp_joined_truths : SpD := sp_joined_truths_n 2
theorem len_joined_truths_n : ∀ n ds Qd Qe, sp_joined_truths_n n ds Qd Qe → ds.length = 2
  | _ + 1, _, _, _, h => by obtain ⟨_, _, rfl, _⟩ := h; rfl
def sp_tested_truths : SpD := fun ds Qd _ => ∃ (n : Int) (w : Str), ds = [.int n, .str w] ∧ ∃ x : T3, n = x.n ∧ w ∈ wrdL ∧ Qd (.int (x.tst w).n) []
theorem len_tested_truths : ∀ ds Qd Qe, sp_tested_truths ds Qd Qe → ds.length = 2 := by rintro _ _ _ ⟨_, _, rfl, _⟩; rfl
theorem i_tested_truths {n : Int} {w : Str} {Qd : D → List D → Prop} {Qe : Exn → List D → Prop} (h : ∃ x : T3, n = x.n ∧ w ∈ wrdL ∧ Qd (.int (x.tst w).n) []) : sp_tested_truths [.int n, .str w] Qd Qe := ⟨_, _, rfl, h⟩
/-- what stands on survey's stack -/
def svs (l : List D) (xs : List T3) : Prop := ∃ ps : List Int, ps.length = xs.length ∧ l = List.zipWith (fun x p => D.tup [.int (T3.n x), .int p]) xs ps
def sp_first_open : SpD := fun ds Qd _ => ∃ (n : Int) (l : List D), ds = [.int n, .lst l] ∧ ∃ xs, svs l xs ∧ ∀ p : Int, Qd (.int p) []
theorem len_first_open : ∀ ds Qd Qe, sp_first_open ds Qd Qe → ds.length = 2 := by rintro _ _ _ ⟨_, _, rfl, _⟩; rfl
theorem i_first_open {n : Int} {l : List D} {Qd : D → List D → Prop} {Qe : Exn → List D → Prop} (h : ∃ xs, svs l xs ∧ ∀ p : Int, Qd (.int p) []) : sp_first_open [.int n, .lst l] Qd Qe := ⟨_, _, rfl, h⟩
def sp_survey : SpD := fun ds Qd _ => ∃ (l m : List D), ds = [.tup l, .lst m] ∧ ∃ (t : Ct) (as : List An) (ys : List Str), l = t.steps ∧ t.Ok ys ∧ t.size ≤ 1000 ∧ m = ans as ∧ Uq as ∧ as.length ≤ 1000 ∧ ∀ p : Int, Qd (.tup [.int (t.may as).n, .int p]) []
theorem len_survey : ∀ ds Qd Qe, sp_survey ds Qd Qe → ds.length = 2 := by rintro _ _ _ ⟨_, _, rfl, _⟩; rfl
theorem i_survey {l m : List D} {Qd : D → List D → Prop} {Qe : Exn → List D → Prop} (h : ∃ (t : Ct) (as : List An) (ys : List Str), l = t.steps ∧ t.Ok ys ∧ t.size ≤ 1000 ∧ m = ans as ∧ Uq as ∧ as.length ≤ 1000 ∧ ∀ p : Int, Qd (.tup [.int (t.may as).n, .int p]) []) : sp_survey [.tup l, .lst m] Qd Qe := ⟨_, _, rfl, h⟩
def sp_possible_truths : SpD := fun ds Qd _ => ∃ (l m : List D), ds = [cond l, .lst m] ∧ ∃ (t : Ct) (as : List An) (ys : List Str), l = t.steps ∧ t.Ok ys ∧ t.size ≤ 1000 ∧ m = ans as ∧ Uq as ∧ as.length ≤ 1000 ∧ Qd (.tup (txs (t.may as).words)) []
theorem len_possible_truths : ∀ ds Qd Qe, sp_possible_truths ds Qd Qe → ds.length = 2 := by rintro _ _ _ ⟨_, _, rfl, _⟩; rfl
theorem i_possible_truths {l m : List D} {Qd : D → List D → Prop} {Qe : Exn → List D → Prop} (h : ∃ (t : Ct) (as : List An) (ys : List Str), l = t.steps ∧ t.Ok ys ∧ t.size ≤ 1000 ∧ m = ans as ∧ Uq as ∧ as.length ≤ 1000 ∧ Qd (.tup (txs (t.may as).words)) []) : sp_possible_truths [cond l, .lst m] Qd Qe := ⟨_, _, rfl, h⟩
/-- sides: None and names -/
def sds (l : List (Option Str)) : List D := l.map sd
end DL

/-! bounds: chains of shifts, in plain Lean -/
namespace DL
open PySem L2

theorem nd_map {α β : Type} {f : α → β} : ∀ {l : List α}, l.Nodup → (∀ a ∈ l, ∀ b ∈ l, f a = f b → a = b) → (l.map f).Nodup
  | [], _, _ => List.nodup_nil
  | a :: l, nd, h => by
    rw [List.nodup_cons] at nd
    rw [List.map_cons, List.nodup_cons]
    refine ⟨fun m => ?_, nd_map nd.2 fun b hb c hc => h b (List.mem_cons_of_mem _ hb) c (List.mem_cons_of_mem _ hc)⟩
    obtain ⟨b, hb, e⟩ := List.mem_map.mp m
    rw [← h b (List.mem_cons_of_mem _ hb) a List.mem_cons_self e] at nd
    exact nd.1 hb
theorem nd_of_map {α β : Type} {f : α → β} : ∀ {l : List α}, (l.map f).Nodup → l.Nodup
  | [], _ => List.nodup_nil
  | a :: l, nd => by
    rw [List.map_cons, List.nodup_cons] at nd
    rw [List.nodup_cons]
    exact ⟨fun m => nd.1 (List.mem_map.mpr ⟨a, m, rfl⟩), nd_of_map nd.2⟩
abbrev Sd := Option Str
abbrev Bnd := Sd × Sd × Int
abbrev Wt := Int × List Nat
abbrev Ch := List ((Sd × Sd) × Wt)
def lk : Ch → Sd × Sd → Option Wt
  | [], _ => none
  | e :: c, k => if e.1 = k then some e.2 else lk c k
theorem lk_mem : ∀ {c : Ch} {k : Sd × Sd} {v : Wt}, lk c k = some v → (k, v) ∈ c
  | [], _, _, h => by cases h
  | e :: c, k, v, h => by
    unfold lk at h
    split at h
    · rename_i q
      cases h
      subst q
      exact List.mem_cons_self
    · exact List.mem_cons_of_mem _ (lk_mem h)
theorem lk_none : ∀ {c : Ch} {k : Sd × Sd}, lk c k = none ↔ k ∉ c.map (·.1)
  | [], _ => by simp [lk]
  | e :: c, k => by
    unfold lk
    split
    · rename_i q
      simp [q]
    · rename_i q
      rw [lk_none, List.map_cons, List.mem_cons, not_or]
      exact ⟨fun h => ⟨fun z => q z.symm, h⟩, fun h => h.2⟩
theorem lk_iff : ∀ {c : Ch} (nd : (c.map (·.1)).Nodup) {k : Sd × Sd} {v : Wt}, lk c k = some v ↔ (k, v) ∈ c
  | [], _, _, _ => by simp [lk]
  | e :: c, nd, k, v => by
    rw [List.map_cons, List.nodup_cons] at nd
    constructor
    · exact lk_mem
    · intro h
      unfold lk
      rcases List.mem_cons.mp h with q | q
      · subst q
        rw [if_pos rfl]
      · rw [if_neg, lk_iff nd.2]
        · exact q
        · intro z
          exact nd.1 (by rw [z]; exact List.mem_map.mpr ⟨_, q, rfl⟩)
theorem lk_append {c d : Ch} {k : Sd × Sd} : lk (c ++ d) k = match lk c k with
    | some v => some v
    | none => lk d k := by
  induction c with
  | nil => rfl
  | cons e c ih =>
    rw [List.cons_append]
    by_cases h : e.1 = k
    · simp [lk, h]
    · simp only [lk, h, if_false]
      exact ih
/-- how far, by the chains -/
def dst (c : Ch) (a b : Sd) : Option Wt := if a = b then some (0, []) else lk c (a, b)
theorem dst_self {c : Ch} {a : Sd} : dst c a a = some (0, []) := by unfold dst; rw [if_pos rfl]
theorem dst_ne {c : Ch} {a b : Sd} (h : a ≠ b) : dst c a b = lk c (a, b) := by unfold dst; rw [if_neg h]
/-! ### what a new bound makes of the chains -/
def headsC (c : Ch) (x : Sd) : List (Sd × Wt) := (x, 0, []) :: (c.filter fun e => e.1.2 = x).map fun e => (e.1.1, e.2)
def tailsC (c : Ch) (y : Sd) : List (Sd × Wt) := (y, 0, []) :: (c.filter fun e => e.1.1 = y).map fun e => (e.1.2, e.2)
def candC (t : Int) (p : Nat) (h g : Sd × Wt) : (Sd × Sd) × Wt := ((h.1, g.1), h.2.1 + t + g.2.1, h.2.2 ++ [p] ++ g.2.2)
def joinedC (c : Ch) (x y : Sd) (t : Int) (p : Nat) : Ch := (headsC c x).flatMap fun h => ((tailsC c y).filter fun g => h.1 ≠ g.1).map fun g => candC t p h g
def better (c : Ch) (e : (Sd × Sd) × Wt) : Bool := match lk c e.1 with
  | none => true
  | some v => decide (e.2.1 < v.1)
def shorterC (c : Ch) (x y : Sd) (t : Int) (p : Nat) : Ch := (joinedC c x y t p).filter (better c)
def longerC (c : Ch) (x y : Sd) (t : Int) (p : Nat) : Ch := c.map (fun e => (e.1, (lk (shorterC c x y t p) e.1).getD e.2)) ++ (shorterC c x y t p).filter fun e => (lk c e.1).isNone
/-- the chains' keys are of two sides -/
structure ChOk (c : Ch) (ss : List Sd) : Prop where
  nd : (c.map (·.1)).Nodup
  ne : ∀ e ∈ c, e.1.1 ≠ e.1.2 ∧ e.1.1 ∈ ss ∧ e.1.2 ∈ ss
section
variable {c : Ch} {ss : List Sd} {x y : Sd} {t : Int} {p : Nat}
theorem mem_heads (O : ChOk c ss) {f : Sd} {v : Wt} : (f, v) ∈ headsC c x ↔ dst c f x = some v := by
  unfold headsC dst
  rw [List.mem_cons]
  by_cases h : f = x
  · subst h
    rw [if_pos rfl]
    constructor
    · rintro (e | m)
      · cases e; rfl
      · obtain ⟨e, he, q⟩ := List.mem_map.mp m
        obtain ⟨m1, m2⟩ := List.mem_filter.mp he
        cases q
        exact absurd (of_decide_eq_true m2).symm (O.ne e m1).1
    · intro e
      cases e
      exact .inl rfl
  · rw [if_neg h, lk_iff O.nd]
    constructor
    · rintro (e | m)
      · cases e; exact absurd rfl h
      · obtain ⟨e, he, q⟩ := List.mem_map.mp m
        obtain ⟨m1, m2⟩ := List.mem_filter.mp he
        have := of_decide_eq_true m2
        cases q
        rw [← this]
        exact m1
    · intro m
      exact .inr (List.mem_map.mpr ⟨_, List.mem_filter.mpr ⟨m, by simp⟩, rfl⟩)
theorem mem_tails (O : ChOk c ss) {z : Sd} {v : Wt} : (z, v) ∈ tailsC c y ↔ dst c y z = some v := by
  unfold tailsC dst
  rw [List.mem_cons]
  by_cases h : y = z
  · subst h
    rw [if_pos rfl]
    constructor
    · rintro (e | m)
      · cases e; rfl
      · obtain ⟨e, he, q⟩ := List.mem_map.mp m
        obtain ⟨m1, m2⟩ := List.mem_filter.mp he
        cases q
        exact absurd (of_decide_eq_true m2) (O.ne e m1).1
    · intro e
      cases e
      exact .inl rfl
  · rw [if_neg h, lk_iff O.nd]
    constructor
    · rintro (e | m)
      · cases e; exact absurd rfl h
      · obtain ⟨e, he, q⟩ := List.mem_map.mp m
        obtain ⟨m1, m2⟩ := List.mem_filter.mp he
        have := of_decide_eq_true m2
        cases q
        rw [← this]
        exact m1
    · intro m
      exact .inr (List.mem_map.mpr ⟨_, List.mem_filter.mpr ⟨m, by simp⟩, rfl⟩)
theorem heads_nd (O : ChOk c ss) : ((headsC c x).map (·.1)).Nodup := by
  unfold headsC
  rw [List.map_cons, List.nodup_cons, List.map_map]
  constructor
  · intro m
    obtain ⟨e, he, q⟩ := List.mem_map.mp m
    obtain ⟨m1, m2⟩ := List.mem_filter.mp he
    exact (O.ne e m1).1 (q.trans (of_decide_eq_true m2).symm)
  · refine nd_map ((nd_of_map O.nd).sublist List.filter_sublist) ?_
    intro e he d hd q
    obtain ⟨m1, m2⟩ := List.mem_filter.mp he
    obtain ⟨m3, m4⟩ := List.mem_filter.mp hd
    have k : e.1 = d.1 := Prod.ext q ((of_decide_eq_true m2).trans (of_decide_eq_true m4).symm)
    have a := (lk_iff O.nd).mpr m1
    have b := (lk_iff O.nd).mpr m3
    rw [k, b] at a
    exact Prod.ext k (Option.some.inj a).symm
theorem tails_nd (O : ChOk c ss) : ((tailsC c y).map (·.1)).Nodup := by
  unfold tailsC
  rw [List.map_cons, List.nodup_cons, List.map_map]
  constructor
  · intro m
    obtain ⟨e, he, q⟩ := List.mem_map.mp m
    obtain ⟨m1, m2⟩ := List.mem_filter.mp he
    exact (O.ne e m1).1 ((of_decide_eq_true m2).trans q.symm)
  · refine nd_map ((nd_of_map O.nd).sublist List.filter_sublist) ?_
    intro e he d hd q
    obtain ⟨m1, m2⟩ := List.mem_filter.mp he
    obtain ⟨m3, m4⟩ := List.mem_filter.mp hd
    have k : e.1 = d.1 := Prod.ext ((of_decide_eq_true m2).trans (of_decide_eq_true m4).symm) q
    have a := (lk_iff O.nd).mpr m1
    have b := (lk_iff O.nd).mpr m3
    rw [k, b] at a
    exact Prod.ext k (Option.some.inj a).symm
theorem mem_joined (O : ChOk c ss) {k : Sd × Sd} {v : Wt} : (k, v) ∈ joinedC c x y t p ↔ k.1 ≠ k.2 ∧ ∃ v1 v2, dst c k.1 x = some v1 ∧ dst c y k.2 = some v2 ∧ v = (v1.1 + t + v2.1, v1.2 ++ [p] ++ v2.2) := by
  unfold joinedC
  rw [List.mem_flatMap]
  constructor
  · rintro ⟨h, hh, m⟩
    obtain ⟨g, hg, q⟩ := List.mem_map.mp m
    obtain ⟨m1, m2⟩ := List.mem_filter.mp hg
    cases q
    exact ⟨of_decide_eq_true m2, h.2, g.2, (mem_heads O).mp hh, (mem_tails O).mp m1, rfl⟩
  · rintro ⟨ne, v1, v2, h1, h2, rfl⟩
    exact ⟨(k.1, v1), (mem_heads O).mpr h1, List.mem_map.mpr ⟨(k.2, v2), List.mem_filter.mpr ⟨(mem_tails O).mpr h2, decide_eq_true ne⟩, rfl⟩⟩
theorem nd_flat {α β κ : Type} {f : α → List β} {g : β → κ} {h : α → κ → Prop} : ∀ {l : List α}, l.Nodup → (∀ a ∈ l, ((f a).map g).Nodup) → (∀ a ∈ l, ∀ b ∈ f a, h a (g b)) → (∀ a ∈ l, ∀ b ∈ l, ∀ k, h a k → h b k → a = b) → ((l.flatMap f).map g).Nodup
  | [], _, _, _, _ => List.nodup_nil
  | a :: l, nd, h1, h2, h3 => by
    rw [List.nodup_cons] at nd
    rw [List.flatMap_cons, List.map_append, List.nodup_append]
    refine ⟨h1 a List.mem_cons_self, nd_flat nd.2 (fun b hb => h1 b (List.mem_cons_of_mem _ hb)) (fun b hb => h2 b (List.mem_cons_of_mem _ hb)) (fun b hb c hc => h3 b (List.mem_cons_of_mem _ hb) c (List.mem_cons_of_mem _ hc)), ?_⟩
    intro k hk k' hk' e
    subst e
    obtain ⟨b, hb, e1⟩ := List.mem_map.mp hk
    obtain ⟨b', hb', e2⟩ := List.mem_map.mp hk'
    obtain ⟨a', ha', hb''⟩ := List.mem_flatMap.mp hb'
    have k1 := h2 a List.mem_cons_self b hb
    have k2 := h2 a' (List.mem_cons_of_mem _ ha') b' hb''
    rw [e1] at k1
    rw [e2] at k2
    have := h3 a List.mem_cons_self a' (List.mem_cons_of_mem _ ha') k k1 k2
    rw [← this] at ha'
    exact nd.1 ha'
theorem joined_nd (O : ChOk c ss) : ((joinedC c x y t p).map (·.1)).Nodup := by
  unfold joinedC
  refine nd_flat (h := fun h k => k.1 = h.1) (nd_of_map (heads_nd O)) (fun h hh => ?_) (fun h hh b hb => ?_) (fun a ha b hb k e1 e2 => ?_)
  · rw [List.map_map]
    refine nd_map ((nd_of_map (tails_nd O)).sublist List.filter_sublist) fun g1 m1 g2 m2 q => ?_
    have e : g1.1 = g2.1 := (Prod.mk.inj q).2
    have a := (mem_tails O).mp (List.mem_filter.mp m1).1
    have b := (mem_tails O).mp (List.mem_filter.mp m2).1
    rw [e, b] at a
    exact Prod.ext e (Option.some.inj a).symm
  · obtain ⟨g, _, q⟩ := List.mem_map.mp hb
    cases q
    rfl
  · have e : a.1 = b.1 := e1.symm.trans e2
    have h1 := (mem_heads O).mp ha
    have h2 := (mem_heads O).mp hb
    rw [e, h2] at h1
    exact Prod.ext e (Option.some.inj h1).symm
theorem shorter_nd (O : ChOk c ss) : ((shorterC c x y t p).map (·.1)).Nodup := (joined_nd O).sublist (List.Sublist.map _ List.filter_sublist)
theorem lk_shorter (O : ChOk c ss) {k : Sd × Sd} {v : Wt} : lk (shorterC c x y t p) k = some v ↔ ((k, v) ∈ joinedC c x y t p ∧ ∀ u, lk c k = some u → v.1 < u.1) := by
  rw [lk_iff (shorter_nd O)]
  unfold shorterC
  rw [List.mem_filter]
  refine and_congr_right fun _ => ?_
  unfold better
  cases h : lk c k with
  | none => simp
  | some u => simp
theorem longer_keys (O : ChOk c ss) : (longerC c x y t p).map (·.1) = c.map (·.1) ++ ((shorterC c x y t p).filter fun e => (lk c e.1).isNone).map (·.1) := by
  unfold longerC
  rw [List.map_append, List.map_map]
  rfl
theorem lk_longer (O : ChOk c ss) {k : Sd × Sd} : lk (longerC c x y t p) k = match lk (shorterC c x y t p) k with
    | some v => some v
    | none => lk c k := by
  unfold longerC
  rw [lk_append]
  have h1 : ∀ (d s : Ch), lk (d.map fun e => (e.1, (lk s e.1).getD e.2)) k = (lk d k).map fun v => (lk s k).getD v := by
    intro d s
    induction d with
    | nil => rfl
    | cons e d ih =>
      by_cases h : e.1 = k
      · simp [lk, h]
      · simp only [List.map_cons, lk, h, if_false]
        exact ih
  have h2 : lk c k = none → lk ((shorterC c x y t p).filter fun e => (lk c e.1).isNone) k = lk (shorterC c x y t p) k := by
    intro hn
    generalize shorterC c x y t p = s
    induction s with
    | nil => rfl
    | cons e d ih =>
      by_cases h : e.1 = k
      · have : (lk c e.1).isNone = true := by rw [h, hn]; rfl
        rw [List.filter_cons_of_pos (p := fun e : (Sd × Sd) × Wt => (lk c e.1).isNone) this]
        simp [lk, h]
      · by_cases h3 : (lk c e.1).isNone = true
        · rw [List.filter_cons_of_pos (p := fun e : (Sd × Sd) × Wt => (lk c e.1).isNone) h3]
          simp only [lk, h, if_false]
          exact ih
        · rw [List.filter_cons_of_neg (p := fun e : (Sd × Sd) × Wt => (lk c e.1).isNone) h3]
          simp only [lk, h, if_false]
          exact ih
  rw [h1]
  cases hc : lk c k with
  | none =>
    rw [h2 hc]
    cases lk (shorterC c x y t p) k <;> rfl
  | some v =>
    cases lk (shorterC c x y t p) k <;> rfl
theorem longer_ok (O : ChOk c ss) (hx : x ∈ ss) (hy : y ∈ ss) : ChOk (longerC c x y t p) ss where
  nd := by
    rw [longer_keys O, List.nodup_append]
    refine ⟨O.nd, (shorter_nd O).sublist (List.Sublist.map _ List.filter_sublist), fun k hk k' hk' e => ?_⟩
    subst e
    obtain ⟨b, hb, e1⟩ := List.mem_map.mp hk'
    have h := (List.mem_filter.mp hb).2
    rw [e1, Option.isNone_iff_eq_none, lk_none] at h
    exact h hk
  ne := fun e he => by
    have hn : (lk (longerC c x y t p) e.1).isSome = true := by
      cases h : lk (longerC c x y t p) e.1 with
      | none => exact absurd (List.mem_map.mpr ⟨e, he, rfl⟩) (lk_none.mp h)
      | some v => rfl
    rw [lk_longer O] at hn
    cases h : lk (shorterC c x y t p) e.1 with
    | none =>
      rw [h] at hn
      cases h' : lk c e.1 with
      | none => rw [h'] at hn; cases hn
      | some v => exact O.ne (e.1, v) (lk_mem h')
    | some v =>
      obtain ⟨m, _⟩ := (lk_shorter O).mp h
      obtain ⟨n, v1, v2, h1, h2, _⟩ := (mem_joined O).mp m
      refine ⟨n, ?_, ?_⟩
      · by_cases q : e.1.1 = x
        · rw [q]; exact hx
        · rw [dst_ne q] at h1
          exact (O.ne ((e.1.1, x), v1) (lk_mem h1)).2.1
      · by_cases q : y = e.1.2
        · rw [← q]; exact hy
        · rw [dst_ne q] at h2
          exact (O.ne ((y, e.1.2), v2) (lk_mem h2)).2.2
/-! the new distances -/
/-- what is new -/
def New (c : Ch) (x y : Sd) (t : Int) (p : Nat) (a b : Sd) (v : Wt) : Prop := a ≠ b ∧ (∃ v1 v2, dst c a x = some v1 ∧ dst c y b = some v2 ∧ v = (v1.1 + t + v2.1, v1.2 ++ [p] ++ v2.2)) ∧ ∀ u, dst c a b = some u → v.1 < u.1
theorem dst_longer (O : ChOk c ss) {a b : Sd} {v : Wt} (h : dst (longerC c x y t p) a b = some v) : dst c a b = some v ∨ New c x y t p a b v := by
  by_cases e : a = b
  · subst e
    rw [dst_self] at h ⊢
    exact .inl h
  · rw [dst_ne e, lk_longer O] at h
    cases hs : lk (shorterC c x y t p) (a, b) with
    | none =>
      rw [hs] at h
      rw [dst_ne e]
      exact .inl h
    | some u =>
      rw [hs] at h
      cases h
      obtain ⟨m, k⟩ := (lk_shorter O).mp hs
      obtain ⟨n, q⟩ := (mem_joined O).mp m
      exact .inr ⟨e, q, fun u hu => k u (by rw [dst_ne e] at hu; exact hu)⟩
theorem dst_old (O : ChOk c ss) {a b : Sd} {v : Wt} (h : dst c a b = some v) : ∃ v', dst (longerC c x y t p) a b = some v' ∧ v'.1 ≤ v.1 := by
  by_cases e : a = b
  · subst e
    rw [dst_self] at h
    cases h
    exact ⟨_, dst_self, Int.le_refl _⟩
  · rw [dst_ne e] at h ⊢
    rw [lk_longer O]
    cases hs : lk (shorterC c x y t p) (a, b) with
    | none => exact ⟨v, h, Int.le_refl _⟩
    | some u => exact ⟨u, rfl, Int.le_of_lt (((lk_shorter O).mp hs).2 v h)⟩
theorem dst_join (O : ChOk c ss) {a b : Sd} {v1 v2 : Wt} (e : a ≠ b) (h1 : dst c a x = some v1) (h2 : dst c y b = some v2) : ∃ v', dst (longerC c x y t p) a b = some v' ∧ v'.1 ≤ v1.1 + t + v2.1 := by
  rw [dst_ne e, lk_longer O]
  cases hs : lk (shorterC c x y t p) (a, b) with
  | some u =>
    obtain ⟨m, _⟩ := (lk_shorter O).mp hs
    obtain ⟨_, w1, w2, k1, k2, rfl⟩ := (mem_joined O).mp m
    rw [h1] at k1
    rw [h2] at k2
    cases k1
    cases k2
    exact ⟨_, rfl, Int.le_refl _⟩
  | none =>
    cases hc : lk c (a, b) with
    | none =>
      have := (lk_shorter (x := x) (y := y) (t := t) (p := p) O (k := (a, b)) (v := (v1.1 + t + v2.1, v1.2 ++ [p] ++ v2.2))).mpr ⟨(mem_joined O).mpr ⟨e, v1, v2, h1, h2, rfl⟩, fun u hu => by rw [hc] at hu; cases hu⟩
      rw [hs] at this
      cases this
    | some u =>
      refine ⟨u, rfl, Int.not_lt.mp fun hlt => ?_⟩
      have := (lk_shorter (x := x) (y := y) (t := t) (p := p) O (k := (a, b)) (v := (v1.1 + t + v2.1, v1.2 ++ [p] ++ v2.2))).mpr ⟨(mem_joined O).mpr ⟨e, v1, v2, h1, h2, rfl⟩, fun u' hu => by rw [hc] at hu; cases hu; exact hlt⟩
      rw [hs] at this
      cases this
end

/-! ### walks over the bounds -/
inductive Walk (bs : List Bnd) : Sd → List Nat → Sd → Int → Prop
  | nil (a : Sd) : Walk bs a [] a 0
  | cons {a b c : Sd} {t s : Int} {p : Nat} {w : List Nat} : bs[p]? = some (a, b, t) → Walk bs b w c s → Walk bs a (p :: w) c (t + s)
section
variable {bs : List Bnd}
theorem Walk.append {a b c : Sd} {w w' : List Nat} {s s' : Int} (h : Walk bs a w b s) (h' : Walk bs b w' c s') : Walk bs a (w ++ w') c (s + s') := by
  induction h with
  | nil a => rw [Int.zero_add]; exact h'
  | cons e _ ih => rw [Int.add_assoc]; exact .cons e (ih h')
theorem Walk.split {a c : Sd} {u w : List Nat} {s : Int} (h : Walk bs a (u ++ w) c s) : ∃ b s1 s2, Walk bs a u b s1 ∧ Walk bs b w c s2 ∧ s = s1 + s2 := by
  induction u generalizing a s with
  | nil => exact ⟨a, 0, s, .nil a, h, by omega⟩
  | cons p u ih =>
    cases h with
    | cons e h =>
      obtain ⟨b, s1, s2, h1, h2, rfl⟩ := ih h
      exact ⟨b, _, s2, .cons e h1, h2, by omega⟩
theorem Walk.more {a c : Sd} {w : List Nat} {s : Int} (h : Walk bs a w c s) (l : List Bnd) : Walk (bs ++ l) a w c s := by
  induction h with
  | nil a => exact .nil a
  | cons e _ ih => exact .cons (by rw [List.getElem?_append_left (List.getElem?_eq_some_iff.mp e).1]; exact e) ih
theorem Walk.lt {a c : Sd} {w : List Nat} {s : Int} (h : Walk bs a w c s) : ∀ p ∈ w, p < bs.length := by
  induction h with
  | nil a => simp
  | cons e _ ih =>
    intro p hp
    rcases List.mem_cons.mp hp with rfl | hp
    · exact (List.getElem?_eq_some_iff.mp e).1
    · exact ih p hp
end
/-- the chains are the shortest walks -/
structure CInv (bs : List Bnd) (c : Ch) (ss : List Sd) : Prop where
  ok : ChOk c ss
  sides : ∀ b ∈ bs, b.1 ≠ b.2.1 ∧ b.1 ∈ ss ∧ b.2.1 ∈ ss
  walk : ∀ k v, lk c k = some v → Walk bs k.1 v.2 k.2 v.1 ∧ v.2.Nodup
  bnd : ∀ b ∈ bs, ∃ v, lk c (b.1, b.2.1) = some v ∧ v.1 ≤ b.2.2
  tri : ∀ a b e v1 v2, dst c a b = some v1 → dst c b e = some v2 → ∃ v, dst c a e = some v ∧ v.1 ≤ v1.1 + v2.1
section
variable {bs : List Bnd} {c : Ch} {ss : List Sd} {x y : Sd} {t : Int}
theorem cinv_nil : CInv [] [] ss where
  ok := ⟨List.nodup_nil, fun e he => by cases he⟩
  sides := fun b hb => by cases hb
  walk := fun k v h => by cases h
  bnd := fun b hb => by cases hb
  tri := fun a b e v1 v2 h1 h2 => by
    by_cases q : a = b
    · subst q
      rw [dst_self] at h1
      cases h1
      exact ⟨v2, h2, by omega⟩
    · rw [dst_ne q] at h1
      cases h1
theorem CInv.wk (I : CInv bs c ss) {a b : Sd} {v : Wt} (h : dst c a b = some v) : Walk bs a v.2 b v.1 ∧ v.2.Nodup := by
  by_cases q : a = b
  · subst q
    rw [dst_self] at h
    cases h
    exact ⟨.nil a, List.nodup_nil⟩
  · rw [dst_ne q] at h
    exact I.walk _ _ h
/-- no walk is shorter -/
theorem CInv.short (I : CInv bs c ss) {a b : Sd} {w : List Nat} {s : Int} (h : Walk bs a w b s) : ∃ v, dst c a b = some v ∧ v.1 ≤ s := by
  induction h with
  | nil a => exact ⟨_, dst_self, Int.le_refl _⟩
  | @cons a m b t s p w e _ ih =>
    obtain ⟨v, h1, h2⟩ := ih
    have hm := List.mem_of_getElem? e
    obtain ⟨u, k1, k2⟩ := I.bnd _ hm
    have ne : a ≠ m := (I.sides _ hm).1
    have k1 : dst c a m = some u := by rw [dst_ne ne]; exact k1
    have k2 : u.1 ≤ t := k2
    obtain ⟨z, z1, z2⟩ := I.tri a m b u v k1 h1
    exact ⟨z, z1, by omega⟩
/-- THE STEP -/
theorem CInv.step (I : CInv bs c ss) (hxy : x ≠ y) (hx : x ∈ ss) (hy : y ∈ ss) (h0 : ∀ v, dst c y x = some v → 0 ≤ v.1 + t) : CInv (bs ++ [(x, y, t)]) (longerC c x y t bs.length) ss := by
  have O := I.ok
  have hb : (bs ++ [(x, y, t)])[bs.length]? = some (x, y, t) := by simp
  -- joined walks, from anywhere to anywhere
  have join : ∀ a b v1 v2, dst c a x = some v1 → dst c y b = some v2 → ∃ v, dst (longerC c x y t bs.length) a b = some v ∧ v.1 ≤ v1.1 + t + v2.1 := fun a b v1 v2 h1 h2 => by
    by_cases e : a = b
    · subst e
      obtain ⟨u, u1, u2⟩ := I.tri y a x v2 v1 h2 h1
      have := h0 u u1
      exact ⟨_, dst_self, show (0 : Int) ≤ _ by omega⟩
    · exact dst_join O e h1 h2
  refine ⟨longer_ok O hx hy, fun b m => ?_, fun k v h => ?_, fun b m => ?_, fun a b e v1 v2 h1 h2 => ?_⟩
  · rcases List.mem_append.mp m with m | m
    · exact I.sides b m
    · rw [List.mem_singleton] at m
      subst m
      exact ⟨hxy, hx, hy⟩
  · have hne : k.1 ≠ k.2 := ((longer_ok (x := x) (y := y) (t := t) (p := bs.length) O hx hy).ne (k, v) (lk_mem h)).1
    have h : dst (longerC c x y t bs.length) k.1 k.2 = some v := by rw [dst_ne hne]; exact h
    rcases dst_longer O h with h | ⟨_, ⟨v1, v2, h1, h2, rfl⟩, hlt⟩
    · obtain ⟨w1, w2⟩ := I.wk h
      exact ⟨w1.more _, w2⟩
    · obtain ⟨w1, n1⟩ := I.wk h1
      obtain ⟨w2, n2⟩ := I.wk h2
      constructor
      · have w3 : Walk (bs ++ [(x, y, t)]) x [bs.length] y (t + 0) := .cons hb (.nil y)
        have := ((w1.more [(x, y, t)]).append w3).append (w2.more _)
        have e : v1.1 + (t + 0) + v2.1 = v1.1 + t + v2.1 := by omega
        rw [e] at this
        exact this
      · rw [List.nodup_append, List.nodup_append]
        refine ⟨⟨n1, by simp, fun p hp q hq e => ?_⟩, n2, fun p hp q hq e => ?_⟩
        · rw [List.mem_singleton] at hq
          have := w1.lt p hp
          omega
        · subst e
          rcases List.mem_append.mp hp with hp | hp
          · -- a bound in both: there is a shorter walk
            obtain ⟨u1, u2, e1⟩ := List.append_of_mem hp
            obtain ⟨v1', v2', e2⟩ := List.append_of_mem hq
            rw [e1] at w1
            rw [e2] at w2
            obtain ⟨m1, s1, s2, a1, a2, q1⟩ := w1.split
            obtain ⟨m2, s3, s4, b1, b2, q2⟩ := w2.split
            have em : m1 = m2 := by
              cases a2 with
              | cons f1 _ =>
                cases b2 with
                | cons f2 _ =>
                  rw [f1] at f2
                  cases f2
                  rfl
            subst em
            obtain ⟨d1, k1, k2⟩ := I.short (a1.append b2)
            obtain ⟨d2, k3, k4⟩ := I.short (b1.append a2)
            have h3 := hlt d1 k1
            have h4 := h0 d2 k3
            have h5 : v1.1 + t + v2.1 < d1.1 := h3
            omega
          · rw [List.mem_singleton] at hp
            have := w2.lt p hq
            omega
  · rcases List.mem_append.mp m with m | m
    · obtain ⟨v, k1, k2⟩ := I.bnd b m
      have ne := (I.sides b m).1
      obtain ⟨v', j1, j2⟩ := dst_old (x := x) (y := y) (t := t) (p := bs.length) O (a := b.1) (b := b.2.1) (v := v) (by rw [dst_ne ne]; exact k1)
      rw [dst_ne ne] at j1
      exact ⟨v', j1, by omega⟩
    · rw [List.mem_singleton] at m
      subst m
      obtain ⟨v', j1, j2⟩ := join x y _ _ dst_self dst_self
      rw [dst_ne hxy] at j1
      exact ⟨v', j1, by have j3 : v'.1 ≤ 0 + t + 0 := j2; show v'.1 ≤ t; omega⟩
  · rcases dst_longer O h1 with h1 | ⟨_, ⟨u1, u2, a1, a2, rfl⟩, _⟩
    · rcases dst_longer O h2 with h2 | ⟨_, ⟨u3, u4, a3, a4, rfl⟩, _⟩
      · obtain ⟨v, k1, k2⟩ := I.tri a b e v1 v2 h1 h2
        obtain ⟨v', j1, j2⟩ := dst_old (x := x) (y := y) (t := t) (p := bs.length) O k1
        exact ⟨v', j1, by omega⟩
      · obtain ⟨v, k1, k2⟩ := I.tri a b x v1 u3 h1 a3
        obtain ⟨v', j1, j2⟩ := join a e v u4 k1 a4
        exact ⟨v', j1, by show v'.1 ≤ v1.1 + (u3.1 + t + u4.1); omega⟩
    · rcases dst_longer O h2 with h2 | ⟨_, ⟨u3, u4, a3, a4, rfl⟩, _⟩
      · obtain ⟨v, k1, k2⟩ := I.tri y b e u2 v2 a2 h2
        obtain ⟨v', j1, j2⟩ := join a e u1 v a1 k1
        exact ⟨v', j1, by show v'.1 ≤ (u1.1 + t + u2.1) + v2.1; omega⟩
      · obtain ⟨v, k1, k2⟩ := I.tri y b x u2 u3 a2 a3
        have := h0 v k1
        obtain ⟨v', j1, j2⟩ := join a e u1 u4 a1 a4
        exact ⟨v', j1, by show v'.1 ≤ (u1.1 + t + u2.1) + (u3.1 + t + u4.1); omega⟩
end
end DL

/-! bounds: cycles, models, in plain Lean -/
namespace DL
open PySem L2

def bAt (bs : List Bnd) (p : Nat) : Bnd := (bs[p]?).getD (none, none, 0)
theorem bAt_of {bs : List Bnd} {p : Nat} {b : Bnd} (h : bs[p]? = some b) : bAt bs p = b := by unfold bAt; rw [h]; rfl
theorem bAt_more {bs l : List Bnd} {p : Nat} (h : p < bs.length) : bAt (bs ++ l) p = bAt bs p := by unfold bAt; rw [List.getElem?_append_left h]
def lefts (bs : List Bnd) (w : List Nat) : List Sd := w.map fun p => (bAt bs p).1
def rights (bs : List Bnd) (w : List Nat) : List Sd := w.map fun p => (bAt bs p).2.1
def totC (bs : List Bnd) (w : List Nat) : Int := (w.map fun p => (bAt bs p).2.2).sum
def cntS (a : Sd) (l : List Sd) : Nat := l.countP fun b => decide (b = a)
theorem walk_tot {bs : List Bnd} {a b : Sd} {w : List Nat} {s : Int} (h : Walk bs a w b s) : totC bs w = s := by
  induction h with
  | nil a => rfl
  | cons e _ ih =>
    unfold totC at ih ⊢
    rw [List.map_cons, List.sum_cons, ih, bAt_of e]
theorem walk_cnt {bs : List Bnd} {a b : Sd} {w : List Nat} {s : Int} (q : Sd) (h : Walk bs a w b s) : cntS q (lefts bs w) + (if b = q then 1 else 0) = (if a = q then 1 else 0) + cntS q (rights bs w) := by
  induction h with
  | nil a => simp [cntS, lefts, rights]
  | @cons a m b t s p w e _ ih =>
    have e1 : cntS q (lefts bs (p :: w)) = cntS q (lefts bs w) + if a = q then 1 else 0 := by
      unfold cntS lefts
      rw [List.map_cons, List.countP_cons, bAt_of e]
      simp
    have e2 : cntS q (rights bs (p :: w)) = cntS q (rights bs w) + if m = q then 1 else 0 := by
      unfold cntS rights
      rw [List.map_cons, List.countP_cons, bAt_of e]
      simp
    rw [e1, e2]
    omega
/-- the places l are a contradiction of the bounds -/
structure IsCyc (bs : List Bnd) (l : List Nat) : Prop where
  ne : l ≠ []
  up : l.Pairwise (· < ·)
  lt : ∀ p ∈ l, p < bs.length
  tot : totC bs l < 0
  cnt : ∀ q, cntS q (lefts bs l) = cntS q (rights bs l)
theorem perm_sum {l m : List Int} (h : l.Perm m) : l.sum = m.sum := by
  induction h with
  | nil => rfl
  | cons a _ ih => rw [List.sum_cons, List.sum_cons, ih]
  | swap a b l => simp only [List.sum_cons]; omega
  | trans _ _ h1 h2 => exact h1.trans h2
theorem up_of {l : List Nat} (h : l.Pairwise (· ≤ ·)) (n : l.Nodup) : l.Pairwise (· < ·) := by
  induction l with
  | nil => exact .nil
  | cons a l ih =>
    rw [List.pairwise_cons] at h ⊢
    rw [List.nodup_cons] at n
    exact ⟨fun b hb => Nat.lt_of_le_of_ne (h.1 b hb) fun e => n.1 (by rw [e]; exact hb), ih h.2 n.2⟩
theorem cyc_of {bs : List Bnd} {x y : Sd} {t s : Int} {w l : List Nat} (h : Walk bs y w x s) (n : w.Nodup) (hs : s + t < 0) (hp : l.Perm (w ++ [bs.length])) (hl : l.Pairwise (· ≤ ·)) : IsCyc (bs ++ [(x, y, t)]) l := by
  have hb : bAt (bs ++ [(x, y, t)]) bs.length = (x, y, t) := bAt_of (by simp)
  have hw := h.lt
  have nn : (w ++ [bs.length]).Nodup := by
    rw [List.nodup_append]
    refine ⟨n, by simp, fun p m q m2 e => ?_⟩
    rw [List.mem_singleton] at m2
    have := hw p m
    omega
  have wm := h.more [(x, y, t)]
  refine ⟨fun e => ?_, up_of hl (hp.nodup_iff.mpr nn), fun p m => ?_, ?_, fun q => ?_⟩
  · have := hp.length_eq
    rw [e] at this
    simp at this
  · have := hp.mem_iff.mp m
    rw [List.length_append, List.length_singleton]
    rcases List.mem_append.mp this with m | m
    · have := hw p m; omega
    · rw [List.mem_singleton] at m; omega
  · have e : totC (bs ++ [(x, y, t)]) l = totC (bs ++ [(x, y, t)]) (w ++ [bs.length]) := perm_sum (hp.map _)
    rw [e]
    have e2 : totC (bs ++ [(x, y, t)]) (w ++ [bs.length]) = totC (bs ++ [(x, y, t)]) w + t := by
      unfold totC
      rw [List.map_append, List.sum_append, List.map_singleton, hb]
      simp
    rw [e2, walk_tot wm]
    exact hs
  · have e1 : cntS q (lefts (bs ++ [(x, y, t)]) l) = cntS q (lefts (bs ++ [(x, y, t)]) (w ++ [bs.length])) := (hp.map _).countP_eq _
    have e2 : cntS q (rights (bs ++ [(x, y, t)]) l) = cntS q (rights (bs ++ [(x, y, t)]) (w ++ [bs.length])) := (hp.map _).countP_eq _
    have e3 : cntS q (lefts (bs ++ [(x, y, t)]) (w ++ [bs.length])) = cntS q (lefts (bs ++ [(x, y, t)]) w) + if x = q then 1 else 0 := by
      unfold cntS lefts
      rw [List.map_append, List.countP_append, List.map_singleton, hb]
      simp [List.countP_cons]
    have e4 : cntS q (rights (bs ++ [(x, y, t)]) (w ++ [bs.length])) = cntS q (rights (bs ++ [(x, y, t)]) w) + if y = q then 1 else 0 := by
      unfold cntS rights
      rw [List.map_append, List.countP_append, List.map_singleton, hb]
      simp [List.countP_cons]
    have := walk_cnt q wm
    rw [e1, e2, e3, e4]
    omega
theorem map_congr_mem {α β : Type} {f g : α → β} : ∀ {l : List α}, (∀ a ∈ l, f a = g a) → l.map f = l.map g
  | [], _ => rfl
  | a :: l, h => by rw [List.map_cons, List.map_cons, h a List.mem_cons_self, map_congr_mem fun b hb => h b (List.mem_cons_of_mem _ hb)]
theorem IsCyc.more {bs : List Bnd} {l : List Nat} (h : IsCyc bs l) (m : List Bnd) : IsCyc (bs ++ m) l := by
  have e1 : lefts (bs ++ m) l = lefts bs l := map_congr_mem fun p hp => by rw [bAt_more (h.lt p hp)]
  have e2 : rights (bs ++ m) l = rights bs l := map_congr_mem fun p hp => by rw [bAt_more (h.lt p hp)]
  have e3 : totC (bs ++ m) l = totC bs l := congrArg List.sum (map_congr_mem fun p hp => by rw [bAt_more (h.lt p hp)])
  refine ⟨h.ne, h.up, fun p hp => ?_, by rw [e3]; exact h.tot, fun q => by rw [e1, e2]; exact h.cnt q⟩
  have := h.lt p hp
  rw [List.length_append]
  omega

/-! ### the object -/
structure BS where
  bs : List Bnd
  cyc : Option (List Nat)
  ch : Ch
def sdsOf (ys : List Str) : List Sd := none :: ys.map some
def cs (c : Ch) (l r : Sd) : Option Int := (dst c l r).map (·.1)
/-- what adding a bound makes -/
def Step (s : BS) (x y : Sd) (t : Int) (s' : BS) : Prop := s'.bs = s.bs ++ [(x, y, t)] ∧
  ((∃ l, s.cyc = some l ∧ s'.cyc = some l ∧ s'.ch = s.ch) ∨
   (s.cyc = none ∧ ((∃ v l, dst s.ch y x = some v ∧ v.1 + t < 0 ∧ l.Perm (v.2 ++ [s.bs.length]) ∧ l.Pairwise (· ≤ ·) ∧ s'.cyc = some l ∧ s'.ch = s.ch) ∨
     ((∀ v, dst s.ch y x = some v → 0 ≤ v.1 + t) ∧ s'.cyc = none ∧ s'.ch = longerC s.ch x y t s.bs.length))))
structure BOk (ys : List Str) (s : BS) : Prop where
  inv : s.cyc = none → CInv s.bs s.ch (sdsOf ys)
  cyc : ∀ l, s.cyc = some l → IsCyc s.bs l
theorem bok_nil {ys : List Str} : BOk ys ⟨[], none, []⟩ := ⟨fun _ => cinv_nil, fun l h => by cases h⟩
theorem BOk.step {ys : List Str} {s s' : BS} {x y : Sd} {t : Int} (h : BOk ys s) (hxy : x ≠ y) (hx : x ∈ sdsOf ys) (hy : y ∈ sdsOf ys) (st : Step s x y t s') : BOk ys s' := by
  obtain ⟨eb, ⟨l, e1, e2, e3⟩ | ⟨e1, ⟨v, l, d, hv, hp, hl, e2, e3⟩ | ⟨h0, e2, e3⟩⟩⟩ := st
  · refine ⟨fun z => (by rw [e2] at z; cases z), fun l' h' => ?_⟩
    rw [e2] at h'
    cases h'
    rw [eb]
    exact (h.cyc l e1).more _
  · refine ⟨fun z => (by rw [e2] at z; cases z), fun l' h' => ?_⟩
    rw [e2] at h'
    cases h'
    rw [eb]
    obtain ⟨w, n⟩ := (h.inv e1).wk d
    exact cyc_of w n hv hp hl
  · refine ⟨fun _ => ?_, fun l' h' => by rw [e2] at h'; cases h'⟩
    rw [eb, e3]
    exact (h.inv e1).step hxy hx hy h0
/-! ### the model -/
def vOf (m : Str → Int) : Sd → Int
  | none => 0
  | some x => m x
def Keeps (ys : List Str) (bs : List Bnd) (m : Str → Int) : Prop := ∀ b ∈ bs, vOf m b.1 - vOf m b.2.1 ≤ b.2.2
/-- where every column has a limit from above, the limits are a model -/
theorem CInv.model {bs : List Bnd} {c : Ch} {ys : List Str} (I : CInv bs c (sdsOf ys)) (m : Str → Int) (hm : ∀ x ∈ ys, cs c (some x) none = some (m x)) : Keeps ys bs m := by
  intro b hb
  obtain ⟨v, k1, k2⟩ := I.bnd b hb
  obtain ⟨ne, s1, s2⟩ := I.sides b hb
  have k1 : dst c b.1 b.2.1 = some v := by rw [dst_ne ne]; exact k1
  have dOf : ∀ a, a ∈ sdsOf ys → ∃ u, dst c a none = some u ∧ u.1 = vOf m a := fun a ha => by
    cases a with
    | none => exact ⟨_, dst_self, rfl⟩
    | some x =>
      have hx : x ∈ ys := by
        unfold sdsOf at ha
        rcases List.mem_cons.mp ha with e | h
        · cases e
        · obtain ⟨z, hz, e⟩ := List.mem_map.mp h
          cases e
          exact hz
      have := hm x hx
      unfold cs at this
      cases hd : dst c (some x) none with
      | none => rw [hd] at this; cases this
      | some u => rw [hd] at this; exact ⟨u, rfl, Option.some.inj this⟩
  obtain ⟨u1, d1, e1⟩ := dOf _ s1
  obtain ⟨u2, d2, e2⟩ := dOf _ s2
  obtain ⟨z, z1, z2⟩ := I.tri _ _ _ v u2 k1 d2
  rw [d1] at z1
  cases z1
  omega
theorem Keeps.sub {ys : List Str} {bs l : List Bnd} {m : Str → Int} (h : Keeps ys (bs ++ l) m) : Keeps ys bs m := fun b hb => h b (List.mem_append_left _ hb)
/-- one turn of model -/
theorem bok_turn {ys : List Str} {s : BS} {x : Str} {top : Int} (h : BOk ys s) (h0 : s.cyc = none) (hx : x ∈ ys) (hn : cs s.ch (some x) none = none) (ht : match cs s.ch none (some x) with
    | some low => 0 ≤ low + top
    | none => True) {s' : BS} (st : Step s (some x) none top s') :
    BOk ys s' ∧ s'.cyc = none ∧ s'.bs = s.bs ++ [(some x, none, top)] ∧ (∃ v, cs s'.ch (some x) none = some v) ∧ ∀ a b v, cs s.ch a b = some v → ∃ v', cs s'.ch a b = some v' := by
  have hs : some x ∈ sdsOf ys := List.mem_cons_of_mem _ (List.mem_map.mpr ⟨x, hx, rfl⟩)
  have hn0 : (none : Sd) ∈ sdsOf ys := List.mem_cons_self
  have B := h.step (by simp) hs hn0 st
  obtain ⟨eb, ⟨l, e1, e2, e3⟩ | ⟨e1, ⟨v, l, d, hv, hp, hl, e2, e3⟩ | ⟨hz, e2, e3⟩⟩⟩ := st
  · rw [h0] at e1; cases e1
  · have : cs s.ch none (some x) = some v.1 := by unfold cs; rw [d]; rfl
    rw [this] at ht
    have ht : 0 ≤ v.1 + top := ht
    omega
  · have O := (h.inv h0).ok
    refine ⟨B, e2, eb, ?_, fun a b v hv => ?_⟩
    · obtain ⟨v', k1, _⟩ := dst_join (x := some x) (y := none) (t := top) (p := s.bs.length) O (a := some x) (b := none) (by simp) dst_self dst_self
      exact ⟨v'.1, by rw [e3]; unfold cs; rw [k1]; rfl⟩
    · unfold cs at hv
      cases hd : dst s.ch a b with
      | none => rw [hd] at hv; cases hv
      | some u =>
        obtain ⟨v', k1, _⟩ := dst_old (x := some x) (y := none) (t := top) (p := s.bs.length) O hd
        exact ⟨v'.1, by rw [e3]; unfold cs; rw [k1]; rfl⟩
/-! ### how many chains there are -/
theorem len_sub {α : Type} [DecidableEq α] : ∀ {l m : List α}, l.Nodup → (∀ a ∈ l, a ∈ m) → l.length ≤ m.length
  | [], _, _, _ => Nat.zero_le _
  | a :: l, m, n, h => by
    rw [List.nodup_cons] at n
    have ha := h a List.mem_cons_self
    have := len_sub (m := m.erase a) n.2 fun b hb => (List.mem_erase_of_ne fun e => n.1 (by rw [← e]; exact hb)).mpr (h b (List.mem_cons_of_mem _ hb))
    rw [List.length_erase_of_mem ha] at this
    have hp : 0 < m.length := List.length_pos_of_mem ha
    rw [List.length_cons]
    omega
theorem ChOk.len {c : Ch} {ss : List Sd} (O : ChOk c ss) : c.length ≤ ss.length * ss.length := by
  have := len_sub (l := c.map (·.1)) (m := ss.flatMap fun a => ss.map fun b => (a, b)) O.nd fun k hk => by
    obtain ⟨e, he, q⟩ := List.mem_map.mp hk
    obtain ⟨_, h1, h2⟩ := O.ne e he
    rw [← q]
    exact List.mem_flatMap.mpr ⟨_, h1, List.mem_map.mpr ⟨_, h2, rfl⟩⟩
  rw [List.length_map] at this
  refine Nat.le_trans this (Nat.le_of_eq ?_)
  rw [List.length_flatMap]
  have : ∀ l : List Sd, (l.map fun a => (ss.map fun b => (a, b)).length).sum = l.length * ss.length := by
    intro l
    induction l with
    | nil => simp
    | cons a l ih => rw [List.map_cons, List.sum_cons, ih, List.length_map, List.length_cons, Nat.succ_mul, Nat.add_comm]
  exact this ss
theorem walk_len {bs : List Bnd} {a b : Sd} {w : List Nat} {s : Int} (h : Walk bs a w b s) (n : w.Nodup) : w.length ≤ bs.length := by
  have := len_sub (m := List.range bs.length) n fun p hp => List.mem_range.mpr (h.lt p hp)
  rwa [List.length_range] at this
end DL

namespace DL
open PySem L2

def kD (k : Sd × Sd) : D := .tup [sd k.1, sd k.2]
def nats (w : List Nat) : List D := w.map fun (p : Nat) => D.int (p : Int)
def wD (v : Wt) : D := .tup [.int v.1, .tup (nats v.2)]
def chD (c : Ch) : D := .dct (c.map fun e => kD e.1) (c.map fun e => wD e.2)
def cyD : Option (List Nat) → D
  | none => .non
  | some l => .tup (nats l)
def oiD : Option Int → D
  | none => .non
  | some i => .int i
abbrev bndO (l : List D) (a b c : D) : D := .obj "Bounds" ["names", "added", "cycle", "chains"] [.tup l, a, b, c]
def BS.d (ys : List Str) (s : BS) : D := bndO (txs ys) (.tup (bds s.bs)) (cyD s.cyc) (chD s.ch)
def SidesOk (ss : List Sd) : Prop := ss.Nodup ∧ 2 ≤ ss.length ∧ ss.length ≤ 10
def BdIn (ss : List Sd) (b : Bnd) : Prop := b.1 ≠ b.2.1 ∧ b.1 ∈ ss ∧ b.2.1 ∈ ss
def Few (ys : List Str) : Prop := ys.Nodup ∧ 1 ≤ ys.length ∧ ys.length ≤ 9
def sp_law_two_sides : SpD := fun ds Qd _ => ∃ (st : D) (m : List D), ds = [st, .lst m] ∧ StOk st ∧ ∃ ss, m = sds ss ∧ SidesOk ss ∧ ∀ x y st', x ∈ ss → y ∈ ss → x ≠ y → StOk st' → Qd (.lst [sd x, sd y]) [st']
theorem len_law_two_sides : ∀ ds Qd Qe, sp_law_two_sides ds Qd Qe → ds.length = 2 := by rintro _ _ _ ⟨_, _, rfl, _⟩; rfl
theorem i_law_two_sides {st : D} {m : List D} {Qd : D → List D → Prop} {Qe : Exn → List D → Prop} (h : StOk st ∧ ∃ ss, m = sds ss ∧ SidesOk ss ∧ ∀ x y st', x ∈ ss → y ∈ ss → x ≠ y → StOk st' → Qd (.lst [sd x, sd y]) [st']) : sp_law_two_sides [st, .lst m] Qd Qe := ⟨_, _, rfl, h⟩
def sp_law_shift : SpD := fun ds Qd _ => ∃ (st c : D), ds = [st, c] ∧ StOk st ∧ cenOk c ∧ ∀ (n : Int) st', StOk st' → Qd (.int n) [st']
theorem len_law_shift : ∀ ds Qd Qe, sp_law_shift ds Qd Qe → ds.length = 2 := by rintro _ _ _ ⟨_, _, rfl, _⟩; rfl
@[simp ↓] theorem u_law_shift {st c : D} {Qd : D → List D → Prop} {Qe : Exn → List D → Prop} : sp_law_shift [st, c] Qd Qe = (StOk st ∧ cenOk c ∧ ∀ (n : Int) st', StOk st' → Qd (.int n) [st']) := propext ⟨fun h => by
  obtain ⟨_, _, h, k⟩ := h
  cases h
  exact k, fun k => ⟨_, _, rfl, k⟩⟩
def sp_law_some_bounds : SpD := fun ds Qd _ => ∃ (st : D) (m : List D) (c : D), ds = [st, .lst m, c] ∧ StOk st ∧ cenOk c ∧ ∃ ss, m = sds ss ∧ SidesOk ss ∧ ∀ (bs : List Bnd) st', bs.length ≤ 7 → (∀ b ∈ bs, BdIn ss b) → StOk st' → Qd (.lst (bds bs)) [st']
theorem len_law_some_bounds : ∀ ds Qd Qe, sp_law_some_bounds ds Qd Qe → ds.length = 3 := by rintro _ _ _ ⟨_, _, _, rfl, _⟩; rfl
theorem i_law_some_bounds {st : D} {m : List D} {c : D} {Qd : D → List D → Prop} {Qe : Exn → List D → Prop} (h : StOk st ∧ cenOk c ∧ ∃ ss, m = sds ss ∧ SidesOk ss ∧ ∀ (bs : List Bnd) st', bs.length ≤ 7 → (∀ b ∈ bs, BdIn ss b) → StOk st' → Qd (.lst (bds bs)) [st']) : sp_law_some_bounds [st, .lst m, c] Qd Qe := ⟨_, _, _, rfl, h⟩
def sp_law_ring : SpD := fun ds Qd _ => ∃ (st : D) (m : List D) (c : D), ds = [st, .lst m, c] ∧ StOk st ∧ cenOk c ∧ ∃ ss, m = sds ss ∧ SidesOk ss ∧ ∀ (bs : List Bnd) st', bs.length ≤ 10 → (∀ b ∈ bs, BdIn ss b) → StOk st' → Qd (.lst (bds bs)) [st']
theorem len_law_ring : ∀ ds Qd Qe, sp_law_ring ds Qd Qe → ds.length = 3 := by rintro _ _ _ ⟨_, _, _, rfl, _⟩; rfl
theorem i_law_ring {st : D} {m : List D} {c : D} {Qd : D → List D → Prop} {Qe : Exn → List D → Prop} (h : StOk st ∧ cenOk c ∧ ∃ ss, m = sds ss ∧ SidesOk ss ∧ ∀ (bs : List Bnd) st', bs.length ≤ 10 → (∀ b ∈ bs, BdIn ss b) → StOk st' → Qd (.lst (bds bs)) [st']) : sp_law_ring [st, .lst m, c] Qd Qe := ⟨_, _, _, rfl, h⟩
def sp_Bounds_init : SpD := fun ds Qd _ => ∃ (x : D) (l : List D), ds = [.obj "Bounds" [] [], x, .tup l] ∧ ∃ a b c, (x = .tup [a, b, c] ∨ (x = .non ∧ a = .tup [] ∧ b = .non ∧ c = .dct [] [])) ∧ Qd .non [bndO l a b c]
theorem len_Bounds_init : ∀ ds Qd Qe, sp_Bounds_init ds Qd Qe → ds.length = 3 := by rintro _ _ _ ⟨_, _, rfl, _⟩; rfl
theorem i_Bounds_init {x : D} {l : List D} {Qd : D → List D → Prop} {Qe : Exn → List D → Prop} (h : ∃ a b c, (x = .tup [a, b, c] ∨ (x = .non ∧ a = .tup [] ∧ b = .non ∧ c = .dct [] [])) ∧ Qd .non [bndO l a b c]) : sp_Bounds_init [.obj "Bounds" [] [], x, .tup l] Qd Qe := ⟨_, _, rfl, h⟩
def sp_law_bounds_of : SpD := fun ds Qd _ => ∃ (m : List D), ds = [.lst m] ∧ ∃ ys : List Str, m = txs ys ∧ 1 ≤ ys.length ∧ ys.length ≤ 4 ∧ Qd (BS.d ys ⟨[], none, []⟩) []
theorem len_law_bounds_of : ∀ ds Qd Qe, sp_law_bounds_of ds Qd Qe → ds.length = 1 := by rintro _ _ _ ⟨_, rfl, _⟩; rfl
theorem i_law_bounds_of {m : List D} {Qd : D → List D → Prop} {Qe : Exn → List D → Prop} (h : ∃ ys : List Str, m = txs ys ∧ 1 ≤ ys.length ∧ ys.length ≤ 4 ∧ Qd (BS.d ys ⟨[], none, []⟩) []) : sp_law_bounds_of [.lst m] Qd Qe := ⟨_, rfl, h⟩
def sp_law_number : SpD := fun ds Qd _ => ∃ (n : Int), ds = [.int n] ∧ Qd (.bl true) []
theorem len_law_number : ∀ ds Qd Qe, sp_law_number ds Qd Qe → ds.length = 1 := by rintro _ _ _ ⟨_, rfl, _⟩; rfl
@[simp ↓] theorem u_law_number {n : Int} {Qd : D → List D → Prop} {Qe : Exn → List D → Prop} : sp_law_number [.int n] Qd Qe = (Qd (.bl true) []) := propext ⟨fun h => by
  obtain ⟨_, h, k⟩ := h
  cases h
  exact k, fun k => ⟨_, rfl, k⟩⟩
def sp_law_keeps : SpD := fun ds Qd _ => ∃ (ks vs xs bs : List D), ds = [.dct ks vs, .lst xs, .lst bs] ∧ ∃ (ys : List Str) (m : Str → Int) (l : List Bnd), ks = txs ys ∧ vs = (ys.map fun y => D.int (m y)) ∧ xs = txs ys ∧ bs = bds l ∧ Few ys ∧ (∀ b ∈ l, BdIn (sdsOf ys) b) ∧ Keeps ys l m ∧ Qd (.bl true) []
theorem len_law_keeps : ∀ ds Qd Qe, sp_law_keeps ds Qd Qe → ds.length = 3 := by rintro _ _ _ ⟨_, _, _, _, rfl, _⟩; rfl
theorem i_law_keeps {ks vs xs bs : List D} {Qd : D → List D → Prop} {Qe : Exn → List D → Prop} (h : ∃ (ys : List Str) (m : Str → Int) (l : List Bnd), ks = txs ys ∧ vs = (ys.map fun y => D.int (m y)) ∧ xs = txs ys ∧ bs = bds l ∧ Few ys ∧ (∀ b ∈ l, BdIn (sdsOf ys) b) ∧ Keeps ys l m ∧ Qd (.bl true) []) : sp_law_keeps [.dct ks vs, .lst xs, .lst bs] Qd Qe := ⟨_, _, _, _, rfl, h⟩
def sp_chain_shift : SpD := fun ds Qd _ => ∃ (x y z : D), ds = [x, y, z] ∧ ∃ (c : Ch) (l r : Sd), x = chD c ∧ y = sd l ∧ z = sd r ∧ Qd (oiD (cs c l r)) []
theorem len_chain_shift : ∀ ds Qd Qe, sp_chain_shift ds Qd Qe → ds.length = 3 := by rintro _ _ _ ⟨_, _, _, rfl, _⟩; rfl
theorem i_chain_shift {x y z : D} {Qd : D → List D → Prop} {Qe : Exn → List D → Prop} (h : ∃ (c : Ch) (l r : Sd), x = chD c ∧ y = sd l ∧ z = sd r ∧ Qd (oiD (cs c l r)) []) : sp_chain_shift [x, y, z] Qd Qe := ⟨_, _, _, rfl, h⟩
def sp_Bounds_tightest : SpD := fun ds Qd Qe => ∃ (o y z : D), ds = [o, y, z] ∧ ∃ (ys : List Str) (s : BS) (l r : Sd), o = BS.d ys s ∧ y = sd l ∧ z = sd r ∧ (s.cyc = none → Qd (oiD (cs s.ch l r)) []) ∧ ∀ p, s.cyc = some p → Qe ⟨"Contradiction", ["cycle"], [cyD s.cyc]⟩ []
theorem len_Bounds_tightest : ∀ ds Qd Qe, sp_Bounds_tightest ds Qd Qe → ds.length = 3 := by rintro _ _ _ ⟨_, _, _, rfl, _⟩; rfl
theorem i_Bounds_tightest {o y z : D} {Qd : D → List D → Prop} {Qe : Exn → List D → Prop} (h : ∃ (ys : List Str) (s : BS) (l r : Sd), o = BS.d ys s ∧ y = sd l ∧ z = sd r ∧ (s.cyc = none → Qd (oiD (cs s.ch l r)) []) ∧ ∀ p, s.cyc = some p → Qe ⟨"Contradiction", ["cycle"], [cyD s.cyc]⟩ []) : sp_Bounds_tightest [o, y, z] Qd Qe := ⟨_, _, _, rfl, h⟩
def sp_found_cycle : SpD := fun ds Qd _ => ∃ (x y z : D), ds = [x, y, z] ∧ ∃ (c : Ch) (b : Bnd) (p : Nat), x = chD c ∧ y = bd b.1 b.2.1 b.2.2 ∧ z = .int p ∧ b.1 ≠ b.2.1 ∧ (∀ k v, lk c k = some v → v.2.length ≤ 1000) ∧ ((∀ v, dst c b.2.1 b.1 = some v → 0 ≤ v.1 + b.2.2) → Qd .non []) ∧ ∀ v (l : List Nat), dst c b.2.1 b.1 = some v → v.1 + b.2.2 < 0 → l.Perm (v.2 ++ [p]) → l.Pairwise (· ≤ ·) → Qd (.tup (nats l)) []
theorem len_found_cycle : ∀ ds Qd Qe, sp_found_cycle ds Qd Qe → ds.length = 3 := by rintro _ _ _ ⟨_, _, _, rfl, _⟩; rfl
theorem i_found_cycle {x y z : D} {Qd : D → List D → Prop} {Qe : Exn → List D → Prop} (h : ∃ (c : Ch) (b : Bnd) (p : Nat), x = chD c ∧ y = bd b.1 b.2.1 b.2.2 ∧ z = .int p ∧ b.1 ≠ b.2.1 ∧ (∀ k v, lk c k = some v → v.2.length ≤ 1000) ∧ ((∀ v, dst c b.2.1 b.1 = some v → 0 ≤ v.1 + b.2.2) → Qd .non []) ∧ ∀ v (l : List Nat), dst c b.2.1 b.1 = some v → v.1 + b.2.2 < 0 → l.Perm (v.2 ++ [p]) → l.Pairwise (· ≤ ·) → Qd (.tup (nats l)) []) : sp_found_cycle [x, y, z] Qd Qe := ⟨_, _, _, rfl, h⟩
def sp_longer_chains : SpD := fun ds Qd _ => ∃ (x y z : D), ds = [x, y, z] ∧ ∃ (c : Ch) (b : Bnd) (p : Nat) (ss : List Sd), x = chD c ∧ y = bd b.1 b.2.1 b.2.2 ∧ z = .int p ∧ b.1 ≠ b.2.1 ∧ (∀ e ∈ c, e.2.2.length ≤ 1000) ∧ c.length ≤ 100 ∧ ChOk c ss ∧ Qd (chD (longerC c b.1 b.2.1 b.2.2 p)) []
theorem len_longer_chains : ∀ ds Qd Qe, sp_longer_chains ds Qd Qe → ds.length = 3 := by rintro _ _ _ ⟨_, _, _, rfl, _⟩; rfl
theorem i_longer_chains {x y z : D} {Qd : D → List D → Prop} {Qe : Exn → List D → Prop} (h : ∃ (c : Ch) (b : Bnd) (p : Nat) (ss : List Sd), x = chD c ∧ y = bd b.1 b.2.1 b.2.2 ∧ z = .int p ∧ b.1 ≠ b.2.1 ∧ (∀ e ∈ c, e.2.2.length ≤ 1000) ∧ c.length ≤ 100 ∧ ChOk c ss ∧ Qd (chD (longerC c b.1 b.2.1 b.2.2 p)) []) : sp_longer_chains [x, y, z] Qd Qe := ⟨_, _, _, rfl, h⟩
def sp_Bounds_add : SpD := fun ds Qd _ => ∃ (o y : D), ds = [o, y] ∧ ∃ (ys : List Str) (s : BS) (b : Bnd), o = BS.d ys s ∧ y = bd b.1 b.2.1 b.2.2 ∧ Few ys ∧ BOk ys s ∧ s.bs.length ≤ 100 ∧ BdIn (sdsOf ys) b ∧ ∀ s', Step s b.1 b.2.1 b.2.2 s' → Qd (BS.d ys s') []
theorem len_Bounds_add : ∀ ds Qd Qe, sp_Bounds_add ds Qd Qe → ds.length = 2 := by rintro _ _ _ ⟨_, _, rfl, _⟩; rfl
theorem i_Bounds_add {o y : D} {Qd : D → List D → Prop} {Qe : Exn → List D → Prop} (h : ∃ (ys : List Str) (s : BS) (b : Bnd), o = BS.d ys s ∧ y = bd b.1 b.2.1 b.2.2 ∧ Few ys ∧ BOk ys s ∧ s.bs.length ≤ 100 ∧ BdIn (sdsOf ys) b ∧ ∀ s', Step s b.1 b.2.1 b.2.2 s' → Qd (BS.d ys s') []) : sp_Bounds_add [o, y] Qd Qe := ⟨_, _, rfl, h⟩
def sp_Bounds_model : SpD := fun ds Qd Qe => ∃ (o : D), ds = [o] ∧ ∃ (ys : List Str) (s : BS), o = BS.d ys s ∧ Few ys ∧ BOk ys s ∧ s.bs.length ≤ 50 ∧ (s.cyc = none → ∀ m, Keeps ys s.bs m → Qd (.dct (txs ys) (ys.map fun y => D.int (m y))) []) ∧ ∀ p, s.cyc = some p → Qe ⟨"Contradiction", ["cycle"], [cyD s.cyc]⟩ []
theorem len_Bounds_model : ∀ ds Qd Qe, sp_Bounds_model ds Qd Qe → ds.length = 1 := by rintro _ _ _ ⟨_, rfl, _⟩; rfl
theorem i_Bounds_model {o : D} {Qd : D → List D → Prop} {Qe : Exn → List D → Prop} (h : ∃ (ys : List Str) (s : BS), o = BS.d ys s ∧ Few ys ∧ BOk ys s ∧ s.bs.length ≤ 50 ∧ (s.cyc = none → ∀ m, Keeps ys s.bs m → Qd (.dct (txs ys) (ys.map fun y => D.int (m y))) []) ∧ ∀ p, s.cyc = some p → Qe ⟨"Contradiction", ["cycle"], [cyD s.cyc]⟩ []) : sp_Bounds_model [o] Qd Qe := ⟨_, rfl, h⟩
def sp_law_is_a_cycle : SpD := fun ds Qd _ => ∃ (c xs bs : List D), ds = [.tup c, .lst xs, .lst bs] ∧ ∃ (l : List Nat) (ys : List Str) (m : List Bnd), c = nats l ∧ xs = txs ys ∧ bs = bds m ∧ m.length ≤ 100 ∧ IsCyc m l ∧ Qd (.bl true) []
theorem len_law_is_a_cycle : ∀ ds Qd Qe, sp_law_is_a_cycle ds Qd Qe → ds.length = 3 := by rintro _ _ _ ⟨_, _, _, rfl, _⟩; rfl
theorem i_law_is_a_cycle {c xs bs : List D} {Qd : D → List D → Prop} {Qe : Exn → List D → Prop} (h : ∃ (l : List Nat) (ys : List Str) (m : List Bnd), c = nats l ∧ xs = txs ys ∧ bs = bds m ∧ m.length ≤ 100 ∧ IsCyc m l ∧ Qd (.bl true) []) : sp_law_is_a_cycle [.tup c, .lst xs, .lst bs] Qd Qe := ⟨_, _, _, rfl, h⟩
def sp_law_contradicts : SpD := fun ds Qd _ => ∃ (o y z : D), ds = [o, y, z] ∧ ∃ (ys : List Str) (s : BS) (l r : Sd) (p : List Nat), o = BS.d ys s ∧ y = sd l ∧ z = sd r ∧ Few ys ∧ BOk ys s ∧ s.bs.length ≤ 50 ∧ s.cyc = some p ∧ Qd (.bl true) []
theorem len_law_contradicts : ∀ ds Qd Qe, sp_law_contradicts ds Qd Qe → ds.length = 3 := by rintro _ _ _ ⟨_, _, _, rfl, _⟩; rfl
theorem i_law_contradicts {o y z : D} {Qd : D → List D → Prop} {Qe : Exn → List D → Prop} (h : ∃ (ys : List Str) (s : BS) (l r : Sd) (p : List Nat), o = BS.d ys s ∧ y = sd l ∧ z = sd r ∧ Few ys ∧ BOk ys s ∧ s.bs.length ≤ 50 ∧ s.cyc = some p ∧ Qd (.bl true) []) : sp_law_contradicts [o, y, z] Qd Qe := ⟨_, _, _, rfl, h⟩
def sp_law_right : SpD := fun ds Qd _ => ∃ (o y z : D) (xs bs : List D), ds = [o, .lst xs, .lst bs, y, z] ∧ ∃ (ys : List Str) (s : BS) (l r : Sd), o = BS.d ys s ∧ y = sd l ∧ z = sd r ∧ xs = txs ys ∧ bs = bds s.bs ∧ Few ys ∧ BOk ys s ∧ s.bs.length ≤ 50 ∧ (∀ b ∈ s.bs, BdIn (sdsOf ys) b) ∧ Qd (.bl true) []
theorem len_law_right : ∀ ds Qd Qe, sp_law_right ds Qd Qe → ds.length = 5 := by rintro _ _ _ ⟨_, _, _, _, _, rfl, _⟩; rfl
theorem i_law_right {o y z : D} {xs bs : List D} {Qd : D → List D → Prop} {Qe : Exn → List D → Prop} (h : ∃ (ys : List Str) (s : BS) (l r : Sd), o = BS.d ys s ∧ y = sd l ∧ z = sd r ∧ xs = txs ys ∧ bs = bds s.bs ∧ Few ys ∧ BOk ys s ∧ s.bs.length ≤ 50 ∧ (∀ b ∈ s.bs, BdIn (sdsOf ys) b) ∧ Qd (.bl true) []) : sp_law_right [o, .lst xs, .lst bs, y, z] Qd Qe := ⟨_, _, _, _, _, rfl, h⟩
def sp_law : SpD := fun ds Qd _ => ∃ js : List D, ds = [.lck js] ∧ AllI js ∧ Qd (.bl true) []
theorem len_law : ∀ ds Qd Qe, sp_law ds Qd Qe → ds.length = 1 := by rintro _ _ _ ⟨_, rfl, _⟩; rfl
@[simp ↓] theorem u_law {js : List D} {Qd : D → List D → Prop} {Qe : Exn → List D → Prop} : sp_law [.lck js] Qd Qe = (AllI js ∧ Qd (.bl true) []) := propext ⟨fun h => by
  obtain ⟨_, h, k⟩ := h
  cases h
  exact k, fun k => ⟨_, rfl, k⟩⟩
end DL

namespace DL
open PySem L2

/-- _law_two_sides(state, sides); names 0:state 1:sides 2:left -/
def b_law_two_sides : TDS :=
 (dSeq (dSet 2 (dCallIO 0 sp_law_draw (dCons (dBlt lenD (dCons (dVar 1) dNil)) dNil))) (dRet (dLst (dCons (dOp ixD (dVar 1) (dVar 2)) (dCons (dOp ixD (dVar 1) (dOp modD (dBlt intD (dCons (dOp addD (dOp addD (dVar 2) (dC (.int 1))) (dCallIO 0 sp_law_draw (dCons (dOp subD (dBlt lenD (dCons (dVar 1) dNil)) (dC (.int 1))) dNil))) dNil)) (dBlt lenD (dCons (dVar 1) dNil)))) dNil)))))

/-- _law_shift(state, centres); names 0:state 1:centres 2:kind -/
def b_law_shift : TDS :=
 (dSeq (dSet 2 (dCallIO 0 sp_law_draw (dCons (dC (.int 8)) dNil))) (dSeq (dIfS (dTest (dOp ltD (dVar 2) (dC (.int 5)))) (dRet (dOp subD (dCallIO 0 sp_law_draw (dCons (dC (.int 9)) dNil)) (dC (.int 2)))) dNext) (dSeq (dIfS (dTest (dOp eqD (dVar 2) (dC (.int 5)))) (dRet (dOp subD (dC (.int 0)) (dCallIO 0 sp_law_draw (dCons (dC (.int 30)) dNil)))) dNext) (dRet (dCallIO 0 sp_law_near (dCons (dVar 1) dNil))))))

def b_law_some_bounds_1 : TDS :=
 (dIfS (dAnd (dTest (dOp gtD (dLenV 3) (dC (.int 0)))) (dTest (dOp eqD (dCallIO 0 sp_law_draw (dCons (dC (.int 4)) dNil)) (dC (.int 3))))) (dSeq (dSet 5 (dIxV 3 (dCallIO 0 sp_law_draw (dCons (dLenV 3) dNil)))) (dDrop (dLM 3 appM (dCons (dTup (dCons (dOp ixD (dVar 5) (dC (.int 1))) (dCons (dOp ixD (dVar 5) (dC (.int 0))) (dCons (dOp subD (dOp subD (dC (.int 0)) (dOp ixD (dVar 5) (dC (.int 2)))) (dCallIO 0 sp_law_draw (dCons (dC (.int 2)) dNil))) dNil)))) dNil)))) (dSeq (dSet 6 (dCallIO 0 sp_law_two_sides (dCons (dVar 1) dNil))) (dDrop (dLM 3 appM (dCons (dTup (dCons (dOp ixD (dVar 6) (dC (.int 0))) (dCons (dOp ixD (dVar 6) (dC (.int 1))) (dCons (dCallIO 0 sp_law_shift (dCons (dVar 2) dNil)) dNil)))) dNil)))))

/-- _law_some_bounds(state, sides, centres); names 0:state 1:sides 2:centres 3:found 4:k 5:bound 6:pair -/
def b_law_some_bounds : TDS :=
 (dSeq (dSetO 3 (dLst dNil)) (dSeq (dFor (diRng1 (dCons (dCallIO 0 sp_law_draw (dCons (dC (.int 8)) dNil)) dNil)) (dgName 4) b_law_some_bounds_1) (dRet (dVar 3))))

def b_law_ring_1 : TDS :=
 (dSeq (dSet 8 (dCallIO 0 sp_law_shift (dCons (dVar 2) dNil))) (dSeq (dSet 6 (dOp addD (dVar 6) (dVar 8))) (dDrop (dLM 5 appM (dCons (dTup (dCons (dOp ixD (dVar 1) (dOp modD (dBlt intD (dCons (dOp addD (dVar 3) (dVar 7)) dNil)) (dBlt lenD (dCons (dVar 1) dNil)))) (dCons (dOp ixD (dVar 1) (dOp modD (dBlt intD (dCons (dOp addD (dOp addD (dVar 3) (dVar 7)) (dC (.int 1))) dNil)) (dBlt lenD (dCons (dVar 1) dNil)))) (dCons (dVar 8) dNil)))) dNil)))))

def b_law_ring_2 : TDS :=
 (dIfS (dTest (dOp eqD (dCallIO 0 sp_law_draw (dCons (dC (.int 2)) dNil)) (dC (.int 1)))) (dSetO 5 (dLc [7] (diRng1 (dCons (dLenV 5) dNil)) (dgName 7) dYes (dIxV 5 (dOp subD (dOp subD (dLenV 5) (dC (.int 1))) (dVar 7))))) dNext)

/-- _law_ring(state, sides, centres); names 0:state 1:sides 2:centres 3:first 4:size 5:found 6:total 7:k 8:shift 9:last -/
def b_law_ring : TDS :=
 (dSeq (dSet 3 (dCallIO 0 sp_law_draw (dCons (dBlt lenD (dCons (dVar 1) dNil)) dNil))) (dSeq (dSet 4 (dOp addD (dC (.int 2)) (dCallIO 0 sp_law_draw (dCons (dOp subD (dBlt lenD (dCons (dVar 1) dNil)) (dC (.int 1))) dNil)))) (dSeq (dSetO 5 (dLst dNil)) (dSeq (dSet 6 (dC (.int 0))) (dSeq (dFor (diRng1 (dCons (dOp subD (dVar 4) (dC (.int 1))) dNil)) (dgName 7) b_law_ring_1) (dSeq (dSet 9 (dOp ixD (dLst (dCons (dC (.int 0)) (dCons (dOp subD (dC (.int 0)) (dC (.int 1))) (dCons (dOp subD (dC (.int 0)) (dC (.int 1))) (dCons (dCallIO 0 sp_law_shift (dCons (dVar 2) dNil)) dNil))))) (dCallIO 0 sp_law_draw (dCons (dC (.int 4)) dNil)))) (dSeq (dDrop (dLM 5 appM (dCons (dTup (dCons (dOp ixD (dVar 1) (dOp modD (dBlt intD (dCons (dOp subD (dOp addD (dVar 3) (dVar 4)) (dC (.int 1))) dNil)) (dBlt lenD (dCons (dVar 1) dNil)))) (dCons (dOp ixD (dVar 1) (dVar 3)) (dCons (dOp subD (dVar 9) (dVar 6)) dNil)))) dNil))) (dSeq b_law_ring_2 (dRet (dVar 5))))))))))

def b_Bounds_init_1 : TDS :=
 (dIfS (dTest (dOp (isD false) (dVar 1) (dC .non))) (dSet 1 (dTup (dCons (dTup dNil) (dCons (dC .non) (dCons dNewD dNil))))) dNext)

/-- Bounds.__init__(self, start, names); names 0:self 1:start 2:names -/
def b_Bounds_init : TDS :=
 (dSeq (dFldS 0 ["Bounds"] "names" (dVar 2)) (dSeq b_Bounds_init_1 (dSeq (dFldS 0 ["Bounds"] "added" (dOp ixD (dVar 1) (dC (.int 0)))) (dSeq (dFldS 0 ["Bounds"] "cycle" (dOp ixD (dVar 1) (dC (.int 1)))) (dFldS 0 ["Bounds"] "chains" (dOp ixD (dVar 1) (dC (.int 2))))))))

/-- _law_bounds_of(names); names 0:names -/
def b_law_bounds_of : TDS :=
 (dSeq (dIfS (dTest (dOp eqD (dBlt lenD (dCons (dVar 0) dNil)) (dC (.int 1)))) (dRet (dMake "Bounds" (stK 1 (.non) sp_Bounds_init) (dCons (dOp ixD (dVar 0) (dC (.int 0))) dNil))) dNext) (dSeq (dIfS (dTest (dOp eqD (dBlt lenD (dCons (dVar 0) dNil)) (dC (.int 2)))) (dRet (dMake "Bounds" (stK 1 (.non) sp_Bounds_init) (dCons (dOp ixD (dVar 0) (dC (.int 0))) (dCons (dOp ixD (dVar 0) (dC (.int 1))) dNil)))) dNext) (dSeq (dIfS (dTest (dOp eqD (dBlt lenD (dCons (dVar 0) dNil)) (dC (.int 3)))) (dRet (dMake "Bounds" (stK 1 (.non) sp_Bounds_init) (dCons (dOp ixD (dVar 0) (dC (.int 0))) (dCons (dOp ixD (dVar 0) (dC (.int 1))) (dCons (dOp ixD (dVar 0) (dC (.int 2))) dNil))))) dNext) (dRet (dMake "Bounds" (stK 1 (.non) sp_Bounds_init) (dCons (dOp ixD (dVar 0) (dC (.int 0))) (dCons (dOp ixD (dVar 0) (dC (.int 1))) (dCons (dOp ixD (dVar 0) (dC (.int 2))) (dCons (dOp ixD (dVar 0) (dC (.int 3))) dNil)))))))))

/-- _law_number(one); names 0:one -/
def b_law_number : TDS :=
 (dRet (dAndV (dIsi (isiInt []) (dVar 0)) (dNotV (dIsi (isiBool []) (dVar 0)))))

def b_law_keeps_1 : TDS :=
 (dIfS (dNot (dTru (dCall sp_law_number (dCons (dOp ixD (dVar 0) (dVar 3)) dNil)))) (dRet (dC (.bl false))) dNext)

def b_law_keeps_2 : TDS :=
 (dIfS (dTest (dOp (isD true) (dOp ixD (dVar 4) (dC (.int 0))) (dC .non))) (dSet 5 (dOp ixD (dVar 0) (dOp ixD (dVar 4) (dC (.int 0))))) dNext)

def b_law_keeps_3 : TDS :=
 (dIfS (dTest (dOp (isD true) (dOp ixD (dVar 4) (dC (.int 1))) (dC .non))) (dSet 6 (dOp ixD (dVar 0) (dOp ixD (dVar 4) (dC (.int 1))))) dNext)

def b_law_keeps_4 : TDS :=
 (dSeq (dSet 5 (dC (.int 0))) (dSeq (dSet 6 (dC (.int 0))) (dSeq b_law_keeps_2 (dSeq b_law_keeps_3 (dIfS (dTest (dOp gtD (dOp subD (dVar 5) (dVar 6)) (dOp ixD (dVar 4) (dC (.int 2))))) (dRet (dC (.bl false))) dNext)))))

/-- _law_keeps(model, names, bounds); names 0:model 1:names 2:bounds 3:name 4:bound 5:left 6:right -/
def b_law_keeps : TDS :=
 (dSeq (dIfS (dOr (dNot (dTru (dIsi (isiDct []) (dVar 0)))) (dNot (dTru (dCall sp_law_same (dCons (dListD (dVar 0)) (dCons (dVar 1) dNil)))))) (dRet (dC (.bl false))) dNext) (dSeq (dFor (diSeq (dVar 1)) (dgName 3) b_law_keeps_1) (dSeq (dFor (diSeq (dVar 2)) (dgName 4) b_law_keeps_4) (dRet (dC (.bl true))))))

/-- chain_shift(chains, left, right); names 0:chains 1:left 2:right -/
def b_chain_shift : TDS :=
 (dSeq (dIfS (dTest (dOp eqD (dVar 1) (dVar 2))) (dRet (dC (.int 0))) dNext) (dSeq (dIfS (dTest (dOp (inD false) (dTup (dCons (dVar 1) (dCons (dVar 2) dNil))) (dVar 0))) (dRet (dOp ixD (dOp ixD (dVar 0) (dTup (dCons (dVar 1) (dCons (dVar 2) dNil)))) (dC (.int 0)))) dNext) (dRet (dC .non))))

/-- Bounds.tightest(self, left, right); names 0:self 1:left 2:right -/
def b_Bounds_tightest : TDS :=
 (dSeq (dIfS (dTest (dOp (isD true) (dFld ["Bounds"] "cycle" (dVar 0)) (dC .non))) (dRaiseN "Contradiction" ["cycle"] (dCons (dFld ["Bounds"] "cycle" (dVar 0)) dNil)) dNext) (dRet (dCall sp_chain_shift (dCons (dFld ["Bounds"] "chains" (dVar 0)) (dCons (dVar 1) (dCons (dVar 2) dNil))))))

/-- found_cycle(chains, bound, place); names 0:chains 1:bound 2:place 3:back -/
def b_found_cycle : TDS :=
 (dSeq (dSet 3 (dCall sp_chain_shift (dCons (dVar 0) (dCons (dOp ixD (dVar 1) (dC (.int 1))) (dCons (dOp ixD (dVar 1) (dC (.int 0))) dNil))))) (dSeq (dIfS (dOr (dTest (dOp (isD false) (dVar 3) (dC .non))) (dTest (dOp geD (dOp addD (dVar 3) (dOp ixD (dVar 1) (dC (.int 2)))) (dC (.int 0))))) (dRet (dC .non)) dNext) (dRet (dBlt tupleD (dCons (dSorted (dOp addD (dList (dOp ixD (dOp ixD (dVar 0) (dTup (dCons (dOp ixD (dVar 1) (dC (.int 1))) (dCons (dOp ixD (dVar 1) (dC (.int 0))) dNil)))) (dC (.int 1)))) (dLst (dCons (dVar 2) dNil)))) dNil)))))

def b_longer_chains_1 : TDS :=
 (dRet (dCp [14] (.dct [] []) (diSeq (dOp addD (dListD (dVar 0)) (dListD (dVar 9)))) (dgName 14) dYes (emD (dVar 14) (dGet2 (dVar 9) (dVar 14) (dGet1 (dVar 0) (dVar 14))))))

def b_longer_chains_2 : TDS :=
 (dSeq (dSet 9 (dCp [14] (.dct [] []) (diSeq (dVar 8)) (dgName 14) (dOr (dTest (dOp (inD true) (dVar 14) (dVar 0))) (dTest (dOp ltD (dOp ixD (dOp ixD (dVar 8) (dVar 14)) (dC (.int 0))) (dOp ixD (dOp ixD (dVar 0) (dVar 14)) (dC (.int 0)))))) (emD (dVar 14) (dOp ixD (dVar 8) (dVar 14))))) b_longer_chains_1)

def b_longer_chains_3 : TDS :=
 (dSeq (dSet 8 (dCp [10, 12, 11, 13] (.dct [] []) (diSeq (dVar 6)) (dgTup 2 (dgCons (dgName 10) (dgCons (dgName 12) dgNil))) dYes (dCl (diSeq (dVar 7)) (dgTup 2 (dgCons (dgName 11) (dgCons (dgName 13) dgNil))) (dTest (dOp neD (dVar 10) (dVar 11))) (emD (dTup (dCons (dVar 10) (dCons (dVar 11) dNil))) (dTup (dCons (dOp addD (dOp addD (dOp ixD (dVar 12) (dC (.int 0))) (dVar 5)) (dOp ixD (dVar 13) (dC (.int 0)))) (dCons (dOp addD (dOp addD (dOp ixD (dVar 12) (dC (.int 1))) (dTup (dCons (dVar 2) dNil))) (dOp ixD (dVar 13) (dC (.int 1)))) dNil))))))) b_longer_chains_2)

def b_longer_chains_4 : TDS :=
 (dSeq (dSet 7 (dOp addD (dLst (dCons (dTup (dCons (dVar 4) (dCons (dTup (dCons (dC (.int 0)) (dCons (dTup dNil) dNil))) dNil))) dNil)) (dCp [10, 11] (.lst []) (diSeq (dVar 0)) (dgTup 2 (dgCons (dgName 10) (dgCons (dgName 11) dgNil))) (dTest (dOp eqD (dVar 10) (dVar 4))) (emL (dTup (dCons (dVar 11) (dCons (dOp ixD (dVar 0) (dTup (dCons (dVar 10) (dCons (dVar 11) dNil)))) dNil))))))) b_longer_chains_3)

def b_longer_chains_5 : TDS :=
 (dSeq (dSet 6 (dOp addD (dLst (dCons (dTup (dCons (dVar 3) (dCons (dTup (dCons (dC (.int 0)) (dCons (dTup dNil) dNil))) dNil))) dNil)) (dCp [10, 11] (.lst []) (diSeq (dVar 0)) (dgTup 2 (dgCons (dgName 10) (dgCons (dgName 11) dgNil))) (dTest (dOp eqD (dVar 11) (dVar 3))) (emL (dTup (dCons (dVar 10) (dCons (dOp ixD (dVar 0) (dTup (dCons (dVar 10) (dCons (dVar 11) dNil)))) dNil))))))) b_longer_chains_4)

/-- longer_chains(chains, bound, place); names 0:chains 1:bound 2:place 3:left 4:right 5:shift 6:heads 7:tails 8:joined 9:shorter 10:first 11:last 12:before 13:behind 14:sides -/
def b_longer_chains : TDS :=
 (dSeq (dAsg (dVar 1) (dgTup 3 (dgCons (dgName 3) (dgCons (dgName 4) (dgCons (dgName 5) dgNil))))) b_longer_chains_5)

def b_Bounds_add_1 : TDS :=
 (dIfS (dAnd (dTest (dOp (isD true) (dVar 2) (dC .non))) (dTest (dOp (inD true) (dVar 2) (dFld ["Bounds"] "names" (dVar 0))))) dNever dNext)

def b_Bounds_add_2 : TDS :=
 (dIfS (dTest (dOp (isD false) (dVar 5) (dC .non))) (dSet 5 (dCall sp_found_cycle (dCons (dVar 6) (dCons (dVar 1) (dCons (dVar 3) dNil))))) dNext)

def b_Bounds_add_3 : TDS :=
 (dIfS (dTest (dOp (isD false) (dVar 5) (dC .non))) (dSet 6 (dCall sp_longer_chains (dCons (dVar 6) (dCons (dVar 1) (dCons (dVar 3) dNil))))) dNext)

/-- Bounds.__add__(self, bound); names 0:self 1:bound 2:side 3:place 4:whole 5:cycle 6:chains -/
def b_Bounds_add : TDS :=
 (dSeq (dFor (diSeq (dTup (dCons (dOp ixD (dVar 1) (dC (.int 0))) (dCons (dOp ixD (dVar 1) (dC (.int 1))) dNil)))) (dgName 2) b_Bounds_add_1) (dSeq (dSet 3 (dBlt lenD (dCons (dFld ["Bounds"] "added" (dVar 0)) dNil))) (dSeq (dSet 4 (dOp addD (dFld ["Bounds"] "added" (dVar 0)) (dTup (dCons (dTup (dCons (dOp ixD (dVar 1) (dC (.int 0))) (dCons (dOp ixD (dVar 1) (dC (.int 1))) (dCons (dOp ixD (dVar 1) (dC (.int 2))) dNil)))) dNil)))) (dSeq (dSet 5 (dFld ["Bounds"] "cycle" (dVar 0))) (dSeq (dSet 6 (dFld ["Bounds"] "chains" (dVar 0))) (dSeq b_Bounds_add_2 (dSeq b_Bounds_add_3 (dRet (dMake "Bounds" (kwS 1 sp_Bounds_init) (dLoneK 1 (dFld ["Bounds"] "names" (dVar 0)) (dCons (dTup (dCons (dVar 4) (dCons (dVar 5) (dCons (dVar 6) dNil)))) dNil)))))))))))

def b_Bounds_model_1 : TDS :=
 (dIfS (dAnd (dTest (dOp (isD true) (dVar 4) (dC .non))) (dTest (dOp ltD (dVar 4) (dC (.int 0))))) (dSet 3 (dUn negD (dVar 4))) dNext)

def b_Bounds_model_2 : TDS :=
 (dIfS (dTest (dOp (isD false) (dMeth "Bounds" "tightest" sp_Bounds_tightest (dVar 1) (dCons (dVar 2) (dCons (dC .non) dNil))) (dC .non))) (dSeq (dSet 3 (dC (.int 0))) (dSeq (dSet 4 (dMeth "Bounds" "tightest" sp_Bounds_tightest (dVar 1) (dCons (dC .non) (dCons (dVar 2) dNil)))) (dSeq b_Bounds_model_1 (dSet 1 (dOwnT "Bounds" sp_Bounds_add (dVar 1) (dTup (dCons (dVar 2) (dCons (dC .non) (dCons (dVar 3) dNil))))))))) dNext)

/-- Bounds.model(self); names 0:self 1:limited 2:name 3:top 4:low -/
def b_Bounds_model : TDS :=
 (dSeq (dSet 1 (dVar 0)) (dSeq (dFor (diSeq (dFld ["Bounds"] "names" (dVar 0))) (dgName 2) b_Bounds_model_2) (dRet (dCp [2] (.dct [] []) (diSeq (dFld ["Bounds"] "names" (dVar 0))) (dgName 2) dYes (emD (dVar 2) (dMeth "Bounds" "tightest" sp_Bounds_tightest (dVar 1) (dCons (dVar 2) (dCons (dC .non) dNil))))))))

def b_law_is_a_cycle_1 : TDS :=
 (dSeq (dIfS (dOr (dNot (dTru (dCall sp_law_number (dCons (dVar 7) dNil)))) (dOr (dTest (dOp leD (dVar 7) (dVar 3))) (dTest (dOp geD (dVar 7) (dBlt lenD (dCons (dVar 2) dNil)))))) (dRet (dC (.bl false))) dNext) (dSeq (dSet 3 (dVar 7)) (dSeq (dSet 4 (dOp addD (dVar 4) (dOp ixD (dOp ixD (dVar 2) (dVar 7)) (dC (.int 2))))) (dSeq (dDrop (dLM 5 appM (dCons (dOp ixD (dOp ixD (dVar 2) (dVar 7)) (dC (.int 0))) dNil))) (dDrop (dLM 6 appM (dCons (dOp ixD (dOp ixD (dVar 2) (dVar 7)) (dC (.int 1))) dNil)))))))

def b_law_is_a_cycle_2 : TDS :=
 (dIfS (dTest (dOp neD (dLM 5 cntM (dCons (dVar 8) dNil)) (dLM 6 cntM (dCons (dVar 8) dNil)))) (dRet (dC (.bl false))) dNext)

/-- _law_is_a_cycle(cycle, names, bounds); names 0:cycle 1:names 2:bounds 3:last 4:total 5:lefts 6:rights 7:place 8:name -/
def b_law_is_a_cycle : TDS :=
 (dSeq (dIfS (dOr (dNot (dTru (dIsi (isiTup []) (dVar 0)))) (dTest (dOp eqD (dBlt lenD (dCons (dVar 0) dNil)) (dC (.int 0))))) (dRet (dC (.bl false))) dNext) (dSeq (dSet 3 (dOp subD (dC (.int 0)) (dC (.int 1)))) (dSeq (dSet 4 (dC (.int 0))) (dSeq (dSetO 5 (dLst dNil)) (dSeq (dSetO 6 (dLst dNil)) (dSeq (dFor (diSeq (dVar 0)) (dgName 7) b_law_is_a_cycle_1) (dSeq (dFor (diSeq (dVar 1)) (dgName 8) b_law_is_a_cycle_2) (dRet (dOp ltD (dVar 4) (dC (.int 0)))))))))))

def b_law_contradicts_1 : TDS :=
 (dDrop (dLM 3 appM (dCons (dMeth "Bounds" "model" sp_Bounds_model (dVar 0) dNil) dNil)))

def b_law_contradicts_2 : TDS :=
 (dDrop (dLM 3 appM (dCons (dMeth "Bounds" "tightest" sp_Bounds_tightest (dVar 0) (dCons (dVar 1) (dCons (dVar 2) dNil))) dNil)))

/-- _law_contradicts(one, left, right); names 0:one 1:left 2:right 3:told 4:e -/
def b_law_contradicts : TDS :=
 (dSeq (dSetO 3 (dLst dNil)) (dSeq (dTry b_law_contradicts_1 [⟨["Contradiction"], ["UnknownColumn"], (some 4), fun a1 cls1 d1 => (dIfS (dOr (dNot (dTru (dXi a1 cls1 d1 4 [("Contradiction", true)]))) (dOr (dTru (dXi a1 cls1 d1 4 [("Contradiction", false)])) (dNot (dTru (dCall sp_law_same (dCons (dXf a1 cls1 d1 4 ["Contradiction"] "cycle") (dCons (dFld ["Bounds"] "cycle" (dVar 0)) dNil))))))) (dRet (dC (.bl false))) dNext)⟩]) (dSeq (dTry b_law_contradicts_2 [⟨["Contradiction"], ["UnknownColumn"], (some 4), fun a1 cls1 d1 => (dIfS (dNot (dTru (dCall sp_law_same (dCons (dXf a1 cls1 d1 4 ["Contradiction"] "cycle") (dCons (dFld ["Bounds"] "cycle" (dVar 0)) dNil))))) (dRet (dC (.bl false))) dNext)⟩]) (dRet (dOp eqD (dLenV 3) (dC (.int 0)))))))

/-- _law_right(one, names, bounds, left, right); names 0:one 1:names 2:bounds 3:left 4:right -/
def b_law_right : TDS :=
 (dSeq (dIfS (dTest (dOp (isD false) (dFld ["Bounds"] "cycle" (dVar 0)) (dC .non))) (dRet (dCall sp_law_keeps (dCons (dMeth "Bounds" "model" sp_Bounds_model (dVar 0) dNil) (dCons (dVar 1) (dCons (dVar 2) dNil))))) dNext) (dRet (dAndV (dCall sp_law_is_a_cycle (dCons (dFld ["Bounds"] "cycle" (dVar 0)) (dCons (dVar 1) (dCons (dVar 2) dNil)))) (dCall sp_law_contradicts (dCons (dVar 0) (dCons (dVar 3) (dCons (dVar 4) dNil)))))))

def b_law_1 : TDS :=
 (dIfS (dTest (dOp eqD (dCallIO 1 sp_law_draw (dCons (dC (.int 2)) dNil)) (dC (.int 1)))) (dSeq (dSet 6 (dCallIO 1 sp_law_draw (dCons (dOp addD (dBlt lenD (dCons (dVar 5) dNil)) (dC (.int 1))) dNil))) (dSet 5 (dOp addD (dOp addD (dSl (dVar 5) dNoP (dSomeP (dVar 6))) (dCallIO 1 sp_law_ring (dCons (dVar 3) (dCons (dVar 4) dNil)))) (dSl (dVar 5) (dSomeP (dVar 6)) dNoP)))) dNext)

def b_law_2 : TDS :=
 (dSeq (dDrop (dLM 7 appM (dCons (dOwnT "Bounds" sp_Bounds_add (dIxV 7 (dVar 8)) (dOp ixD (dVar 5) (dVar 8))) dNil))) (dSeq (dSet 9 (dCallIO 1 sp_law_two_sides (dCons (dVar 3) dNil))) (dSeq (dIfS (dNot (dTru (dCall sp_law_right (dCons (dIxV 7 (dOp addD (dVar 8) (dC (.int 1)))) (dCons (dVar 2) (dCons (dSl (dVar 5) dNoP (dSomeP (dOp addD (dVar 8) (dC (.int 1))))) (dCons (dOp ixD (dVar 9) (dC (.int 0))) (dCons (dOp ixD (dVar 9) (dC (.int 1))) dNil)))))))) (dRet (dC (.bl false))) dNext) (dIfS (dAnd (dTest (dOp (isD true) (dFld ["Bounds"] "cycle" (dIxV 7 (dVar 8))) (dC .non))) (dNot (dTru (dCall sp_law_same (dCons (dFld ["Bounds"] "cycle" (dIxV 7 (dOp addD (dVar 8) (dC (.int 1))))) (dCons (dFld ["Bounds"] "cycle" (dIxV 7 (dVar 8))) dNil)))))) (dRet (dC (.bl false))) dNext))))

def b_law_3 : TDS :=
 (dSeq (dFor (diRng1 (dCons (dBlt lenD (dCons (dVar 5) dNil)) dNil)) (dgName 8) b_law_2) (dSeq (dSet 6 (dCallIO 1 sp_law_draw (dCons (dLenV 7) dNil))) (dRet (dAndV (dCall sp_law_right (dCons (dIxV 7 (dVar 6)) (dCons (dVar 2) (dCons (dSl (dVar 5) dNoP (dSomeP (dVar 6))) (dCons (dOp ixD (dVar 2) (dC (.int 0))) (dCons (dC .non) dNil)))))) (dCall sp_law_same (dCons (dFld ["Bounds"] "added" (dIxV 7 (dVar 6))) (dCons (dBlt tupleD (dCons (dSl (dVar 5) dNoP (dSomeP (dVar 6))) dNil)) dNil)))))))

def b_law_4 : TDS :=
 (dSeq (dSetO 7 (dLst (dCons (dCall sp_law_bounds_of (dCons (dVar 2) dNil)) dNil))) (dSeq (dIfS (dNot (dTru (dCall sp_law_right (dCons (dIxV 7 (dC (.int 0))) (dCons (dVar 2) (dCons (dLst dNil) (dCons (dC .non) (dCons (dOp ixD (dVar 2) (dC (.int 0))) dNil)))))))) (dRet (dC (.bl false))) dNext) b_law_3))

def b_law_5 : TDS :=
 (dSeq b_law_1 b_law_4)

/-- law(script); names 0:script 1:state 2:names 3:sides 4:centres 5:bounds 6:at 7:made 8:k 9:pair -/
def b_law : TDS :=
 (dSeq (dSetO 1 (dCall sp_law_start (dCons (dVar 0) dNil))) (dSeq (dSet 2 (dCallIO 1 sp_law_names (dCons (dOp addD (dC (.int 1)) (dCallIO 1 sp_law_draw (dCons (dC (.int 4)) dNil))) dNil))) (dSeq (dSet 3 (dOp addD (dLst (dCons (dC .non) dNil)) (dVar 2))) (dSeq (dSet 4 (dCallIO 1 sp_law_centres dNil)) (dSeq (dSet 5 (dCallIO 1 sp_law_some_bounds (dCons (dVar 3) (dCons (dVar 4) dNil)))) b_law_5)))))

end DL

namespace DL
open PySem L2

theorem rd_law_number : ∀ ds Qd Qe, sp_law_number ds Qd Qe → b_law_number (endsD [] Qd Qe) (startE 1 [] ds) := by
  rintro ds Qd Qe ⟨n, rfl, h⟩
  simpa [b_law_number, startE, isiInt, isiBool] using h
theorem rd_Bounds_init : ∀ ds Qd Qe, sp_Bounds_init ds Qd Qe → b_Bounds_init (endsD [0] Qd Qe) (startE 3 [0] ds) := by
  rintro ds Qd Qe ⟨x, l, rfl, a, b, c, h1, h⟩
  rcases h1 with rfl | ⟨rfl, rfl, rfl, rfl⟩
  · simp [b_Bounds_init, b_Bounds_init_1, startE, putF', isNon]
    exact h
  · simp [b_Bounds_init, b_Bounds_init_1, startE, putF', isNon]
    exact h
theorem rd_law_bounds_of : ∀ ds Qd Qe, sp_law_bounds_of ds Qd Qe → b_law_bounds_of (endsD [] Qd Qe) (startE 1 [] ds) := by
  rintro ds Qd Qe ⟨m, rfl, ys, rfl, h1, h2, h⟩
  match ys, h1, h2, h with
  | [a], _, _, h =>
    simp [b_law_bounds_of, startE, txs]
    exact i_Bounds_init ⟨_, _, _, .inr ⟨rfl, rfl, rfl, rfl⟩, rfl, h⟩
  | [a, b], _, _, h =>
    simp [b_law_bounds_of, startE, txs]
    exact i_Bounds_init ⟨_, _, _, .inr ⟨rfl, rfl, rfl, rfl⟩, rfl, h⟩
  | [a, b, c], _, _, h =>
    simp [b_law_bounds_of, startE, txs]
    exact i_Bounds_init ⟨_, _, _, .inr ⟨rfl, rfl, rfl, rfl⟩, rfl, h⟩
  | [a, b, c, d], _, _, h =>
    simp [b_law_bounds_of, startE, txs]
    exact i_Bounds_init ⟨_, _, _, .inr ⟨rfl, rfl, rfl, rfl⟩, rfl, h⟩
theorem at_sds {ss : List Sd} {r : Int} (h0 : 0 ≤ r) (h1 : r < ss.length) : ∃ x, ss[r.toNat]? = some x ∧ x ∈ ss ∧ atI (ss.map sd) r = some (sd x) := by
  have hl : r.toNat < ss.length := by omega
  refine ⟨ss[r.toNat], List.getElem?_eq_getElem hl, List.getElem_mem hl, ?_⟩
  have e : r = (r.toNat : Int) := by omega
  rw [atI_nonneg (i := r) (j := r.toNat) e, List.getElem?_map, List.getElem?_eq_getElem hl]
  rfl
theorem nd_ne {α : Type} {l : List α} (n : l.Nodup) {i j : Nat} {a b : α} (hi : l[i]? = some a) (hj : l[j]? = some b) (h : i ≠ j) : a ≠ b := fun e => h (by
  subst e
  exact (List.getElem?_inj (List.getElem?_eq_some_iff.mp hi).1 n).mp (hi.trans hj.symm))
theorem fmod_pos {a b : Int} (ha : 0 ≤ a) (hb : 0 < b) : a.fmod b = a % b := Int.fmod_eq_emod_of_nonneg _ (Int.le_of_lt hb)
theorem mod_two {r q n : Int} (h0 : 0 ≤ r) (h1 : r < n) (h2 : 0 ≤ q) (h3 : q < n - 1) : 0 ≤ (r + 1 + q).fmod n ∧ (r + 1 + q).fmod n < n ∧ (r + 1 + q).fmod n ≠ r := by
  rw [fmod_pos (by omega) (by omega)]
  have a := Int.emod_nonneg (r + 1 + q) (b := n) (by omega)
  have b := Int.emod_lt_of_pos (r + 1 + q) (b := n) (by omega)
  refine ⟨a, b, fun e => ?_⟩
  by_cases c : r + 1 + q < n
  · rw [Int.emod_eq_of_lt (by omega) c] at e
    omega
  · have : (r + 1 + q) % n = (r + 1 + q - n) % n := by rw [Int.sub_emod_right]
    rw [this, Int.emod_eq_of_lt (by omega) (by omega)] at e
    omega
theorem rd_law_two_sides : ∀ ds Qd Qe, sp_law_two_sides ds Qd Qe → b_law_two_sides (endsD [0] Qd Qe) (startE 3 [0] ds) := by
  rintro ds Qd Qe ⟨st, m, rfl, s0, ss, rfl, ⟨n, h2, h10⟩, h⟩
  simp [b_law_two_sides, startE, s0, sds]
  refine ⟨many_ok (by omega) (by omega), fun r st1 r0 r1 s1 => ?_⟩
  obtain ⟨x, x1, x2, x3⟩ := at_sds r0 r1
  refine ⟨_, x3, s1, many_ok (by omega) (by omega), fun q st2 q0 q1 s2 => ⟨fun e => (by rw [e] at h2; simp at h2), ?_⟩⟩
  obtain ⟨m0, m1, m2⟩ := mod_two r0 r1 q0 q1
  obtain ⟨y, y1, y2, y3⟩ := at_sds m0 m1
  exact ⟨_, y3, h x y st2 x2 y2 (nd_ne n x1 y1 (by omega)) s2⟩
theorem rd_law_shift : ∀ ds Qd Qe, sp_law_shift ds Qd Qe → b_law_shift (endsD [0] Qd Qe) (startE 3 [0] ds) := by
  rintro ds Qd Qe ⟨st, c, rfl, s0, hc, h⟩
  simp [b_law_shift, startE, s0]
  refine ⟨many_ok (by omega) (by omega), fun r st1 r0 r1 s1 => ?_⟩
  split
  · exact ⟨s1, many_ok (by omega) (by omega), fun q st2 q0 q1 s2 => h _ st2 s2⟩
  · split
    · exact ⟨s1, many_ok (by omega) (by omega), fun q st2 q0 q1 s2 => h _ st2 s2⟩
    · exact ⟨s1, hc, fun n st2 _ s2 => h n st2 s2⟩
theorem len_bds (l : List Bnd) : (bds l).length = l.length := by simp [bds]
theorem at_bds {l : List Bnd} {r : Int} (h0 : 0 ≤ r) (h1 : r < l.length) : ∃ b, b ∈ l ∧ atI (bds l) r = some (bd b.1 b.2.1 b.2.2) := by
  have hl : r.toNat < l.length := by omega
  refine ⟨l[r.toNat], List.getElem_mem hl, ?_⟩
  have e : r = (r.toNat : Int) := by omega
  unfold bds
  rw [atI_nonneg (i := r) (j := r.toNat) e, List.getElem?_map, List.getElem?_eq_getElem hl]
  rfl
theorem bds_snoc (l : List Bnd) (b : Bnd) : bds l ++ [bd b.1 b.2.1 b.2.2] = bds (l ++ [b]) := by simp [bds]
theorem all_snoc {ss : List Sd} {l : List Bnd} {b : Bnd} (h : ∀ b ∈ l, BdIn ss b) (hb : BdIn ss b) : ∀ x ∈ l ++ [b], BdIn ss x := fun x hx => by
  rcases List.mem_append.mp hx with m | m
  · exact h x m
  · rw [List.mem_singleton] at m
    rw [m]
    exact hb
theorem rd_law_some_bounds : ∀ ds Qd Qe, sp_law_some_bounds ds Qd Qe → b_law_some_bounds (endsD [0] Qd Qe) (startE 7 [0] ds) := by
  rintro ds Qd Qe ⟨st, m, c, rfl, s0, hc, ss, rfl, hs, h⟩
  simp [b_law_some_bounds, startE, s0]
  refine ⟨many_ok (by omega) (by omega), fun r st r0 r1 s1 => ⟨by omega, by omega, ?_⟩⟩
  refine loop_inv (fun i en => ∃ (bs : List Bnd) (st : D) (a4 a5 a6 : Option Ent), en = [some (.ow true st), some (.fz (.lst (sds ss))), some (.fz c), some (.ow false (.lst (bds bs))), a4, a5, a6] ∧ bs.length = i ∧ (∀ b ∈ bs, BdIn ss b) ∧ StOk st) _ ?_ ?_ _ ⟨[], st, _, _, _, rfl, rfl, by simp, s1⟩
  · rintro i d en N hd ⟨bs, st, a4, a5, a6, rfl, hl, hb, s0⟩ k
    obtain ⟨hi, rfl⟩ := range_at hd
    have fin : ∀ (b : Bnd) st a4 a5 a6, BdIn ss b → StOk st → N [some (.ow true st), some (.fz (.lst (sds ss))), some (.fz c), some (.ow false (.lst (bds bs ++ [bd b.1 b.2.1 b.2.2]))), a4, a5, a6] := fun b st a4 a5 a6 hb' s' => k _ ⟨bs ++ [b], st, a4, a5, a6, by rw [bds_snoc], by simp [hl], all_snoc hb hb', s'⟩
    have other : ∀ st a4 a5 (a6 : Option Ent) (Qx : Exn → List D → Prop), StOk st → sp_law_two_sides [st, D.lst (sds ss)] (fun r outs => match outs with
        | [d'] => ixD r (D.int 0) fun z => ixD r (D.int 1) fun z_1 => StOk d' ∧ cenOk c ∧ ∀ (n : Int) (st' : D), StOk st' → (bds bs).length < 16777216 ∧ N [some (.ow true st'), some (.fz (.lst (sds ss))), some (.fz c), some (.ow false (.lst (bds bs ++ [D.tup [z, z_1, D.int n]]))), a4, a5, some (.fz r)]
        | _ => False) Qx := fun st a4 a5 a6 Qx s' => i_law_two_sides ⟨s', ss, rfl, hs, fun x y st2 hx hy ne s2 => by
          simp
          exact ⟨s2, hc, fun n st3 s3 => ⟨by rw [len_bds]; omega, fin (x, y, n) st3 a4 a5 _ ⟨ne, hx, hy⟩ s3⟩⟩⟩
    have hsz : bs.length < 16777216 := by omega
    simp [b_law_some_bounds_1, s0]
    split
    · refine ⟨many_ok (by omega) (by omega), fun r st1 r0 r1 s1 => ?_⟩
      split
      · rw [len_bds]
        refine ⟨s1, many_ok (by rw [len_bds] at *; omega) (by omega), fun q st2 q0 q1 s2 => ?_⟩
        obtain ⟨b, hb', e⟩ := at_bds q0 q1
        refine ⟨_, e, ?_⟩
        simp [bd, s2]
        exact ⟨many_ok (by omega) (by omega), fun u st3 u0 u1 s3 => ⟨by omega, fin (b.2.1, b.1, -b.2.2 - u) st3 _ _ _ ⟨fun e => (hb b hb').1 e.symm, (hb b hb').2.2, (hb b hb').2.1⟩ s3⟩⟩
      · exact other st1 _ _ none _ s1
    · exact other st _ _ none _ s0
  · rintro en ⟨bs, st, a4, a5, a6, rfl, hl, hb, s0⟩
    simp
    rw [range_len] at hl
    exact h bs st (by omega) hb s0
theorem rd_law_ring : ∀ ds Qd Qe, sp_law_ring ds Qd Qe → b_law_ring (endsD [0] Qd Qe) (startE 10 [0] ds) := by
  rintro ds Qd Qe ⟨st, m, c, rfl, s0, hc, ss, rfl, hs, h⟩
  obtain ⟨nd, h2, h10⟩ := hs
  have ls : (sds ss).length = ss.length := by simp [sds]
  simp [b_law_ring, startE, s0, ls]
  refine ⟨many_ok (by omega) (by omega), fun f st f0 f1 s1 => ⟨s1, many_ok (by omega) (by omega), fun z st z0 z1 s2 => ⟨by omega, by omega, ?_⟩⟩⟩
  refine loop_inv (fun i en => ∃ (bs : List Bnd) (st : D) (tot : Int) (a7 a8 a9 : Option Ent), en = [some (.ow true st), some (.fz (.lst (sds ss))), some (.fz c), some (.fz (.int f)), some (.fz (.int (2 + z))), some (.ow false (.lst (bds bs))), some (.fz (.int tot)), a7, a8, a9] ∧ bs.length = i ∧ (∀ b ∈ bs, BdIn ss b) ∧ StOk st) _ ?_ ?_ _ ⟨[], st, 0, _, _, _, rfl, rfl, by simp, s2⟩
  · rintro i d en N hd ⟨bs, st, tot, a7, a8, a9, rfl, hl, hb, s0⟩ k
    obtain ⟨hi, rfl⟩ := range_at hd
    simp [b_law_ring_1, s0, hc]
    intro n st1 s1
    have hn : ss ≠ [] := fun e => by rw [e] at h2; simp at h2
    have hn' : sds ss ≠ [] := fun e => by rw [e] at ls; simp at ls; omega
    have a0 : 0 ≤ (f + i).fmod ss.length ∧ (f + i).fmod ss.length < ss.length := fmod_range (by omega)
    obtain ⟨x, x1, x2, x3⟩ := at_sds a0.1 a0.2
    have b0 := mod_two (q := 0) a0.1 a0.2 (by omega) (by omega)
    have e1 : ((f + i).fmod ss.length + 1 + 0).fmod ss.length = (f + i + 1).fmod ss.length := by
      rw [fmod_pos (by omega) (by omega), fmod_pos (by omega) (by omega), fmod_pos (by omega) (by omega), Int.add_zero, Int.emod_add_emod]
    rw [e1] at b0
    obtain ⟨y, y1, y2, y3⟩ := at_sds b0.1 b0.2.1
    rw [ls]
    refine ⟨hn', _, x3, hn', _, y3, by rw [len_bds]; omega, k _ ⟨bs ++ [(x, y, n)], st1, tot + n, _, _, _, by rw [← bds_snoc]; rfl, by simp [hl], all_snoc hb ⟨nd_ne nd x1 y1 (by omega), x2, y2⟩, s1⟩⟩
  · rintro en ⟨bs, st, tot, a7, a8, a9, rfl, hl, hb, s0⟩
    rw [range_len] at hl
    simp [s0, hc]
    intro n st1 s1
    refine ⟨s1, many_ok (by omega) (by omega), fun r st2 r0 r1 s2 => ?_⟩
    have hn' : sds ss ≠ [] := fun e => by rw [e] at ls; simp at ls; omega
    obtain ⟨dv, hdv⟩ := atI_some (l := [D.int 0, D.int (-1), D.int (-1), D.int n]) (i := r) (by simp; omega) (by simp; omega)
    obtain ⟨j, rfl⟩ : ∃ j : Int, dv = .int j := by
      have := atI_mem hdv
      simp at this
      rcases this with rfl | rfl | rfl <;> exact ⟨_, rfl⟩
    have b0 := mod_two (q := z) f0 f1 z0 z1
    have e1 : f + (2 + z) - 1 = f + 1 + z := by omega
    rw [e1, ls]
    obtain ⟨x, x1, x2, x3⟩ := at_sds b0.1 b0.2.1
    obtain ⟨y, y1, y2, y3⟩ := at_sds f0 f1
    refine ⟨_, hdv, hn', _, x3, _, y3, ?_⟩
    simp
    have hB := all_snoc hb (show BdIn ss (x, y, j - tot) from ⟨nd_ne nd x1 y1 (by omega), x2, y2⟩)
    have hE : bds bs ++ [D.tup [sd x, sd y, D.int (j - tot)]] = bds (bs ++ [(x, y, j - tot)]) := bds_snoc bs (x, y, j - tot)
    have hL : (bs ++ [(x, y, j - tot)]).length ≤ 10 := by simp; omega
    rw [hE]
    generalize bs ++ [(x, y, j - tot)] = bs2 at hB hL
    refine ⟨by rw [len_bds]; omega, ?_⟩
    simp [b_law_ring_2, s2]
    refine ⟨many_ok (by omega) (by omega), fun u st3 u0 u1 s3 => ?_⟩
    split
    · rw [len_bds]
      refine ⟨by omega, ?_⟩
      refine lc_inv (fun i acc en => ∃ (xs : List Bnd) (e7 : Option Ent), acc = bds xs ∧ xs.length = i ∧ (∀ b ∈ xs, BdIn ss b) ∧ en = [some (Ent.ow true st3), some (Ent.fz (D.lst (sds ss))), some (Ent.fz c), some (Ent.fz (D.int f)), some (Ent.fz (D.int (2 + z))), some (Ent.ow false (D.lst (bds bs2))), some (Ent.fz (D.int tot)), e7, a8, some (Ent.fz (D.int j))]) _ ?_ ?_ _ _ ⟨[], none, rfl, rfl, by simp, rfl⟩
      · rintro i d acc en N hd ⟨xs, e7, rfl, hl2, hx, rfl⟩ k
        obtain ⟨hi, rfl⟩ := range_at hd
        simp [wipeE, len_bds]
        obtain ⟨b, hb', e⟩ := at_bds (l := bs2) (r := (bs2.length : Int) - 1 - i) (by omega) (by omega)
        exact ⟨_, e, by omega, k _ _ ⟨xs ++ [b], _, by rw [bds_snoc], by simp [hl2], all_snoc hx (hB b hb'), rfl⟩⟩
      · rintro acc en ⟨xs, e7, rfl, hl2, hx, rfl⟩
        rw [range_len] at hl2
        simp [backE]
        exact h xs st3 (by omega) hx s3
    · exact h bs2 st3 hL hB s3
end DL

namespace DL
open PySem L2

/-! ### the chains as a dict -/
def nkS : Sd → PySem.NestedKey
  | none => .none
  | some x => .text x
theorem nk_sd (s : Sd) : nkD (sd s) = some (nkS s) := by cases s <;> rfl
theorem nk_kD (k : Sd × Sd) : nkD (kD k) = some (.tup [nkS k.1, nkS k.2]) := by
  unfold kD
  simp only [nkD, nkL, nk_sd, Option.map_some]
theorem nkS_inj {a b : Sd} (h : nkS a = nkS b) : a = b := by
  cases a <;> cases b <;> first | rfl | (cases h; rfl) | cases h
theorem kD_inj {a b : Sd × Sd} : nkD (kD a) = nkD (kD b) ↔ a = b := by
  rw [nk_kD, nk_kD]
  constructor
  · intro h
    have h := Option.some.inj h
    injection h with h
    injection h with h1 h2
    injection h2 with h2 _
    exact Prod.ext (nkS_inj h1) (nkS_inj h2)
  · rintro rfl
    rfl
theorem tup_kD (k : Sd × Sd) : tupD (kD k) = true := by
  have e : nkL [sd k.1, sd k.2] = some [nkS k.1, nkS k.2] := by simp only [nkL, nk_sd]
  unfold kD tupD
  simp only [e]
  obtain ⟨a, b⟩ := k
  cases a <;> cases b <;> rfl
theorem fit_kD {l : List (Sd × Sd)} {k : Sd × Sd} : fitD (l.map kD) (kD k) = true := by
  unfold fitD
  rw [tup_kD]
  have : (l.map kD).all tupD = true := by
    rw [List.all_map, List.all_eq_true]
    exact fun x _ => tup_kD x
  rw [this]
  simp
theorem fit_ch {c : Ch} {k : Sd × Sd} : fitD (c.map fun e => kD e.1) (kD k) = true := by
  have : (c.map fun e => kD e.1) = (c.map (·.1)).map kD := by rw [List.map_map]; rfl
  rw [this]
  exact fit_kD
theorem lk_ch {k : Sd × Sd} : ∀ {c : Ch}, lkD (c.map fun e => kD e.1) (c.map fun e => wD e.2) (kD k) = (lk c k).map wD
  | [] => rfl
  | e :: c => by
    rw [List.map_cons, List.map_cons, lkD, lk]
    by_cases h : e.1 = k
    · rw [if_pos (kD_inj.mpr h), if_pos h]
      rfl
    · rw [if_neg (fun z => h (kD_inj.mp z)), if_neg h]
      exact lk_ch
theorem has_ch {k : Sd × Sd} {l : List (Sd × Sd)} : hasD (l.map kD) (kD k) = true ↔ k ∈ l := by
  unfold hasD
  rw [List.any_map, List.any_eq_true]
  constructor
  · rintro ⟨x, hx, e⟩
    have := kD_inj.mp (of_decide_eq_true e)
    rw [← this]
    exact hx
  · intro h
    exact ⟨k, h, decide_eq_true rfl⟩
/-- a new key -/
theorem put_new {c : Ch} {k : Sd × Sd} {v : Wt} (h : k ∉ c.map (·.1)) : putDk (c.map fun e => kD e.1) (kD k) = ((c ++ [(k, v)]).map fun e => kD e.1) ∧ putDv (c.map fun e => kD e.1) (c.map fun e => wD e.2) (kD k) (wD v) = (c ++ [(k, v)]).map fun e => wD e.2 := by
  constructor
  · unfold putDk
    have : (c.map fun e => kD e.1) = (c.map (·.1)).map kD := by rw [List.map_map]; rfl
    rw [if_neg (fun z => h (by rw [this] at z; exact has_ch.mp z)), List.map_append]
    rfl
  · induction c with
    | nil => rfl
    | cons e c ih =>
      rw [List.map_cons, List.mem_cons, not_or] at h
      rw [List.map_cons, List.map_cons, putDv, if_neg (fun z => h.1 (kD_inj.mp z).symm), ih h.2]
      rfl
/-- a key that stands, with its value -/
theorem put_same {k : Sd × Sd} {v : Wt} : ∀ {c : Ch}, (c.map (·.1)).Nodup → (k, v) ∈ c → putDk (c.map fun e => kD e.1) (kD k) = (c.map fun e => kD e.1) ∧ putDv (c.map fun e => kD e.1) (c.map fun e => wD e.2) (kD k) (wD v) = c.map fun e => wD e.2
  | [], _, h => by cases h
  | e :: c, n, h => by
    constructor
    · unfold putDk
      have : ((e :: c).map fun e => kD e.1) = ((e :: c).map (·.1)).map kD := by rw [List.map_map]; rfl
      rw [this, if_pos (has_ch.mpr (List.mem_map.mpr ⟨_, h, rfl⟩))]
    · rw [List.map_cons, List.nodup_cons] at n
      rw [List.map_cons, List.map_cons, putDv]
      rcases List.mem_cons.mp h with q | q
      · subst q
        rw [if_pos rfl]
      · rw [if_neg, (put_same n.2 q).2]
        intro z
        have := kD_inj.mp z
        exact n.1 (by rw [this]; exact List.mem_map.mpr ⟨_, q, rfl⟩)
theorem eq_sd {l r : Sd} {Q : D → Prop} : eqD (sd l) (sd r) Q = Q (.bl (decide (l = r))) := by
  cases l <;> cases r <;> simp [sd]
theorem ne_sd {l r : Sd} {Q : D → Prop} : neD (sd l) (sd r) Q = Q (.bl (decide (l ≠ r))) := by
  cases l <;> cases r <;> simp [sd]
theorem fit_ch' {c : Ch} {l r : Sd} : fitD (c.map fun e => kD e.1) (.tup [sd l, sd r]) = true := fit_ch (k := (l, r))
theorem lk_ch' {c : Ch} {l r : Sd} : lkD (c.map fun e => kD e.1) (c.map fun e => wD e.2) (.tup [sd l, sd r]) = (lk c (l, r)).map wD := lk_ch (k := (l, r))
@[simp] theorem isNon_oi {o : Option Int} : isNon (oiD o) = o.isNone := by cases o <;> rfl
@[simp] theorem isNon_cy {o : Option (List Nat)} : isNon (cyD o) = o.isNone := by cases o <;> rfl
theorem rd_chain_shift : ∀ ds Qd Qe, sp_chain_shift ds Qd Qe → b_chain_shift (endsD [] Qd Qe) (startE 3 [] ds) := by
  rintro ds Qd Qe ⟨_, _, _, rfl, c, l, r, rfl, rfl, rfl, h⟩
  simp [b_chain_shift, startE, chD, eq_sd, fit_ch', lk_ch']
  by_cases e : l = r
  · subst e
    unfold cs at h
    rw [dst_self] at h
    rw [if_pos rfl]
    exact h
  · unfold cs at h
    rw [dst_ne e] at h
    rw [if_neg e]
    cases hl : lk c (l, r) with
    | none => rw [hl] at h; simp; exact h
    | some v =>
      rw [hl] at h
      simp
      refine ⟨wD v, ⟨v.1, v.2, rfl, rfl⟩, ?_⟩
      simp [wD]
      exact h
theorem cs_of {c : Ch} {a b : Sd} {v : Wt} (h : dst c a b = some v) : cs c a b = some v.1 := by unfold cs; rw [h]; rfl
theorem cs_no {c : Ch} {a b : Sd} (h : dst c a b = none) : cs c a b = none := by unfold cs; rw [h]; rfl
theorem ints_nats : ∀ (w : List Nat), intsD (nats w) = some (w.map fun (p : Nat) => (p : Int))
  | [] => rfl
  | p :: w => by
    have e : nats (p :: w) = .int p :: nats w := rfl
    rw [e, intsD, ints_nats w]
    rfl
theorem nats_of {w : List Nat} {ns : List Int} (h : ns.Perm (w.map fun (p : Nat) => (p : Int))) (hs : ns.Pairwise (· ≤ ·)) : ∃ l : List Nat, ns.map D.int = nats l ∧ l.Perm w ∧ l.Pairwise (· ≤ ·) := by
  have e : ∀ (l : List Nat), (l.map fun (p : Nat) => (p : Int)).map Int.toNat = l := fun l => by
    rw [List.map_map]
    conv => rhs; rw [← List.map_id l]
    exact List.map_congr_left fun p _ => Int.toNat_natCast p
  have hp : ∀ n ∈ ns, 0 ≤ n := fun n hn => by
    obtain ⟨p, _, q⟩ := List.mem_map.mp (h.mem_iff.mp hn)
    omega
  refine ⟨ns.map Int.toNat, ?_, ?_, ?_⟩
  · unfold nats
    rw [List.map_map]
    exact List.map_congr_left fun n hn => by
      show D.int n = D.int ((n.toNat : Nat) : Int)
      rw [Int.toNat_of_nonneg (hp n hn)]
  · have := h.map Int.toNat
    rwa [e] at this
  · rw [List.pairwise_map]
    exact hs.imp fun {a b} q => Int.toNat_le_toNat q
theorem rd_found_cycle : ∀ ds Qd Qe, sp_found_cycle ds Qd Qe → b_found_cycle (endsD [] Qd Qe) (startE 4 [] ds) := by
  rintro ds Qd Qe ⟨_, _, _, rfl, c, b, p, rfl, rfl, rfl, hne, hs, h1, h2⟩
  simp [b_found_cycle, startE, bd]
  refine i_chain_shift ⟨c, b.2.1, b.1, rfl, rfl, rfl, ?_⟩
  cases hd : dst c b.2.1 b.1 with
  | none =>
    rw [cs_no hd]
    simp [oiD, isNon]
    exact h1 fun v hv => by rw [hd] at hv; cases hv
  | some v =>
    rw [cs_of hd]
    simp [oiD, isNon]
    split
    · rename_i h0
      exact h1 fun v' hv => by rw [hd] at hv; cases hv; omega
    · rename_i h0
      have hk : lk c (b.2.1, b.1) = some v := by rw [dst_ne hne.symm] at hd; exact hd
      have hw := hs _ _ hk
      simp only [chD]
      simp [fit_ch', lk_ch', hk]
      simp [wD]
      refine ⟨by simp [nats]; omega, v.2.map (fun (p : Nat) => (p : Int)) ++ [(p : Int)], ?_, fun ns hp hs => ?_⟩
      · have e : nats v.2 ++ [D.int p] = nats (v.2 ++ [p]) := by simp [nats]
        rw [e, ints_nats]
        simp
      · obtain ⟨l, q1, q2, q3⟩ := nats_of (w := v.2 ++ [p]) (by rw [List.map_append]; exact hp) hs
        rw [q1]
        exact h2 v l hd (by omega) q2 q3
theorem rd_Bounds_tightest : ∀ ds Qd Qe, sp_Bounds_tightest ds Qd Qe → b_Bounds_tightest (endsD [] Qd Qe) (startE 3 [] ds) := by
  rintro ds Qd Qe ⟨_, _, _, rfl, ys, s, l, r, rfl, rfl, rfl, h1, h2⟩
  simp [b_Bounds_tightest, startE, BS.d, getF]
  cases hc : s.cyc with
  | none =>
    simp
    exact i_chain_shift ⟨s.ch, l, r, rfl, rfl, rfl, h1 hc⟩
  | some p =>
    simp
    rw [← hc]
    exact h2 p hc

/-! ### longer_chains -/
abbrev E15 (c : Ch) (b : Bnd) (p : Nat) (e6 e7 e8 e9 e10 e11 e12 e13 e14 : Option Ent) : En := [some (.fz (chD c)), some (.fz (bd b.1 b.2.1 b.2.2)), some (.fz (.int p)), some (.fz (sd b.1)), some (.fz (sd b.2.1)), some (.fz (.int b.2.2)), e6, e7, e8, e9, e10, e11, e12, e13, e14]
def hdD (l : List (Sd × Wt)) : List D := l.map fun h => .tup [sd h.1, wD h.2]
theorem ix_ch {c : Ch} {l r : Sd} {Q : D → Prop} {v : Wt} (h : lk c (l, r) = some v) (q : Q (wD v)) : ixD (chD c) (.tup [sd l, sd r]) Q := by
  unfold chD
  rw [r_ixD]
  exact ⟨fit_ch', wD v, by rw [lk_ch', h]; rfl, q⟩
theorem clD_append {g : TDG} {c : TDT} {m : TMD} {N : D → En → Prop} {bs : List D} : ∀ {as : List D} {acc : D} {en : En}, clD g c m (as ++ bs) acc en N = clD g c m as acc en (fun acc en => clD g c m bs acc en N)
  | [], _, _ => rfl
  | a :: as, acc, en => by
    rw [List.cons_append, r_clC, r_clC]
    have e : ∀ acc en, clD g c m (as ++ bs) acc en N = clD g c m as acc en (fun acc en => clD g c m bs acc en N) := fun acc en => clD_append
    simp only [e]
theorem flat_len {α β : Type} {f : α → List β} {n : Nat} : ∀ {l : List α}, (∀ a ∈ l, (f a).length ≤ n) → (l.flatMap f).length ≤ l.length * n
  | [], _ => by simp
  | a :: l, h => by
    have := flat_len (l := l) fun b hb => h b (List.mem_cons_of_mem _ hb)
    have := h a List.mem_cons_self
    rw [List.flatMap_cons, List.length_append, List.length_cons, Nat.succ_mul]
    omega
theorem heads_len {c : Ch} {x : Sd} : (headsC c x).length ≤ c.length + 1 := by
  unfold headsC
  rw [List.length_cons, List.length_map]
  have := List.length_filter_le (fun e => decide (e.1.2 = x)) c
  omega
theorem tails_len {c : Ch} {x : Sd} : (tailsC c x).length ≤ c.length + 1 := by
  unfold tailsC
  rw [List.length_cons, List.length_map]
  have := List.length_filter_le (fun e => decide (e.1.1 = x)) c
  omega
theorem joined_len {c : Ch} {x y : Sd} {t : Int} {p : Nat} : (joinedC c x y t p).length ≤ (c.length + 1) * (c.length + 1) := by
  have h1 : (joinedC c x y t p).length ≤ (headsC c x).length * (c.length + 1) := flat_len fun h _ => by
    rw [List.length_map]
    exact Nat.le_trans (List.length_filter_le _ _) tails_len
  exact Nat.le_trans h1 (Nat.mul_le_mul_right _ heads_len)
theorem heads_w {c : Ch} {x : Sd} (hw : ∀ e ∈ c, e.2.2.length ≤ 1000) : ∀ h ∈ headsC c x, h.2.2.length ≤ 1000 := fun h hh => by
  rcases List.mem_cons.mp hh with rfl | m
  · simp
  · obtain ⟨e, he, rfl⟩ := List.mem_map.mp m
    exact hw e (List.mem_filter.mp he).1
theorem tails_w {c : Ch} {x : Sd} (hw : ∀ e ∈ c, e.2.2.length ≤ 1000) : ∀ h ∈ tailsC c x, h.2.2.length ≤ 1000 := fun h hh => by
  rcases List.mem_cons.mp hh with rfl | m
  · simp
  · obtain ⟨e, he, rfl⟩ := List.mem_map.mp m
    exact hw e (List.mem_filter.mp he).1
theorem ch_at {c : Ch} {ss : List Sd} (O : ChOk c ss) {e : (Sd × Sd) × Wt} (h : e ∈ c) : lk c (e.1.1, e.1.2) = some e.2 := (lk_iff O.nd).mpr h
theorem map_at {α : Type} {f : α → D} {l : List α} {i : Nat} {d : D} (h : (l.map f)[i]? = some d) : ∃ a, l[i]? = some a ∧ d = f a ∧ a ∈ l ∧ i < l.length ∧ l.take (i + 1) = l.take i ++ [a] := by
  rw [List.getElem?_map] at h
  cases he : l[i]? with
  | none => rw [he] at h; cases h
  | some a =>
    rw [he] at h
    cases h
    exact ⟨a, rfl, rfl, List.mem_of_getElem? he, (List.getElem?_eq_some_iff.mp he).1, by rw [List.take_succ, he]; rfl⟩
section
variable {c : Ch} {b : Bnd} {p : Nat} {ss : List Sd} {e6 e7 e8 e9 e10 e11 e12 e13 e14 : Option Ent} {B : DEnds}
theorem l_heads (O : ChOk c ss) (hl : c.length ≤ 100) (h : ∀ e10 e11, b_longer_chains_4 B (E15 c b p (some (.fz (.lst (hdD (headsC c b.1))))) e7 e8 e9 e10 e11 e12 e13 e14)) : b_longer_chains_5 B (E15 c b p e6 e7 e8 e9 e10 e11 e12 e13 e14) := by
  simp [b_longer_chains_5, chD]
  refine cl_inv (fun i acc en => ∃ (e10 e11 : Option Ent), acc = .lst (hdD (((c.take i).filter fun e => e.1.2 = b.1).map fun e => (e.1.1, e.2))) ∧ en = E15 c b p e6 e7 e8 e9 e10 e11 e12 e13 e14) _ ?_ ?_ _ _ ⟨none, none, rfl, rfl⟩
  · rintro i d acc en N hd ⟨e10, e11, rfl, rfl⟩ k
    obtain ⟨e, he, rfl, hm, hi, ht⟩ := map_at hd
    simp [kD, eq_sd]
    split
    · rename_i q
      refine ix_ch (ch_at O hm) ⟨?_, k _ _ ⟨_, _, ?_, rfl⟩⟩
      · unfold hdD
        rw [List.length_map, List.length_map]
        have := List.length_filter_le (fun e : (Sd × Sd) × Wt => decide (e.1.2 = b.1)) (c.take i)
        rw [List.length_take] at this
        omega
      · rw [ht, List.filter_append, List.filter_cons_of_pos (by simpa using q)]
        simp [hdD]
    · rename_i q
      refine k _ _ ⟨_, _, ?_, rfl⟩
      rw [ht, List.filter_append, List.filter_cons_of_neg (by simpa using q)]
      simp
  · rintro acc en ⟨e10, e11, rfl, rfl⟩
    simp [backE]
    refine ⟨?_, h _ _⟩
    unfold hdD
    rw [List.length_map, List.length_map]
    have := List.length_filter_le (fun e : (Sd × Sd) × Wt => decide (e.1.2 = b.1)) c
    omega
theorem l_tails (O : ChOk c ss) (hl : c.length ≤ 100) (h : ∀ e10 e11, b_longer_chains_3 B (E15 c b p e6 (some (.fz (.lst (hdD (tailsC c b.2.1))))) e8 e9 e10 e11 e12 e13 e14)) : b_longer_chains_4 B (E15 c b p e6 e7 e8 e9 e10 e11 e12 e13 e14) := by
  simp [b_longer_chains_4, chD]
  refine cl_inv (fun i acc en => ∃ (e10 e11 : Option Ent), acc = .lst (hdD (((c.take i).filter fun e => e.1.1 = b.2.1).map fun e => (e.1.2, e.2))) ∧ en = E15 c b p e6 e7 e8 e9 e10 e11 e12 e13 e14) _ ?_ ?_ _ _ ⟨none, none, rfl, rfl⟩
  · rintro i d acc en N hd ⟨e10, e11, rfl, rfl⟩ k
    obtain ⟨e, he, rfl, hm, hi, ht⟩ := map_at hd
    simp [kD, eq_sd]
    split
    · rename_i q
      refine ix_ch (ch_at O hm) ⟨?_, k _ _ ⟨_, _, ?_, rfl⟩⟩
      · unfold hdD
        rw [List.length_map, List.length_map]
        have := List.length_filter_le (fun e : (Sd × Sd) × Wt => decide (e.1.1 = b.2.1)) (c.take i)
        rw [List.length_take] at this
        omega
      · rw [ht, List.filter_append, List.filter_cons_of_pos (by simpa using q)]
        simp [hdD]
    · rename_i q
      refine k _ _ ⟨_, _, ?_, rfl⟩
      rw [ht, List.filter_append, List.filter_cons_of_neg (by simpa using q)]
      simp
  · rintro acc en ⟨e10, e11, rfl, rfl⟩
    simp [backE]
    refine ⟨?_, h _ _⟩
    unfold hdD
    rw [List.length_map, List.length_map]
    have := List.length_filter_le (fun e : (Sd × Sd) × Wt => decide (e.1.1 = b.2.1)) c
    omega
/-- what one head gives -/
def ofHead (c : Ch) (b : Bnd) (p : Nat) (h : Sd × Wt) (l : List (Sd × Wt)) : Ch := (l.filter fun g => h.1 ≠ g.1).map fun g => candC b.2.2 p h g
theorem put_cand {X : Ch} {k : Sd × Sd} {v : Wt} (hn : ((X ++ [(k, v)]).map (·.1)).Nodup) : D.dct (putDk (X.map fun e => kD e.1) (kD k)) (putDv (X.map fun e => kD e.1) (X.map fun e => wD e.2) (kD k) (wD v)) = chD (X ++ [(k, v)]) := by
  have h : k ∉ X.map (·.1) := fun m => by
    rw [List.map_append, List.nodup_append] at hn
    exact hn.2.2 k m k (by simp) rfl
  obtain ⟨h1, h2⟩ := put_new (v := v) h
  rw [h1, h2]
  rfl
theorem nats_app (a b : List Nat) : nats (a ++ b) = nats a ++ nats b := by simp [nats]
theorem pre_sub {i : Nat} {hh : Sd × Wt} (ht : (headsC c b.1).take (i + 1) = (headsC c b.1).take i ++ [hh]) : List.Sublist ((((headsC c b.1).take i).flatMap fun h => ofHead c b p h (tailsC c b.2.1)) ++ ofHead c b p hh (tailsC c b.2.1)) (joinedC c b.1 b.2.1 b.2.2 p) := by
  have e : joinedC c b.1 b.2.1 b.2.2 p = (headsC c b.1).flatMap fun h => ofHead c b p h (tailsC c b.2.1) := rfl
  have e2 : (((headsC c b.1).take i).flatMap fun h => ofHead c b p h (tailsC c b.2.1)) ++ ofHead c b p hh (tailsC c b.2.1) = ((headsC c b.1).take (i + 1)).flatMap fun h => ofHead c b p h (tailsC c b.2.1) := by
    rw [ht, List.flatMap_append]
    simp
  rw [e, e2]
  conv => rhs; rw [← List.take_append_drop (i + 1) (headsC c b.1), List.flatMap_append]
  exact List.sublist_append_left _ _
theorem l_joined (O : ChOk c ss) (hl : c.length ≤ 100) (hw : ∀ e ∈ c, e.2.2.length ≤ 1000) (h : ∀ e10 e11 e12 e13, b_longer_chains_2 B (E15 c b p (some (.fz (.lst (hdD (headsC c b.1))))) (some (.fz (.lst (hdD (tailsC c b.2.1))))) (some (.fz (chD (joinedC c b.1 b.2.1 b.2.2 p)))) e9 e10 e11 e12 e13 e14)) :
    b_longer_chains_3 B (E15 c b p (some (.fz (.lst (hdD (headsC c b.1))))) (some (.fz (.lst (hdD (tailsC c b.2.1))))) e8 e9 e10 e11 e12 e13 e14) := by
  simp [b_longer_chains_3]
  refine cl_inv (fun i acc en => ∃ (e10 e11 e12 e13 : Option Ent), acc = chD (((headsC c b.1).take i).flatMap fun h => ofHead c b p h (tailsC c b.2.1)) ∧ en = E15 c b p (some (.fz (.lst (hdD (headsC c b.1))))) (some (.fz (.lst (hdD (tailsC c b.2.1))))) e8 e9 e10 e11 e12 e13 e14) _ ?_ ?_ _ _ ⟨none, none, none, none, rfl, rfl⟩
  · rintro i d acc en N hd ⟨e10, e11, e12, e13, rfl, rfl⟩ k
    obtain ⟨hh, he, rfl, hm, hi, ht⟩ := map_at hd
    simp
    refine cl_inv (fun j acc en => ∃ (e11 e13 : Option Ent), acc = chD ((((headsC c b.1).take i).flatMap fun h => ofHead c b p h (tailsC c b.2.1)) ++ ofHead c b p hh ((tailsC c b.2.1).take j)) ∧ en = E15 c b p (some (.fz (.lst (hdD (headsC c b.1))))) (some (.fz (.lst (hdD (tailsC c b.2.1))))) e8 e9 (some (.fz (sd hh.1))) e11 (some (.fz (wD hh.2))) e13 e14) _ ?_ ?_ _ _ ⟨_, _, by simp [ofHead], rfl⟩
    · rintro j d acc en N hd ⟨e11, e13, rfl, rfl⟩ k
      obtain ⟨gg, ge, rfl, gm, gi, gt⟩ := map_at hd
      simp [ne_sd]
      have sub := pre_sub (p := p) ht
      generalize (((headsC c b.1).take i).flatMap fun h => ofHead c b p h (tailsC c b.2.1)) = pre at sub k ⊢
      split
      · rename_i q
        refine k _ _ ⟨_, _, ?_, rfl⟩
        unfold ofHead
        rw [gt, List.filter_append, List.filter_cons_of_neg (by simpa using q)]
        simp
      · rename_i q
        have eX : (pre ++ ofHead c b p hh ((tailsC c b.2.1).take j)) ++ [candC b.2.2 p hh gg] = pre ++ ofHead c b p hh ((tailsC c b.2.1).take (j + 1)) := by
          unfold ofHead
          rw [gt, List.filter_append, List.filter_cons_of_pos (by simpa using q)]
          simp
        have sub2 : List.Sublist ((pre ++ ofHead c b p hh ((tailsC c b.2.1).take j)) ++ [candC b.2.2 p hh gg]) (joinedC c b.1 b.2.1 b.2.2 p) := by
          rw [eX]
          refine List.Sublist.trans ?_ sub
          refine List.Sublist.append (List.Sublist.refl _) ?_
          unfold ofHead
          exact List.Sublist.map _ (List.Sublist.filter _ (List.take_sublist _ _))
        have hn := (joined_nd (t := b.2.2) (p := p) (x := b.1) (y := b.2.1) O).sublist (List.Sublist.map (·.1) sub2)
        have hlen := Nat.le_trans sub2.length_le joined_len
        have hsq : (c.length + 1) * (c.length + 1) ≤ 101 * 101 := Nat.mul_le_mul (by omega) (by omega)
        rw [List.length_append] at hlen
        have w1 := heads_w hw hh hm
        have w2 := tails_w hw gg gm
        rw [← eX] at k
        generalize (pre ++ ofHead c b p hh ((tailsC c b.2.1).take j)) = X at hn hlen k ⊢
        simp at hlen
        have put := put_cand (X := X) (k := (hh.1, gg.1)) (v := (candC b.2.2 p hh gg).2) hn
        simp [chD, wD]
        refine ⟨by simp [nats]; omega, by simp [nats]; omega, fit_ch', by omega, ?_⟩
        have q2 := k _ _ ⟨some (.fz (sd gg.1)), some (.fz (wD gg.2)), put, rfl⟩
        have ev : nats hh.2.2 ++ D.int p :: nats gg.2.2 = nats (hh.2.2 ++ [p] ++ gg.2.2) := by simp [nats]
        rw [ev]
        exact q2
    · rintro acc en ⟨e11, e13, rfl, rfl⟩
      refine k _ _ ⟨_, _, _, _, ?_, rfl⟩
      rw [ht, List.flatMap_append]
      simp [hdD]
  · rintro acc en ⟨e10, e11, e12, e13, rfl, rfl⟩
    simp [backE]
    have e : (((headsC c b.1).take (hdD (headsC c b.1)).length).flatMap fun h => ofHead c b p h (tailsC c b.2.1)) = joinedC c b.1 b.2.1 b.2.2 p := by
      unfold hdD
      rw [List.length_map, List.take_length]
      rfl
    rw [e]
    exact h _ _ _ _
theorem ix_chk {c : Ch} {k : Sd × Sd} {Q : D → Prop} {v : Wt} (h : lk c k = some v) (q : Q (wD v)) : ixD (chD c) (kD k) Q := ix_ch (l := k.1) (r := k.2) h q
theorem in_ch {c : Ch} {k : Sd × Sd} {n : Bool} {Q : D → Prop} (q : Q (.bl ((lk c k).isSome != n))) : inD n (kD k) (chD c) Q := by
  unfold chD
  rw [r_inDct]
  refine ⟨fit_ch, ?_⟩
  rw [lk_ch, Option.isSome_map]
  exact q
theorem l_shorter (O : ChOk c ss) (hl : c.length ≤ 100) (h : ∀ e14, b_longer_chains_1 B (E15 c b p e6 e7 (some (.fz (chD (joinedC c b.1 b.2.1 b.2.2 p)))) (some (.fz (chD (shorterC c b.1 b.2.1 b.2.2 p)))) e10 e11 e12 e13 e14)) :
    b_longer_chains_2 B (E15 c b p e6 e7 (some (.fz (chD (joinedC c b.1 b.2.1 b.2.2 p)))) e9 e10 e11 e12 e13 e14) := by
  have hj := joined_nd (t := b.2.2) (p := p) (x := b.1) (y := b.2.1) O
  have hlen := joined_len (c := c) (x := b.1) (y := b.2.1) (t := b.2.2) (p := p)
  have hsq : (c.length + 1) * (c.length + 1) ≤ 101 * 101 := Nat.mul_le_mul (by omega) (by omega)
  unfold shorterC at h
  generalize joinedC c b.1 b.2.1 b.2.2 p = jn at hj hlen h ⊢
  simp [b_longer_chains_2]
  show clD _ _ _ (jn.map fun e => kD e.1) _ _ _
  refine cl_inv (fun i acc en => ∃ (e14 : Option Ent), acc = chD ((jn.take i).filter (better c)) ∧ en = E15 c b p e6 e7 (some (.fz (chD jn))) e9 e10 e11 e12 e13 e14) _ ?_ ?_ _ _ ⟨none, rfl, rfl⟩
  · rintro i d acc en N hd ⟨e14, rfl, rfl⟩ k
    obtain ⟨e, he, rfl, hm, hi, ht⟩ := map_at hd
    have hv : lk jn e.1 = some e.2 := (lk_iff hj).mpr hm
    have hs : ((jn.take (i + 1)).filter (better c)).length ≤ jn.length := Nat.le_trans (List.length_filter_le _ _) (by rw [List.length_take]; omega)
    have hn : (((jn.take (i + 1)).filter (better c)).map (·.1)).Nodup := hj.sublist (List.Sublist.map _ (List.Sublist.trans List.filter_sublist (List.take_sublist _ _)))
    have yes : better c e = true → emD (dVar 14) (dOp ixD (dVar 8) (dVar 14)) (chD ((jn.take i).filter (better c))) (E15 c b p e6 e7 (some (.fz (chD jn))) e9 e10 e11 e12 e13 (some (.fz (kD e.1)))) N := fun hb => by
      have et : (jn.take (i + 1)).filter (better c) = (jn.take i).filter (better c) ++ [(e.1, e.2)] := by
        rw [ht, List.filter_append, List.filter_cons_of_pos hb]
        rfl
      rw [et] at hn hs k
      generalize (jn.take i).filter (better c) = X at hn hs k ⊢
      have put := put_cand (X := X) (k := e.1) (v := e.2) hn
      rw [List.length_append] at hs
      simp at hs
      show emD (dVar 14) (dOp ixD (dVar 8) (dVar 14)) (D.dct (X.map fun e => kD e.1) (X.map fun e => wD e.2)) _ N
      simp
      refine ix_chk hv ⟨fit_ch, by omega, ?_⟩
      exact k _ _ ⟨_, put, rfl⟩
    have no : better c e = false → N (chD ((jn.take i).filter (better c))) (E15 c b p e6 e7 (some (.fz (chD jn))) e9 e10 e11 e12 e13 (some (.fz (kD e.1)))) := fun hb => by
      refine k _ _ ⟨_, ?_, rfl⟩
      rw [ht, List.filter_append, List.filter_cons_of_neg (by rw [hb]; simp)]
      simp
    simp only [r_gName, List.set_cons_succ, List.set_cons_zero]
    have key : ∀ (Q : Bool → En → Prop) (en : En), en = E15 c b p e6 e7 (some (.fz (chD jn))) e9 e10 e11 e12 e13 (some (.fz (kD e.1))) → Q (better c e) en → dOr (dTest (dOp (inD true) (dVar 14) (dVar 0))) (dTest (dOp ltD (dOp ixD (dOp ixD (dVar 8) (dVar 14)) (dC (D.int 0))) (dOp ixD (dOp ixD (dVar 0) (dVar 14)) (dC (D.int 0))))) en Q noE := by
      rintro Q en rfl q
      simp
      refine in_ch ?_
      unfold better at q
      cases hc : lk c e.1 with
      | none =>
        rw [hc] at q
        simpa using q
      | some v =>
        rw [hc] at q
        simp
        refine ix_chk hv ?_
        simp [wD]
        refine ix_chk hc ?_
        simp [wD]
        exact q
    refine key _ _ rfl ?_
    cases hb : better c e with
    | true => exact yes hb
    | false => exact no hb
  · rintro acc en ⟨e14, rfl, rfl⟩
    rw [List.length_map, List.take_length]
    simp [backE]
    exact h _
theorem put_old {X : Ch} {k : Sd × Sd} {v : Wt} (hn : (X.map (·.1)).Nodup) (hm : (k, v) ∈ X) : D.dct (putDk (X.map fun e => kD e.1) (kD k)) (putDv (X.map fun e => kD e.1) (X.map fun e => wD e.2) (kD k) (wD v)) = chD X := by
  obtain ⟨h1, h2⟩ := put_same hn hm
  rw [h1, h2]
  rfl
/-- sh.get(k, c.get(k)) -/
theorem get_two {s c : Ch} {k : Sd × Sd} {v : Wt} {en : En} {Q : D → En → Prop} {Qe : Qx} {i j l : Nat} (h0 : en[j]? = some (some (.fz (chD c)))) (h9 : en[i]? = some (some (.fz (chD s)))) (h14 : en[l]? = some (some (.fz (kD k))))
    (hv : (lk s k).or (lk c k) = some v) (q : Q (wD v) en) : dGet2 (dVar i) (dVar l) (dGet1 (dVar j) (dVar l)) en Q Qe := by
  simp [h0, h9, h14]
  refine ⟨fit_ch, fit_ch, ?_⟩
  rw [lk_ch, lk_ch]
  cases h : lk s k with
  | some u => rw [h] at hv; cases hv; exact q
  | none =>
    rw [h] at hv
    have hv : lk c k = some v := hv
    rw [hv]
    exact q
theorem var_fz {i : Nat} {en : En} {d : D} {Q : D → En → Prop} {Qe : Qx} (h : en[i]? = some (some (.fz d))) (q : Q d en) : dVar i en Q Qe := by
  rw [r_Var, h]
  exact q
theorem l_last (O : ChOk c ss) (hl : c.length ≤ 100) {ss' : List Sd} (hx : ChOk (longerC c b.1 b.2.1 b.2.2 p) ss') (hr : B.fr = false) (h : ∀ en, B.rt (chD (longerC c b.1 b.2.1 b.2.2 p)) en) :
    b_longer_chains_1 B (E15 c b p e6 e7 e8 (some (.fz (chD (shorterC c b.1 b.2.1 b.2.2 p)))) e10 e11 e12 e13 e14) := by
  have hs := shorter_nd (t := b.2.2) (p := p) (x := b.1) (y := b.2.1) O
  have hlen := Nat.le_trans (List.length_filter_le (better c) _) (joined_len (c := c) (x := b.1) (y := b.2.1) (t := b.2.2) (p := p))
  have hsq : (c.length + 1) * (c.length + 1) ≤ 101 * 101 := Nat.mul_le_mul (by omega) (by omega)
  have hxn := hx.nd
  unfold longerC at h hxn
  have hlen : (shorterC c b.1 b.2.1 b.2.2 p).length ≤ 101 * 101 := Nat.le_trans hlen hsq
  generalize shorterC c b.1 b.2.1 b.2.2 p = sh at hs hlen h hxn ⊢
  simp [b_longer_chains_1, chD]
  refine ⟨hr, by omega, ?_⟩
  rw [clD_append]
  have en0 : ∀ e14, (E15 c b p e6 e7 e8 (some (.fz (chD sh))) e10 e11 e12 e13 e14)[0]? = some (some (.fz (chD c))) := fun _ => rfl
  refine cl_inv (fun i acc en => ∃ (e14 : Option Ent), acc = chD ((c.take i).map fun e => (e.1, (lk sh e.1).getD e.2)) ∧ en = E15 c b p e6 e7 e8 (some (.fz (chD sh))) e10 e11 e12 e13 e14) _ ?_ ?_ _ _ ⟨none, rfl, rfl⟩
  · rintro i d acc en N hd ⟨e14, rfl, rfl⟩ k
    obtain ⟨e, he, rfl, hm, hi, ht⟩ := map_at hd
    have hv : lk c e.1 = some e.2 := (lk_iff O.nd).mpr hm
    rw [ht, List.map_append] at k
    have hn : (((c.take i).map fun e => (e.1, (lk sh e.1).getD e.2)) ++ [(e.1, (lk sh e.1).getD e.2)]).map (·.1) = (c.take (i + 1)).map (·.1) := by
      rw [ht, List.map_append, List.map_append, List.map_map]
      rfl
    have hn : ((((c.take i).map fun e => (e.1, (lk sh e.1).getD e.2)) ++ [(e.1, (lk sh e.1).getD e.2)]).map (·.1)).Nodup := by
      rw [hn]
      exact O.nd.sublist (List.Sublist.map _ (List.take_sublist _ _))
    have hz : ((c.take i).map fun e => (e.1, (lk sh e.1).getD e.2)).length < 16777216 := by
      rw [List.length_map, List.length_take]
      omega
    have k := k (chD (((c.take i).map fun e => (e.1, (lk sh e.1).getD e.2)) ++ [(e.1, (lk sh e.1).getD e.2)])) (E15 c b p e6 e7 e8 (some (.fz (chD sh))) e10 e11 e12 e13 (some (.fz (kD e.1)))) ⟨_, rfl, rfl⟩
    rw [← put_cand hn] at k
    generalize ((c.take i).map fun e => (e.1, (lk sh e.1).getD e.2)) = X at hz k ⊢
    simp only [r_gName, List.set_cons_succ, List.set_cons_zero, dYes, if_true]
    show emD _ _ (D.dct (X.map fun e => kD e.1) (X.map fun e => wD e.2)) _ N
    rw [r_emD]
    refine var_fz (d := kD e.1) rfl ?_
    refine get_two (c := c) (s := sh) (k := e.1) (v := (lk sh e.1).getD e.2) rfl rfl rfl ?_ ⟨fit_ch, by rw [List.length_map, sizeLine_eq]; exact hz, k⟩
    rw [hv]
    cases lk sh e.1 <;> rfl
  · rintro acc en ⟨e14, rfl, rfl⟩
    rw [List.length_map, List.take_length]
    refine cl_inv (fun i acc en => ∃ (e14 : Option Ent), acc = chD ((c.map fun e => (e.1, (lk sh e.1).getD e.2)) ++ (sh.take i).filter fun e => (lk c e.1).isNone) ∧ en = E15 c b p e6 e7 e8 (some (.fz (chD sh))) e10 e11 e12 e13 e14) _ ?_ ?_ _ _ ⟨_, by simp, rfl⟩
    · rintro i d acc en N hd ⟨e14, rfl, rfl⟩ k
      obtain ⟨e, he, rfl, hm, hi, ht⟩ := map_at hd
      have hv : lk sh e.1 = some e.2 := (lk_iff hs).mpr hm
      have sub : ∀ j, List.Sublist ((c.map fun e => (e.1, (lk sh e.1).getD e.2)) ++ (sh.take j).filter fun e => (lk c e.1).isNone) ((c.map fun e => (e.1, (lk sh e.1).getD e.2)) ++ sh.filter fun e => (lk c e.1).isNone) := fun j => List.Sublist.append (List.Sublist.refl _) (List.Sublist.filter _ (List.take_sublist _ _))
      have hn1 := hxn.sublist (List.Sublist.map _ (sub i))
      have hn2 := hxn.sublist (List.Sublist.map _ (sub (i + 1)))
      have hz : ((c.map fun e => (e.1, (lk sh e.1).getD e.2)) ++ (sh.take i).filter fun e => (lk c e.1).isNone).length < 16777216 := by
        have := (sub i).length_le
        have q := List.length_filter_le (fun e => (lk c e.1).isNone) sh
        rw [List.length_append, List.length_map] at this ⊢
        rw [List.length_append, List.length_map] at this
        omega
      cases hc : lk c e.1 with
      | none =>
        have et : (sh.take (i + 1)).filter (fun e => (lk c e.1).isNone) = (sh.take i).filter (fun e => (lk c e.1).isNone) ++ [(e.1, e.2)] := by
          rw [ht, List.filter_append, List.filter_cons_of_pos (p := fun e : (Sd × Sd) × Wt => (lk c e.1).isNone) (by rw [hc]; rfl)]
          rfl
        have k := k _ (E15 c b p e6 e7 e8 (some (.fz (chD sh))) e10 e11 e12 e13 (some (.fz (kD e.1)))) ⟨_, rfl, rfl⟩
        rw [et, ← List.append_assoc] at k hn2
        rw [← put_cand hn2] at k
        generalize ((c.map fun e => (e.1, (lk sh e.1).getD e.2)) ++ (sh.take i).filter fun e => (lk c e.1).isNone) = X at hz k ⊢
        simp only [r_gName, List.set_cons_succ, List.set_cons_zero, dYes, if_true]
        show emD _ _ (D.dct (X.map fun e => kD e.1) (X.map fun e => wD e.2)) _ N
        rw [r_emD]
        refine var_fz (d := kD e.1) rfl ?_
        exact get_two (c := c) (s := sh) (k := e.1) (v := e.2) rfl rfl rfl (by rw [hv]; rfl) ⟨fit_ch, by rw [List.length_map, sizeLine_eq]; exact hz, k⟩
      | some u =>
        have et : (sh.take (i + 1)).filter (fun e => (lk c e.1).isNone) = (sh.take i).filter (fun e => (lk c e.1).isNone) := by
          rw [ht, List.filter_append, List.filter_cons_of_neg (p := fun e : (Sd × Sd) × Wt => (lk c e.1).isNone) (by rw [hc]; simp)]
          simp
        have k := k _ (E15 c b p e6 e7 e8 (some (.fz (chD sh))) e10 e11 e12 e13 (some (.fz (kD e.1)))) ⟨_, rfl, rfl⟩
        rw [et] at k
        have hmem : (e.1, e.2) ∈ ((c.map fun e => (e.1, (lk sh e.1).getD e.2)) ++ (sh.take i).filter fun e => (lk c e.1).isNone) := by
          refine List.mem_append_left _ (List.mem_map.mpr ⟨(e.1, u), lk_mem hc, ?_⟩)
          rw [hv]
          rfl
        rw [← put_old hn1 hmem] at k
        generalize ((c.map fun e => (e.1, (lk sh e.1).getD e.2)) ++ (sh.take i).filter fun e => (lk c e.1).isNone) = X at hz k ⊢
        simp only [r_gName, List.set_cons_succ, List.set_cons_zero, dYes, if_true]
        show emD _ _ (D.dct (X.map fun e => kD e.1) (X.map fun e => wD e.2)) _ N
        rw [r_emD]
        refine var_fz (d := kD e.1) rfl ?_
        exact get_two (c := c) (s := sh) (k := e.1) (v := e.2) rfl rfl rfl (by rw [hv]; rfl) ⟨fit_ch, by rw [List.length_map, sizeLine_eq]; exact hz, k⟩
    · rintro acc en ⟨e14, rfl, rfl⟩
      rw [List.length_map, List.take_length]
      exact h _
end
theorem rd_longer_chains : ∀ ds Qd Qe, sp_longer_chains ds Qd Qe → b_longer_chains (endsD [] Qd Qe) (startE 15 [] ds) := by
  rintro ds Qd Qe ⟨_, _, _, rfl, c, b, p, ss, rfl, rfl, rfl, hne, hw, hl, O, h⟩
  have go : b_longer_chains_5 (endsD [] Qd Qe) (E15 c b p none none none none none none none none none) :=
    l_heads O hl fun e10 e11 => l_tails O hl fun e10 e11 => l_joined O hl hw fun e10 e11 e12 e13 => l_shorter O hl fun e14 => l_last O hl (longer_ok (ss := b.1 :: b.2.1 :: ss) ⟨O.nd, fun e he => ⟨(O.ne e he).1, List.mem_cons_of_mem _ (List.mem_cons_of_mem _ (O.ne e he).2.1), List.mem_cons_of_mem _ (List.mem_cons_of_mem _ (O.ne e he).2.2)⟩⟩ (by simp) (by simp)) rfl fun en => ⟨[], rfl, h⟩
  simp [b_longer_chains, startE, bd]
  exact go
end DL

namespace DL
open PySem L2

theorem sides_mem {x : Str} {ys : List Str} (h : some x ∈ sdsOf ys) : x ∈ ys := by
  unfold sdsOf at h
  rcases List.mem_cons.mp h with e | h
  · cases e
  · obtain ⟨z, hz, e⟩ := List.mem_map.mp h
    cases e
    exact hz
theorem sds_len {ys : List Str} : (sdsOf ys).length = ys.length + 1 := by simp [sdsOf]
abbrev E7 (ys : List Str) (s : BS) (b : Bnd) (e2 e3 e4 e5 e6 : Option Ent) : En := [some (.fz (BS.d ys s)), some (.fz (bd b.1 b.2.1 b.2.2)), e2, e3, e4, e5, e6]
theorem rd_Bounds_add : ∀ ds Qd Qe, sp_Bounds_add ds Qd Qe → b_Bounds_add (endsD [] Qd Qe) (startE 7 [] ds) := by
  rintro ds Qd Qe ⟨_, _, rfl, ys, s, b, rfl, rfl, hf, hB, hl, hb, h⟩
  obtain ⟨hne, hb1, hb2⟩ := hb
  simp [b_Bounds_add, startE]
  simp only [bd]
  simp
  refine loop_inv (fun i en => ∃ e2, en = E7 ys s b e2 none none none none) _ ?_ ?_ _ ⟨none, rfl⟩
  · rintro i d en N hd ⟨e2, rfl⟩ k
    have hx : ∃ x, d = sd x ∧ x ∈ sdsOf ys := by
      have := List.mem_of_getElem? hd
      simp at this
      rcases this with rfl | rfl
      · exact ⟨_, rfl, hb1⟩
      · exact ⟨_, rfl, hb2⟩
    obtain ⟨x, rfl, hx⟩ := hx
    simp [b_Bounds_add_1]
    cases x with
    | none =>
      simp [sd, isNon]
      exact k _ ⟨_, rfl⟩
    | some x =>
      simp [sd, isNon, BS.d, getF, flatD]
      exact ⟨sides_mem hx, k _ ⟨_, rfl⟩⟩
  · rintro en ⟨e2, rfl⟩
    simp [BS.d, getF, bd]
    refine ⟨by rw [len_bds]; omega, ?_⟩
    have eb : bds s.bs ++ [D.tup [sd b.1, sd b.2.1, D.int b.2.2]] = bds (s.bs ++ [b]) := bds_snoc s.bs b
    rw [eb, len_bds]
    have mk : ∀ (cyc' : Option (List Nat)) (ch' : Ch) (Qx : Exn → List D → Prop), Step s b.1 b.2.1 b.2.2 ⟨s.bs ++ [b], cyc', ch'⟩ → (txs ys).length ≤ 16777215 ∧ sp_Bounds_init [D.obj "Bounds" [] [], D.tup [D.tup (bds (s.bs ++ [b])), cyD cyc', chD ch'], D.tup (txs ys)] (fun r outs => r = D.non ∧ match outs with
        | [d] => Qd d []
        | _ => False) Qx := fun cyc' ch' Qx st => ⟨by have := hf.2.2; simp [txs]; omega, i_Bounds_init ⟨_, _, _, .inl rfl, rfl, h _ st⟩⟩
    cases hc : s.cyc with
    | some l =>
      simp [b_Bounds_add_2, b_Bounds_add_3, getF]
      exact mk (some l) s.ch _ ⟨rfl, .inl ⟨l, hc, rfl, rfl⟩⟩
    | none =>
      have I := hB.inv hc
      simp [b_Bounds_add_2]
      have hw : ∀ k v, lk s.ch k = some v → v.2.length ≤ 1000 := fun k v hv => by
        obtain ⟨w1, w2⟩ := I.walk k v hv
        have := walk_len w1 w2
        omega
      refine i_found_cycle ⟨s.ch, b, s.bs.length, rfl, rfl, rfl, hne, hw, fun h0 => ?_, fun v l d hv hp hs => ?_⟩
      · simp [b_Bounds_add_3, isNon, getF]
        have hlen := I.ok.len
        rw [sds_len] at hlen
        have hsq : (ys.length + 1) * (ys.length + 1) ≤ 10 * 10 := Nat.mul_le_mul (by have := hf.2.2; omega) (by have := hf.2.2; omega)
        exact i_longer_chains ⟨s.ch, b, s.bs.length, sdsOf ys, rfl, rfl, rfl, hne, fun e he => hw e.1 e.2 ((lk_iff I.ok.nd).mpr he), by omega, I.ok, mk none (longerC s.ch b.1 b.2.1 b.2.2 s.bs.length) _ ⟨rfl, .inr ⟨hc, .inr ⟨h0, rfl, rfl⟩⟩⟩⟩
      · simp [b_Bounds_add_3, isNon, getF]
        exact mk (some l) s.ch _ ⟨rfl, .inr ⟨hc, .inl ⟨v, l, d, hv, hp, hs, rfl, rfl⟩⟩⟩
end DL

namespace DL
open PySem L2

theorem cyc_len {bs : List Bnd} {l : List Nat} (h : IsCyc bs l) : l.length ≤ bs.length := by
  have n : l.Nodup := h.up.imp fun q => Nat.ne_of_lt q
  have := len_sub (m := List.range bs.length) n fun p hp => List.mem_range.mpr (h.lt p hp)
  rwa [List.length_range] at this
theorem plain_nats {l : List Nat} (h : l.length ≤ 100) : plainN 6 (.tup (nats l)) = true := by
  have : (nats l).all (plainN 5) = true := by simp [nats, plainN]
  simp only [plainN, this, Bool.and_true, decide_eq_true_eq]
  simp [nats]
  omega
theorem plain_txs {l : List Str} (h : l.length ≤ 100) : plainN 6 (.lst (txs l)) = true := by
  have : (txs l).all (plainN 5) = true := by simp [txs, plainN]
  simp only [plainN, this, Bool.and_true, decide_eq_true_eq]
  simp [txs]
  omega
theorem plain_bds {l : List Bnd} (h : l.length ≤ 100) : plainN 6 (.tup (bds l)) = true := by
  have : (bds l).all (plainN 5) = true := by
    unfold bds
    rw [List.all_map, List.all_eq_true]
    intro b _
    obtain ⟨x, y, t⟩ := b
    cases x <;> cases y <;> rfl
  simp only [plainN, this, Bool.and_true, decide_eq_true_eq]
  rw [len_bds]
  omega
theorem same_of {a : D} {Qd : D → List D → Prop} {Qe : Exn → List D → Prop} (h : plainN 6 a = true) (q : Qd (.bl true) []) : sp_law_same [a, a] Qd Qe := ⟨a, rfl, h, q⟩
theorem rd_law_contradicts : ∀ ds Qd Qe, sp_law_contradicts ds Qd Qe → b_law_contradicts (endsD [] Qd Qe) (startE 5 [] ds) := by
  rintro ds Qd Qe ⟨_, _, _, rfl, ys, s, l, r, p, rfl, rfl, rfl, hf, hB, hl, hc, h⟩
  have hp : p.length ≤ 100 := by have := cyc_len (hB.cyc p hc); omega
  simp [b_law_contradicts, startE, b_law_contradicts_1, BS.d]
  refine i_Bounds_model ⟨ys, s, rfl, hf, hB, hl, fun h0 => (by rw [hc] at h0; cases h0), fun p' hp' => ?_⟩
  simp [getF, List.lookup]
  rw [hc]
  refine same_of (plain_nats hp) ?_
  simp [b_law_contradicts_2]
  refine i_Bounds_tightest ⟨ys, s, l, r, by unfold BS.d; rw [hc], rfl, rfl, fun h0 => (by rw [hc] at h0; cases h0), fun p' hp' => ?_⟩
  simp [getF, List.lookup]
  rw [hc]
  refine same_of (plain_nats hp) ?_
  simp
  exact h
theorem rd_law_right : ∀ ds Qd Qe, sp_law_right ds Qd Qe → b_law_right (endsD [] Qd Qe) (startE 5 [] ds) := by
  rintro ds Qd Qe ⟨_, _, _, _, _, rfl, ys, s, l, r, rfl, rfl, rfl, rfl, rfl, hf, hB, hl, hb, h⟩
  simp [b_law_right, startE, getF, BS.d]
  cases hc : s.cyc with
  | none =>
    simp
    refine i_Bounds_model ⟨ys, s, by unfold BS.d; rw [hc], hf, hB, hl, fun _ m hm => ?_, fun p hp => by rw [hc] at hp; cases hp⟩
    exact i_law_keeps ⟨ys, m, s.bs, rfl, rfl, rfl, rfl, hf, hb, hm, h⟩
  | some p =>
    simp [cyD]
    refine i_law_is_a_cycle ⟨p, ys, s.bs, rfl, rfl, rfl, by omega, hB.cyc p hc, ?_⟩
    simp
    exact i_law_contradicts ⟨ys, s, l, r, p, by unfold BS.d; rw [hc]; rfl, rfl, rfl, hf, hB, hl, hc, h⟩
theorem cnt_sds {x : Sd} {l : List Sd} : cntD (sd x) (sds l) = cntS x l := by
  unfold cntD cntS sds
  rw [List.countP_map]
  congr 1
  funext b
  cases b <;> cases x <;> simp [sd, eqFD]
  rw [Bool.eq_iff_iff, beq_iff_eq, decide_eq_true_iff]
theorem rd_law_is_a_cycle : ∀ ds Qd Qe, sp_law_is_a_cycle ds Qd Qe → b_law_is_a_cycle (endsD [] Qd Qe) (startE 9 [] ds) := by
  rintro ds Qd Qe ⟨_, _, _, rfl, l, ys, m, rfl, rfl, rfl, hl, hC, h⟩
  simp [b_law_is_a_cycle, startE, isiTup]
  rw [if_neg (fun z => hC.ne (by simpa [nats] using z))]
  have hll := cyc_len hC
  refine loop_inv (fun i en => ∃ e7, en = [some (Ent.fz (D.tup (nats l))), some (Ent.fz (D.lst (txs ys))), some (Ent.fz (D.lst (bds m))), some (Ent.fz (D.int (((l.take i).getLast?.map fun (p : Nat) => (p : Int)).getD (-1)))), some (Ent.fz (D.int (totC m (l.take i)))), some (Ent.ow false (D.lst (sds (lefts m (l.take i))))), some (Ent.ow false (D.lst (sds (rights m (l.take i))))), e7, none]) _ ?_ ?_ _ ⟨none, rfl⟩
  · rintro i d en N hd ⟨e7, rfl⟩ k
    obtain ⟨q, he, rfl, hm, hi, ht⟩ := map_at hd
    have hq := hC.lt q hm
    have hlast : (((l.take i).getLast?.map fun (p : Nat) => (p : Int)).getD (-1)) < (q : Int) := by
      cases hg : (l.take i).getLast? with
      | none => simp; omega
      | some p =>
        have hp : p ∈ l.take i := List.mem_of_getLast? hg
        have : p < q := by
          have up := hC.up
          rw [← List.take_append_drop i l, List.pairwise_append] at up
          refine up.2.2 p hp q ?_
          have : (l.drop i)[0]? = some q := by rw [List.getElem?_drop, Nat.add_zero]; exact he
          exact List.mem_of_getElem? this
        simp
        omega
    have hb : atI (bds m) (q : Int) = some (bd (bAt m q).1 (bAt m q).2.1 (bAt m q).2.2) := by
      unfold bds
      rw [atI_nonneg (i := (q : Int)) (j := q) rfl, List.getElem?_map, List.getElem?_eq_getElem hq]
      rw [bAt_of (List.getElem?_eq_getElem hq)]
      rfl
    have k := k [some (Ent.fz (D.tup (nats l))), some (Ent.fz (D.lst (txs ys))), some (Ent.fz (D.lst (bds m))), some (Ent.fz (D.int q)), some (Ent.fz (D.int (totC m (l.take i) + (bAt m q).2.2))), some (Ent.ow false (D.lst (sds (lefts m (l.take i)) ++ [sd (bAt m q).1]))), some (Ent.ow false (D.lst (sds (rights m (l.take i)) ++ [sd (bAt m q).2.1]))), some (Ent.fz (D.int q)), none] ⟨some (Ent.fz (D.int q)), by
      rw [ht, List.getLast?_concat]
      simp [totC, lefts, rights, sds]⟩
    simp [b_law_is_a_cycle_1, hb]
    rw [if_neg (by omega), if_neg (by rw [len_bds]; omega)]
    simp [bd]
    refine ⟨?_, ?_, k⟩
    · simp [sds, lefts]; omega
    · simp [sds, rights]; omega
  · rintro en ⟨e7, rfl⟩
    have e : (nats l).length = l.length := by simp [nats]
    rw [e, List.take_length]
    simp
    refine loop_inv (fun i en => ∃ e8, en = [some (Ent.fz (D.tup (nats l))), some (Ent.fz (D.lst (txs ys))), some (Ent.fz (D.lst (bds m))), some (Ent.fz (D.int ((l.getLast?.map fun (p : Nat) => (p : Int)).getD (-1)))), some (Ent.fz (D.int (totC m l))), some (Ent.ow false (D.lst (sds (lefts m l)))), some (Ent.ow false (D.lst (sds (rights m l)))), e7, e8]) _ ?_ ?_ _ ⟨none, rfl⟩
    · rintro i d en N hd ⟨e8, rfl⟩ k
      obtain ⟨x, he, rfl, hm, hi, ht⟩ := map_at hd
      have f1 : ∀ l : List Sd, (sds l).all flatD = true := fun l => by
        unfold sds
        rw [List.all_map, List.all_eq_true]
        intro a _
        cases a <;> rfl
      have ec : ∀ l : List Sd, cntD (.str x) (sds l) = cntS (some x) l := fun l => cnt_sds (x := some x)
      have fx : flatD (D.str x) = true := rfl
      simp [b_law_is_a_cycle_2, cntM, f1, ec, hC.cnt (some x), fx, -List.all_eq_true]
      exact k _ ⟨_, rfl⟩
    · rintro en ⟨e8, rfl⟩
      simp
      have := hC.tot
      rw [decide_eq_true this]
      exact h
theorem lk_txs {x : Str} {m : Str → Int} : ∀ {ys : List Str}, x ∈ ys → lkD (txs ys) (ys.map fun y => D.int (m y)) (.str x) = some (.int (m x))
  | [], h => by cases h
  | y :: ys, h => by
    have e : txs (y :: ys) = .str y :: txs ys := rfl
    rw [e, List.map_cons, lkD]
    by_cases q : y = x
    · subst q
      rw [if_pos rfl]
    · rw [if_neg (fun z => q (by
        have z : some (PySem.NestedKey.text y) = some (PySem.NestedKey.text x) := z
        cases z
        rfl))]
      rcases List.mem_cons.mp h with r | r
      · exact absurd r.symm q
      · exact lk_txs r
theorem fit_txs {ys : List Str} {x : Str} : fitD (txs ys) (.str x) = true := by
  have : (txs ys).all mixD = true := by simp [txs, mixD]
  unfold fitD
  rw [this]
  rfl
theorem rd_law_keeps : ∀ ds Qd Qe, sp_law_keeps ds Qd Qe → b_law_keeps (endsD [] Qd Qe) (startE 7 [] ds) := by
  rintro ds Qd Qe ⟨_, _, _, _, rfl, ys, m, l, rfl, rfl, rfl, rfl, hf, hb, hk, h⟩
  simp [b_law_keeps, startE, isiDct]
  refine same_of (plain_txs (by have := hf.2.2; omega)) ?_
  simp
  refine loop_inv (fun i en => ∃ e3, en = [some (Ent.fz (D.dct (txs ys) (ys.map fun y => D.int (m y)))), some (Ent.fz (D.lst (txs ys))), some (Ent.fz (D.lst (bds l))), e3, none, none, none]) _ ?_ ?_ _ ⟨none, rfl⟩
  · rintro i d en N hd ⟨e3, rfl⟩ k
    obtain ⟨x, he, rfl, hm, hi, ht⟩ := map_at hd
    simp [b_law_keeps_1, fit_txs, lk_txs hm]
    exact k _ ⟨_, rfl⟩
  · rintro en ⟨e3, rfl⟩
    simp
    refine loop_inv (fun i en => ∃ e4 e5 e6, en = [some (Ent.fz (D.dct (txs ys) (ys.map fun y => D.int (m y)))), some (Ent.fz (D.lst (txs ys))), some (Ent.fz (D.lst (bds l))), e3, e4, e5, e6]) _ ?_ ?_ _ ⟨none, none, none, rfl⟩
    · rintro i d en N hd ⟨e4, e5, e6, rfl⟩ k
      obtain ⟨b, he, rfl, hm, hi, ht⟩ := map_at hd
      obtain ⟨h1, h2, h3⟩ := hb b hm
      have hk := hk b hm
      obtain ⟨x, y, t⟩ := b
      simp only at h1 h2 h3 hk
      cases x with
      | none =>
        cases y with
        | none => exact absurd rfl h1
        | some y =>
          have my := sides_mem h3
          simp [b_law_keeps_4, b_law_keeps_2, b_law_keeps_3, bd, sd, isNon, fit_txs, lk_txs my]
          simp [vOf] at hk
          rw [if_neg (by omega)]
          exact k _ ⟨_, _, _, rfl⟩
      | some x =>
        have mx := sides_mem h2
        cases y with
        | none =>
          simp [b_law_keeps_4, b_law_keeps_2, b_law_keeps_3, bd, sd, isNon, fit_txs, lk_txs mx]
          simp [vOf] at hk
          rw [if_neg (by omega)]
          exact k _ ⟨_, _, _, rfl⟩
        | some y =>
          have my := sides_mem h3
          simp [b_law_keeps_4, b_law_keeps_2, b_law_keeps_3, bd, sd, isNon, fit_txs, lk_txs mx, lk_txs my]
          simp [vOf] at hk
          rw [if_neg (by omega)]
          exact k _ ⟨_, _, _, rfl⟩
    · rintro en ⟨e4, e5, e6, rfl⟩
      simp
      exact h
end DL

namespace DL
open PySem L2

theorem put_txs {x : Str} {v : D} : ∀ {l : List Str} {vs : List D}, x ∉ l → vs.length = l.length → putDk (txs l) (.str x) = txs (l ++ [x]) ∧ putDv (txs l) vs (.str x) v = vs ++ [v] := by
  intro l vs h hl
  have ne : ∀ y ∈ l, ¬ nkD (.str y) = nkD (.str x) := fun y hy z => h (by
    have z : some (PySem.NestedKey.text y) = some (PySem.NestedKey.text x) := z
    cases z
    exact hy)
  constructor
  · unfold putDk
    rw [if_neg]
    · simp [txs]
    · unfold hasD
      intro z
      obtain ⟨d, hd, e⟩ := List.any_eq_true.mp z
      obtain ⟨y, hy, rfl⟩ := List.mem_map.mp hd
      exact ne y hy (of_decide_eq_true e)
  · clear h
    induction l generalizing vs with
    | nil =>
      have : vs = [] := List.length_eq_zero_iff.mp hl
      subst this
      rfl
    | cons y l ih =>
      match vs, hl with
      | w :: ws, hl =>
        have e : txs (y :: l) = .str y :: txs l := rfl
        rw [e, putDv, if_neg (ne y List.mem_cons_self), ih (vs := ws) (by simpa using hl) (fun z hz => ne z (List.mem_cons_of_mem _ hz))]
        rfl
theorem rd_Bounds_model : ∀ ds Qd Qe, sp_Bounds_model ds Qd Qe → b_Bounds_model (endsD [] Qd Qe) (startE 5 [] ds) := by
  rintro ds Qd Qe ⟨_, rfl, ys, s, rfl, hf, hB, hl, h1, h2⟩
  obtain ⟨nd, l1, l9⟩ := hf
  have hf : Few ys := ⟨nd, l1, l9⟩
  simp [b_Bounds_model, startE, getF, BS.d]
  cases hc : s.cyc with
  | some p =>
    match ys, l1, h2 with
    | y :: ys, _, h2 =>
      have e : txs (y :: ys) = .str y :: txs ys := rfl
      rw [e]
      simp [loopD, b_Bounds_model_2]
      refine i_Bounds_tightest ⟨y :: ys, s, some y, none, by unfold BS.d; rw [hc, e], rfl, rfl, fun h0 => (by rw [hc] at h0; cases h0), fun p' hp' => ?_⟩
      exact h2 p hc
  | none =>
    rw [← hc]
    have h1 := h1 hc
    refine loop_inv (fun i en => ∃ (s2 : BS) (e2 e3 e4 : Option Ent), en = [some (Ent.fz (BS.d ys s)), some (Ent.fz (BS.d ys s2)), e2, e3, e4] ∧ BOk ys s2 ∧ s2.cyc = none ∧ (∃ ex, s2.bs = s.bs ++ ex ∧ ex.length ≤ i) ∧ ∀ x ∈ ys.take i, ∃ v, cs s2.ch (some x) none = some v) _ ?_ ?_ _ ⟨s, none, none, none, rfl, hB, hc, ⟨[], by simp, by simp⟩, by simp⟩
    · rintro i d en N hd ⟨s2, e2, e3, e4, rfl, hB2, hc2, ⟨ex, he, hle⟩, hk⟩ k
      obtain ⟨x, hx, rfl, hm, hi, ht⟩ := map_at hd
      have hsm : some x ∈ sdsOf ys := List.mem_cons_of_mem _ (List.mem_map.mpr ⟨x, hm, rfl⟩)
      simp [b_Bounds_model_2, BS.d]
      refine i_Bounds_tightest ⟨ys, s2, some x, none, rfl, rfl, rfl, fun _ => ?_, fun p' hp' => (by rw [hc2] at hp'; cases hp')⟩
      simp
      have add : ∀ (top : Int) (e4 : Option Ent) (Qx : Exn → List D → Prop), cs s2.ch (some x) none = none → (match cs s2.ch none (some x) with
          | some low => 0 ≤ low + top
          | none => True) → sp_Bounds_add [bndO (txs ys) (D.tup (bds s2.bs)) (cyD s2.cyc) (chD s2.ch), D.tup [D.str x, D.non, D.int top]] (fun r _ => N [some (Ent.fz (bndO (txs ys) (D.tup (bds s.bs)) (cyD s.cyc) (chD s.ch))), some (Ent.fz r), some (Ent.fz (D.str x)), some (Ent.fz (D.int top)), e4]) Qx := fun top e4 Qx hn ht2 => by
        refine i_Bounds_add ⟨ys, s2, (some x, none, top), rfl, rfl, hf, hB2, by rw [he, List.length_append]; omega, ⟨by simp, hsm, List.mem_cons_self⟩, fun s' st => ?_⟩
        obtain ⟨b1, b2, b3, b4, b5⟩ := bok_turn hB2 hc2 hm hn ht2 st
        refine k _ ⟨s', _, _, _, rfl, b1, b2, ⟨ex ++ [(some x, none, top)], by rw [b3, he, List.append_assoc], by rw [List.length_append, List.length_singleton]; omega⟩, fun z hz => ?_⟩
        rw [ht] at hz
        rcases List.mem_append.mp hz with hz | hz
        · obtain ⟨v, hv⟩ := hk z hz
          exact b5 _ _ v hv
        · rw [List.mem_singleton] at hz
          rw [hz]
          exact b4
      split
      · rename_i hn
        refine i_Bounds_tightest ⟨ys, s2, none, some x, rfl, rfl, rfl, fun _ => ?_, fun p' hp' => (by rw [hc2] at hp'; cases hp')⟩
        have add := fun top e4 Qx => add top e4 Qx hn
        cases hlo : cs s2.ch none (some x) with
        | none =>
          rw [hlo] at add
          simp [b_Bounds_model_1, oiD, isNon]
          exact add 0 _ _ trivial
        | some low =>
          rw [hlo] at add
          simp [b_Bounds_model_1, oiD, isNon]
          split
          · exact add (-low) _ _ (by show 0 ≤ low + -low; omega)
          · exact add 0 _ _ (by show 0 ≤ low + 0; omega)
      · rename_i hn
        refine k _ ⟨s2, _, _, _, rfl, hB2, hc2, ⟨ex, he, by omega⟩, fun z hz => ?_⟩
        rw [ht] at hz
        rcases List.mem_append.mp hz with hz | hz
        · exact hk z hz
        · rw [List.mem_singleton] at hz
          rw [hz]
          exact Option.isSome_iff_exists.mp (by cases h : cs s2.ch (some x) none with
            | none => exact absurd h hn
            | some v => rfl)
    · rintro en ⟨s2, e2, e3, e4, rfl, hB2, hc2, ⟨ex, he, hle⟩, hk⟩
      have hlen : (txs ys).length = ys.length := by simp [txs]
      rw [hlen, List.take_length] at hk
      simp [BS.d, getF]
      obtain ⟨m, em⟩ : ∃ m : Str → Int, m = fun x => (cs s2.ch (some x) none).getD 0 := ⟨_, rfl⟩
      have hm : ∀ x ∈ ys, cs s2.ch (some x) none = some (m x) := fun x hx => by
        obtain ⟨v, hv⟩ := hk x hx
        rw [em]
        simp only [hv, Option.getD_some]
      have K : Keeps ys s2.bs m := (hB2.inv hc2).model m hm
      rw [he] at K
      have done := h1 m (Keeps.sub (ys := ys) K)
      refine cl_inv (fun i acc en => ∃ e2, acc = .dct (txs (ys.take i)) ((ys.take i).map fun y => D.int (m y)) ∧ en = [some (Ent.fz (BS.d ys s)), some (Ent.fz (BS.d ys s2)), e2, e3, e4]) _ ?_ ?_ _ _ ⟨none, rfl, rfl⟩
      · rintro i d acc en N hd ⟨e2, rfl, rfl⟩ k
        obtain ⟨x, hx, rfl, hxm, hi, ht⟩ := map_at hd
        simp [BS.d]
        refine i_Bounds_tightest ⟨ys, s2, some x, none, rfl, rfl, rfl, fun _ => ?_, fun p' hp' => (by rw [hc2] at hp'; cases hp')⟩
        rw [hm x hxm]
        have hnot : x ∉ ys.take i := fun z => by
          have nd2 := nd.sublist (List.take_sublist (i + 1) ys)
          rw [ht, List.nodup_append] at nd2
          exact nd2.2.2 x z x (by simp) rfl
        obtain ⟨p1, p2⟩ := put_txs (v := oiD (some (m x))) (vs := (ys.map fun y => D.int (m y)).take i) hnot (by simp)
        refine ⟨fit_txs, by simp [txs]; omega, k _ _ ⟨_, ?_, rfl⟩⟩
        rw [p1, p2, ht]
        simp [oiD]
      · rintro acc en ⟨e2, rfl, rfl⟩
        rw [hlen, List.take_length]
        exact done
end DL

namespace DL
open PySem L2

theorem bds_take {l : List Bnd} {n : Nat} : (bds l).take n = bds (l.take n) := by simp [bds, List.map_take]
theorem bds_drop {l : List Bnd} {n : Nat} : (bds l).drop n = bds (l.drop n) := by simp [bds, List.map_drop]
theorem bds_app {l m : List Bnd} : bds l ++ bds m = bds (l ++ m) := by simp [bds]
theorem cutB_head {l : List Bnd} {i : Int} (h : 0 ≤ i) : cutD (bds l) none (some i) = bds (l.take i.toNat) := by
  obtain ⟨n, rfl⟩ : ∃ n : Nat, i = n := ⟨i.toNat, by omega⟩
  rw [dCutHead, bds_take]
  simp
theorem cutB_tail {l : List Bnd} {i : Int} (h : 0 ≤ i) : cutD (bds l) (some i) none = bds (l.drop i.toNat) := by
  obtain ⟨n, rfl⟩ : ∃ n : Nat, i = n := ⟨i.toNat, by omega⟩
  unfold cutD
  rw [HT.sIx_nat, HT.sIx_none]
  by_cases h2 : n ≤ (bds l).length
  · rw [Nat.min_eq_left h2, List.take_of_length_le (by rw [List.length_drop]; omega), bds_drop]
    simp
  · rw [Nat.min_eq_right (by omega), List.drop_length]
    rw [len_bds] at h2
    rw [List.drop_eq_nil_of_le (by simp; omega)]
    simp [bds]
abbrev E10 (js : List D) (st : D) (xs : List Str) (c : D) (bs : List Bnd) (e6 e7 e8 e9 : Option Ent) : En := [some (.fz (.lck js)), some (.ow false st), some (.fz (.lst (txs xs))), some (.fz (.lst (sds (sdsOf xs)))), some (.fz c), some (.fz (.lst (bds bs))), e6, e7, e8, e9]
section
variable {js : List D} {st : D} {xs : List Str} {c : D} {bs : List Bnd} {e6 e7 e8 e9 : Option Ent} {Qd : D → List D → Prop} {Qe : Exn → List D → Prop}
theorem at_txs0 {xs : List Str} (h : 1 ≤ xs.length) : ∃ x, x ∈ xs ∧ atI (txs xs) 0 = some (.str x) := by
  match xs, h with
  | x :: xs, _ => exact ⟨x, List.mem_cons_self, by rw [atI_nonneg (i := 0) (j := 0) rfl]; rfl⟩
theorem at_ms {xs : List Str} {ms : List BS} {i : Nat} {s : BS} (h : ms[i]? = some s) : atI (ms.map (BS.d xs)) (i : Int) = some (BS.d xs s) := by
  rw [atI_nonneg (i := (i : Int)) (j := i) rfl, List.getElem?_map, h]
  rfl
theorem l_law3 (hf : Few xs) (hs : SidesOk (sdsOf xs)) (hb : ∀ b ∈ bs, BdIn (sdsOf xs) b) (hl : bs.length ≤ 17) (s0 : StOk st) (h : Qd (.bl true) []) : b_law_3 (endsD [] Qd Qe) (E10 js st xs c bs e6 (some (.ow false (.lst [BS.d xs ⟨[], none, []⟩]))) e8 e9) := by
  simp [b_law_3, len_bds]
  refine ⟨by omega, ?_⟩
  refine loop_inv (fun i en => ∃ (ms : List BS) (st : D) (e8 e9 : Option Ent), en = E10 js st xs c bs e6 (some (.ow false (.lst (ms.map (BS.d xs))))) e8 e9 ∧ ms.length = i + 1 ∧ (∀ j s, ms[j]? = some s → BOk xs s ∧ s.bs = bs.take j) ∧ StOk st) _ ?_ ?_ _ ⟨[⟨[], none, []⟩], st, e8, e9, rfl, rfl, ?_, s0⟩
  · rintro i d en N hd ⟨ms, st, e8, e9, rfl, hm, hk, s0⟩ k
    obtain ⟨hi, rfl⟩ := range_at hd
    obtain ⟨s, hsi⟩ : ∃ s, ms[i]? = some s := ⟨_, List.getElem?_eq_getElem (by omega)⟩
    obtain ⟨hB, hbs⟩ := hk i s hsi
    obtain ⟨b, hbi⟩ : ∃ b, bs[i]? = some b := ⟨_, List.getElem?_eq_getElem hi⟩
    have hbm := hb b (List.mem_of_getElem? hbi)
    have hab : atI (bds bs) (i : Int) = some (bd b.1 b.2.1 b.2.2) := by
      unfold bds
      rw [atI_nonneg (i := (i : Int)) (j := i) rfl, List.getElem?_map, hbi]
      rfl
    simp [b_law_2, at_ms hsi, hab]
    refine ⟨⟨_, _, rfl⟩, ⟨_, rfl⟩, i_Bounds_add ⟨xs, s, b, rfl, rfl, hf, hB, by rw [hbs, List.length_take]; omega, hbm, fun s' st' => ?_⟩⟩
    have hB' := hB.step hbm.1 hbm.2.1 hbm.2.2 st'
    have hbs' : s'.bs = bs.take (i + 1) := by
      rw [st'.1, hbs, List.take_succ, hbi]
      rfl
    refine ⟨by omega, i_law_two_sides ⟨s0, sdsOf xs, rfl, hs, fun x y st2 hx hy ne s1 => ?_⟩⟩
    have eM : ms.map (BS.d xs) ++ [BS.d xs s'] = (ms ++ [s']).map (BS.d xs) := by simp
    have g1 : (ms ++ [s'])[i + 1]? = some s' := by rw [← hm]; simp
    have g0 : (ms ++ [s'])[i]? = some s := by rw [List.getElem?_append_left (by omega)]; exact hsi
    have e1 : (i : Int) + 1 = ((i + 1 : Nat) : Int) := by omega
    have fin : ∀ e9, N (E10 js st2 xs c bs e6 (some (.ow false (.lst ((ms ++ [s']).map (BS.d xs))))) (some (.fz (.int i))) e9) := fun e9 => k _ ⟨ms ++ [s'], st2, _, e9, rfl, by simp [hm], fun j z hz => by
      by_cases hj : j < ms.length
      · rw [List.getElem?_append_left hj] at hz
        exact hk j z hz
      · have : j = i + 1 := by
          have := (List.getElem?_eq_some_iff.mp hz).1
          rw [List.length_append, List.length_singleton] at this
          omega
        subst this
        rw [g1] at hz
        cases hz
        exact ⟨hB', hbs'⟩, s1⟩
    rw [eM, e1]
    simp only [cutB_head (i := ((i + 1 : Nat) : Int)) (by omega)]
    refine ⟨_, at_ms g1, ?_⟩
    simp only [at_ms g1, at_ms g0]
    simp
    refine i_law_right ⟨xs, s', x, y, rfl, rfl, rfl, rfl, by rw [hbs'], hf, hB', by rw [hbs', List.length_take]; omega, fun z hz => hb z (by rw [hbs'] at hz; exact List.mem_of_mem_take hz), ?_⟩
    simp [BS.d, getF]
    simp only [← eM] at fin
    cases hc : s.cyc with
    | none =>
      simp
      exact fin _
    | some l =>
      simp
      have hc' : s'.cyc = some l := by
        obtain ⟨_, ⟨l', c1, c2, _⟩ | ⟨c1, _⟩⟩ := st'
        · rw [c1] at hc
          cases hc
          exact c2
        · rw [c1] at hc
          cases hc
      rw [hc']
      refine same_of (plain_nats (by have := cyc_len (hB.cyc l hc); rw [hbs, List.length_take] at this; omega)) ?_
      simp
      rw [← hc']
      exact fin _
  · rintro en ⟨ms, st, e8, e9, rfl, hm, hk, s0⟩
    rw [range_len] at hm
    simp [s0, hm]
    refine ⟨many_ok (by omega) (by omega), fun r st2 r0 r1 s1 => ?_⟩
    obtain ⟨n, rfl⟩ : ∃ n : Nat, r = n := ⟨r.toNat, by omega⟩
    obtain ⟨s, hsn⟩ : ∃ s, ms[n]? = some s := ⟨_, List.getElem?_eq_getElem (by omega)⟩
    obtain ⟨hB, hbs⟩ := hk n s hsn
    obtain ⟨x, hx, ha⟩ := at_txs0 hf.2.1
    simp only [cutB_head r0, at_ms hsn, ha]
    have e1 : bds (bs.take (n : Int).toNat) = bds s.bs := by rw [hbs]; simp
    rw [e1]
    refine ⟨_, rfl, _, rfl, i_law_right ⟨xs, s, some x, none, rfl, rfl, rfl, rfl, rfl, hf, hB, by rw [hbs, List.length_take]; omega, fun z hz => hb z (by rw [hbs] at hz; exact List.mem_of_mem_take hz), ?_⟩⟩
    simp [BS.d, getF]
    exact same_of (plain_bds (by rw [hbs, List.length_take]; omega)) h
  · intro j s hj
    match j, hj with
    | 0, hj => cases hj; exact ⟨bok_nil, by simp⟩
theorem l_law4 (hf : Few xs) (hs : SidesOk (sdsOf xs)) (h4 : xs.length ≤ 4) (hb : ∀ b ∈ bs, BdIn (sdsOf xs) b) (hl : bs.length ≤ 17) (s0 : StOk st) (h : Qd (.bl true) []) : b_law_4 (endsD [] Qd Qe) (E10 js st xs c bs e6 e7 e8 e9) := by
  simp [b_law_4]
  refine i_law_bounds_of ⟨xs, rfl, hf.2.1, h4, ?_⟩
  obtain ⟨x, hx, ha⟩ := at_txs0 hf.2.1
  refine ⟨_, ha, i_law_right ⟨xs, ⟨[], none, []⟩, none, some x, rfl, rfl, rfl, rfl, rfl, hf, bok_nil, by simp, by simp, ?_⟩⟩
  simp
  exact l_law3 hf hs hb hl s0 h
theorem l_law5 (hf : Few xs) (h4 : xs.length ≤ 4) (hc : cenOk c) (hs : SidesOk (sdsOf xs)) (hb : ∀ b ∈ bs, BdIn (sdsOf xs) b) (hl : bs.length ≤ 7) (s0 : StOk st) (h : Qd (.bl true) []) : b_law_5 (endsD [] Qd Qe) (E10 js st xs c bs e6 e7 e8 e9) := by
  simp [b_law_5, b_law_1, s0, len_bds]
  refine ⟨many_ok (by omega) (by omega), fun r st r0 r1 s1 => ?_⟩
  split
  · refine ⟨s1, many_ok (by omega) (by omega), fun a st a0 a1 s2 => ?_⟩
    refine i_law_ring ⟨s2, hc, sdsOf xs, rfl, hs, fun rs st hr1 hr2 s3 => ?_⟩
    simp
    rw [cutB_head a0, cutB_tail a0]
    simp [bds_app, len_bds]
    refine ⟨by omega, by omega, ?_⟩
    exact l_law4 hf hs h4 (fun b m => by
      rcases List.mem_append.mp m with m | m
      · exact hb b (List.mem_of_mem_take m)
      · rcases List.mem_append.mp m with m | m
        · exact hr2 b m
        · exact hb b (List.mem_of_mem_drop m)) (by simp; omega) s3 h
  · exact l_law4 hf hs h4 hb (by omega) s1 h
end
theorem rd_law : ∀ ds Qd Qe, sp_law ds Qd Qe → b_law (endsD [] Qd Qe) (startE 10 [] ds) := by
  rintro ds Qd Qe ⟨js, rfl, hj, h⟩
  simp [b_law, startE, hj]
  intro st s0
  refine ⟨s0, many_ok (by omega) (by omega), fun r st r0 r1 s1 => ⟨s1, by omega, by omega, fun xs st hl ok s2 => ?_⟩⟩
  have hf : Few xs := ⟨ok.2, by omega, by omega⟩
  have es : D.non :: txs xs = sds (sdsOf xs) := by simp [sds, sdsOf, txs, sd]
  have hs : SidesOk (sdsOf xs) := ⟨by
    unfold sdsOf
    rw [List.nodup_cons]
    refine ⟨by simp, nd_map ok.2 fun a _ b _ e => Option.some.inj e⟩, by rw [sds_len]; omega, by rw [sds_len]; omega⟩
  refine ⟨by simp [txs]; omega, s2, fun c st hc s3 => ?_⟩
  rw [es]
  refine i_law_some_bounds ⟨s3, hc, sdsOf xs, rfl, hs, fun bs st hl2 hb s4 => ?_⟩
  simp
  exact l_law5 hf (by omega) hc hs hb hl2 s4 h
theorem law_asked : LawSp 63 sp_law := fun ns _ _ => ⟨_, rfl, fun d m => by
  obtain ⟨i, _, rfl⟩ := List.mem_map.mp m
  exact ⟨i, rfl⟩, rfl⟩
end DL

namespace DL
open PySem L2

abbrev P : Program := PySem.Challenge.pw_totalsbeside_k07_whole_cycle_or_model
abbrev TY (w : World) (K : Fg) (mg : Str → Option Value) : Prop := TX fx fn ts w K mg
section
variable {w : World} {K : Fg} {mg : Str → Option Value}
theorem tFact (T : TX fx fn ts w K mg) (i : Nat) {f : Fg → Bool} (h : fx[i]? = some f := by rfl) : f K = true := let ⟨_, _, _, c⟩ := T; c.fact i h
theorem tDef (T : TX fx fn ts w K mg) (i : Nat) {d : DefX} (h : fn[i]? = some d := by rfl) (h0 : d.clos = [] := by rfl) : ∃ fd, FunD K d.name d.qual d.params d.body d.scope (d.dvs K) (d.kws K) (d.at_ K) fd := let ⟨_, _, _, c⟩ := T; c.def_ i h h0
theorem tDefC (T : TX fx fn ts w K mg) (i : Nat) {d : DefX} (h : fn[i]? = some d := by rfl) : fnAt K (d.at_ K) = d.val ∧ d.ok K = true := let ⟨_, _, _, c⟩ := T; c.defC i h
theorem tTab (T : TX fx fn ts w K mg) (i : Nat) {t : He.Tab} (h : ts[i]? = some t := by rfl) : ∃ es n, KDict K w (t.1 K) es n := let ⟨_, _, _, c⟩ := T; c.tab i h
theorem fInt (i : Nat) (x : String) (z : Int) (T : TX fx fn ts w K mg) (h : fx[i]? = some (fun K => (He.Fa.int x z).ok K) := by rfl) : ∃ t, mg x = some (.int z t) := let ⟨_, X, G, c⟩ := T; He.int_ok X G (c.fact i h)
theorem fStr (i : Nat) (x z : String) (T : TX fx fn ts w K mg) (h : fx[i]? = some (fun K => (He.Fa.str x z).ok K) := by rfl) : ∃ t, mg x = some (.str z t) := let ⟨_, X, G, c⟩ := T; He.str_ok X G (c.fact i h)
theorem fGlo (i : Nat) (x : String) (T : TX fx fn ts w K mg) (h : fx[i]? = some (fun K => (He.Fa.glo x).ok K) := by rfl) : mg x = some (.ref (He.ga K x)) := let ⟨_, X, G, c⟩ := T; He.glo_ok X G (c.fact i h)
theorem fFree (i : Nat) (x : String) (T : TX fx fn ts w K mg) (h : fx[i]? = some (fun K => (He.Fa.free x).ok K) := by rfl) : mg x = none := let ⟨_, X, G, c⟩ := T; He.free_ok X G (c.fact i h)
theorem fKeep (i : Nat) (x : String) (T : TX fx fn ts w K mg) (h : fx[i]? = some (fun K => (He.Fa.keep x).ok K) := by rfl) : PySem.W.keepIn K (.ref (He.ga K x)) = true := He.keep_ok (tFact T i h)
theorem fCls (i : Nat) (x : String) (T : TX fx fn ts w K mg) (h : fx[i]? = some (fun K => (He.Fa.cls x).ok K) := by rfl) : Cls K (He.ga K x) := He.cls_ok (tFact T i h)
theorem fNoat (i : Nat) (x f : String) (T : TX fx fn ts w K mg) (h : fx[i]? = some (fun K => (He.Fa.noat x f).ok K) := by rfl) : NoAttr K (He.ga K x) f := He.noat_ok (tFact T i h)
theorem fMeth (i : Nat) (x m : String) (T : TX fx fn ts w K mg) (h : fx[i]? = some (fun K => (He.Fa.meth x m).ok K) := by rfl) : Meth K (He.ga K x) m (He.ma K (He.ga K x) m) := He.meth_ok (tFact T i h)
theorem fMkr (i : Nat) (x : String) (T : TX fx fn ts w K mg) (h : fx[i]? = some (fun K => (He.Fa.mkr x).ok K) := by rfl) : Mk K (He.ga K x) (He.ma K (He.ga K x) "__init__") := He.mkr_ok (tFact T i h)
theorem fProp (i : Nat) (x f : String) (T : TX fx fn ts w K mg) (h : fx[i]? = some (prB x f) := by rfl) : PropOf K (He.ga K x) f (He.ma K (He.ga K x) f) (prA K x f) := prB_ok (tFact T i h)
theorem fStat (i : Nat) (x f : String) (T : TX fx fn ts w K mg) (h : fx[i]? = some (stB x f) := by rfl) : Stat K (He.ga K x) (.type "type") f (stA.stP K x f) (stA K x f) := stB_ok (tFact T i h)
theorem fOp (i : Nat) (x f : String) (T : TX fx fn ts w K mg) (h : fx[i]? = some (opB x f) := by rfl) : BinOk K (He.ga K x) (He.ma K (He.ga K x) f) f := opB_ok (tFact T i h)
theorem cInt (i : Nat) (x : String) (z : Int) {X : Cx} {W : WX} {p : Pos} (hg : Gl X x) (T : TY X.w X.K X.mg) (h : fx[i]? = some (fun K => (He.Fa.int x z).ok K) := by rfl) (hd : ((x : Str) == ("__debug__" : Str)) = false := by decide) : DE X W (.Name x p) (tC (.int z)) (dC (.int z)) := by
  obtain ⟨t, e⟩ := fInt i x z T h
  exact de_const hg e ⟨t, rfl⟩ (fun F => rfl) hd
theorem cStr (i : Nat) (x z : String) {X : Cx} {W : WX} {p : Pos} (hg : Gl X x) (T : TY X.w X.K X.mg) (h : fx[i]? = some (fun K => (He.Fa.str x z).ok K) := by rfl) (hd : ((x : Str) == ("__debug__" : Str)) = false := by decide) : DE X W (.Name x p) (tC (.str z)) (dC (.str z)) := by
  obtain ⟨t, e⟩ := fStr i x z T h
  exact de_const hg e ⟨t, rfl⟩ (fun F => rfl) hd
theorem fldOk1 {a f : String} (h1 : Cls K (He.ga K a)) (h2 : NoAttr K (He.ga K a) f) : FldOk K [a] f := fun C m => by
  rw [List.mem_singleton] at m
  subst m
  exact ⟨h1, h2⟩
theorem fldOk2 {a b f : String} (h1 : Cls K (He.ga K a)) (h2 : NoAttr K (He.ga K a) f) (h3 : Cls K (He.ga K b)) (h4 : NoAttr K (He.ga K b) f) : FldOk K [a, b] f := fun C m => by
  rcases List.mem_cons.mp m with rfl | m
  · exact ⟨h1, h2⟩
  · exact fldOk1 h3 h4 C m
end
section
variable {w : World} {K : Fg} {mg : Str → Option Value} {base : Heap}

theorem ok_x_Contradiction (T : TY w K mg) {k : Nat} : FnR P w K mg base (L2N.CX P w) (k + 1) (He.ma K (He.ga K "Contradiction") "__init__") (spX (He.ga K "Contradiction") (["cycle"].map Str.ofString)) := fnX_one (d := fn[25]) (file := "/claim/cut.py") ⟨(tDefC T 25).1, (tDefC T 25).2, rfl, rfl, rfl, xcNB_ok (tFact T 59 (f := xcNB "Contradiction")), tFact T 75 (f := supB "Contradiction" "/claim/cut.py"), rfl, (by decide +kernel), (fFree 77 "super" T), rfl, ⟨by decide +kernel, by decide +kernel, by decide +kernel, by decide +kernel, by decide +kernel, by decide +kernel, by decide +kernel, by decide +kernel, by decide +kernel⟩, rfl, ⟨_, rfl, rfl⟩, (fun _ _ _ _ _ _ _ us hl => match us, hl with | [_, _], _ => rfl), (fun _ => rfl), (fun _ => rfl)⟩ (He.eqO_ok (tFact T 76)) (fun _ => rfl)
theorem sc_law_start : FnScope ["script", "cell"] ["script"] (defScope (top 10)) := ⟨rfl, rfl, rfl, by decide +kernel, rfl, by decide +kernel, by decide +kernel⟩
theorem ok_law_start (T : TY w K mg) : FnF P w K mg base 2 (He.ga K "_law_start") [] sp_law_start := by
  obtain ⟨fd, F⟩ := tDef T 0
  exact fnD_of (k := 1) (N := ["script", "cell"]) (ps := ["script"]) F sc_law_start (F.bindsN fun _ _ _ _ _ _ us hl => match us, hl with | [_], _ => rfl) (by decide) (by decide) (by decide) len_law_start (fun cdv A outer s H E hr => ⟨_, show DSs _ _ _ _ b_law_start from
 (dss_one (ds_retO (do_lst (da_cons (DO.fz (do_lc (own := [("cell", 1)]) rfl sc_law_start.nd (di_seq (de_sl (de_var 0) dp_none (dp_some de_int))) (blkOk_by (by kernel_rfl)) (own_name (by decide)) (dg_name (i := 1) sc_law_start.nd rfl (by first | exact Or.inl rfl | exact Or.inr rfl)) (fun _ _ _ _ _ => (dg_name (i := 1) sc_law_start.nd rfl (by first | exact Or.inl rfl | exact Or.inr rfl))) dts_nil (fun _ _ _ _ _ => dts_nil) (de_bty call_intV sim_int (by rfl) (fFree 27 "int" T) PyProof.Rows.boot_int (da_cons (de_var 1) da_nil)) (fun _ _ _ _ _ => (de_bty call_intV sim_int (by rfl) (fFree 27 "int" T) PyProof.Rows.boot_int (da_cons (de_var 1) da_nil))))) (da_cons de_int (da_cons de_int (da_cons de_int da_nil)))))))⟩) (fr := true) (rd := rd_law_start)
theorem sc_law_mixed : FnScope ["cell", "k", "many", "once", "twice"] ["cell", "k", "many"] (defScope (top 11)) := ⟨rfl, rfl, rfl, by decide +kernel, rfl, by decide +kernel, by decide +kernel⟩
theorem ok_law_mixed (T : TY w K mg) : FnD P w K mg base 2 (He.ga K "_law_mixed") [] sp_law_mixed := by
  obtain ⟨fd, F⟩ := tDef T 1
  exact fnD_of (k := 1) (N := ["cell", "k", "many", "once", "twice"]) (ps := ["cell", "k", "many"]) F sc_law_mixed (F.bindsN fun _ _ _ _ _ _ us hl => match us, hl with | [_, _, _], _ => rfl) (by decide) (by decide) (by decide) len_law_mixed (fun cdv A outer s H E hr => ⟨_, show DSs _ _ _ _ b_law_mixed from
 (dss_cons (ds_set (i := 3) sc_law_mixed.nd rfl (by first | exact Or.inl rfl | exact Or.inr rfl) (de_mod (de_bty call_intV sim_int (by rfl) (fFree 27 "int" T) PyProof.Rows.boot_int (da_cons (de_add (de_add (de_mul (de_var 0) de_int) (de_mul (de_var 1) de_int)) de_int) da_nil)) de_int))
 (dss_cons (ds_set (i := 4) sc_law_mixed.nd rfl (by first | exact Or.inl rfl | exact Or.inr rfl) (de_mod (de_bty call_intV sim_int (by rfl) (fFree 27 "int" T) PyProof.Rows.boot_int (da_cons (de_add (de_add (de_add (de_mul (de_var 3) (de_var 3)) (de_mul (de_var 3) de_int)) (de_mul (de_var 1) de_int)) de_int) da_nil)) de_int))
 (dss_one (ds_ret (de_mod (de_bty call_intV sim_int (by rfl) (fFree 27 "int" T) PyProof.Rows.boot_int (da_cons (de_div (de_var 4) de_int) da_nil)) (de_var 2))))))⟩) (rd := rd_law_mixed)
theorem sc_law_draw : FnScope ["state", "many", "drawn", "cell"] ["state", "many"] (defScope (top 12)) := ⟨rfl, rfl, rfl, by decide +kernel, rfl, by decide +kernel, by decide +kernel⟩
theorem ok_law_draw (T : TY w K mg) : FnD P w K mg base 3 (He.ga K "_law_draw") [0] sp_law_draw := by
  obtain ⟨fd, F⟩ := tDef T 2
  exact fnD_of (k := 2) (N := ["state", "many", "drawn", "cell"]) (ps := ["state", "many"]) F sc_law_draw (F.bindsN fun _ _ _ _ _ _ us hl => match us, hl with | [_, _], _ => rfl) (by decide) (by decide) (by decide) len_law_draw (fun cdv A outer s H E hr => ⟨_, show DSs _ _ _ _ b_law_draw from
 (dss_cons (ds_if (dt_cmp op_gt sim_gt (de_ixV hr.units (i := 0) de_int) de_int (nomark _))
 (dss_cons (ds_set (i := 2) sc_law_draw.nd rfl (by first | exact Or.inl rfl | exact Or.inr rfl) (de_mod (de_bty call_intV sim_int (by rfl) (fFree 27 "int" T) PyProof.Rows.boot_int (da_cons (de_ixV hr.units (i := 0) de_int) da_nil)) (de_var 1)))
 (dss_cons (ds_store hr.units (i := 0) (de_div (de_ixV hr.units (i := 0) de_int) (de_var 1)) de_int)
 (dss_one (ds_ret (de_var 2)))))
 dss_nil)
 (dss_cons (ds_if (dt_cmp op_gt sim_gt (de_ixV hr.units (i := 0) de_int) de_int (nomark _))
 (dss_cons (ds_store hr.units (i := 0) (de_sub (de_ixV hr.units (i := 0) de_int) de_int) de_int)
 (dss_one (ds_ret (de_call (ok_law_mixed T) (hr.mono (by decide)) (takes_of rfl rfl rfl rfl) (by rfl) (fGlo 28 "_law_mixed" T) (fKeep 29 "_law_mixed" T) (da_cons (de_ix hr.units (de_ixV hr.units (i := 0) de_int) (de_sub (de_ixV hr.units (i := 0) de_int) de_int)) (da_cons (de_ixV hr.units (i := 0) de_int) (da_cons (de_var 1) da_nil)))))))
 dss_nil)
 (dss_cons (ds_if (dt_cmp op_ge sim_ge (de_ixV hr.units (i := 0) de_int) (de_blt call_lenX sim_len (by rfl) (fFree 10 "len" T) PySem.boot_len (da_cons (de_ixV hr.units (i := 0) de_int) da_nil)) (nomark _))
 (dss_one (ds_ret de_int))
 dss_nil)
 (dss_cons (ds_set (i := 3) sc_law_draw.nd rfl (by first | exact Or.inl rfl | exact Or.inr rfl) (de_ix hr.units (de_ixV hr.units (i := 0) de_int) (de_ixV hr.units (i := 0) de_int)))
 (dss_cons (ds_store hr.units (i := 0) (de_add (de_ixV hr.units (i := 0) de_int) de_int) de_int)
 (dss_cons (ds_if (dt_cmp op_ge sim_ge (de_var 3) (de_pow de_int de_int) (nomark _))
 (dss_cons (ds_store hr.units (i := 0) (de_div (de_var 3) (de_var 1)) de_int)
 (dss_one (ds_ret (de_mod (de_bty call_intV sim_int (by rfl) (fFree 27 "int" T) PyProof.Rows.boot_int (da_cons (de_var 3) da_nil)) (de_var 1)))))
 dss_nil)
 (dss_cons (ds_store hr.units (i := 0) de_int de_int)
 (dss_one (ds_ret (de_call (ok_law_mixed T) (hr.mono (by decide)) (takes_of rfl rfl rfl rfl) (by rfl) (fGlo 28 "_law_mixed" T) (fKeep 29 "_law_mixed" T) (da_cons (de_var 3) (da_cons de_int (da_cons (de_var 1) da_nil)))))))))))))⟩) (rd := rd_law_draw)
theorem sc_law_names : FnScope ["state", "many", "reserved", "letters", "signs", "size", "base", "k", "at", "names", "name", "j"] ["state", "many"] (defScope (top 15)) := ⟨rfl, rfl, rfl, by decide +kernel, rfl, by decide +kernel, by decide +kernel⟩
theorem ok_law_names (T : TY w K mg) : FnD P w K mg base 4 (He.ga K "_law_names") [0] sp_law_names := by
  obtain ⟨fd, F⟩ := tDef T 3
  exact fnD_of (k := 3) (N := ["state", "many", "reserved", "letters", "signs", "size", "base", "k", "at", "names", "name", "j"]) (ps := ["state", "many"]) F sc_law_names (F.bindsN fun _ _ _ _ _ _ us hl => match us, hl with | [_, _], _ => rfl) (by decide) (by decide) (by decide) len_law_names (fun cdv A outer s H E hr => ⟨_, show DSs _ _ _ _ b_law_names from
 (dss_cons (ds_set (i := 2) sc_law_names.nd rfl (by first | exact Or.inl rfl | exact Or.inr rfl) (DO.fz (do_lst (da_cons de_str (da_cons de_str (da_cons de_str (da_cons de_str (da_cons de_str (da_cons de_str (da_cons de_str (da_cons de_str (da_cons de_str (da_cons de_str (da_cons de_str (da_cons de_str da_nil)))))))))))))))
 (dss_cons (ds_set (i := 2) sc_law_names.nd rfl (by first | exact Or.inl rfl | exact Or.inr rfl) (de_add (de_var 2) (DO.fz (do_lst (da_cons de_str (da_cons de_str (da_cons de_str (da_cons de_str (da_cons de_str (da_cons de_str (da_cons de_str (da_cons de_str (da_cons de_str (da_cons de_str da_nil))))))))))))))
 (dss_cons (ds_set (i := 2) sc_law_names.nd rfl (by first | exact Or.inl rfl | exact Or.inr rfl) (de_add (de_var 2) (DO.fz (do_lst (da_cons de_str (da_cons de_str (da_cons de_str da_nil)))))))
 (dss_cons (ds_set (i := 3) sc_law_names.nd rfl (by first | exact Or.inl rfl | exact Or.inr rfl) de_str)
 (dss_cons (ds_set (i := 4) sc_law_names.nd rfl (by first | exact Or.inl rfl | exact Or.inr rfl) (de_add (de_var 3) de_str))
 (dss_cons (ds_set (i := 5) sc_law_names.nd rfl (by first | exact Or.inl rfl | exact Or.inr rfl) (de_ix hr.units (DO.fz (do_lst (da_cons de_int (da_cons de_int (da_cons de_int (da_cons de_int da_nil)))))) (de_callIO 0 (ok_law_draw T) (hr.mono (by decide)) (takes_of rfl rfl rfl rfl) (by rfl) (fGlo 4 "_law_draw" T) (fKeep 5 "_law_draw" T) (da_cons de_int da_nil))))
 (dss_cons (ds_set (i := 6) sc_law_names.nd rfl (by first | exact Or.inl rfl | exact Or.inr rfl) (de_ix hr.units (de_var 3) (de_callIO 0 (ok_law_draw T) (hr.mono (by decide)) (takes_of rfl rfl rfl rfl) (by rfl) (fGlo 4 "_law_draw" T) (fKeep 5 "_law_draw" T) (da_cons de_int da_nil))))
 (dss_cons (ds_for (passes_of rfl) rfl (di_range1 (by rfl) (fFree 17 "range" T) (da_cons (de_sub (de_var 5) de_int) da_nil)) (dg_name (i := 7) sc_law_names.nd rfl (by first | exact Or.inl rfl | exact Or.inr rfl))
 (dss_one (ds_set (i := 6) sc_law_names.nd rfl (by first | exact Or.inl rfl | exact Or.inr rfl) (de_add (de_var 6) (de_ix hr.units (de_var 4) (de_callIO 0 (ok_law_draw T) (hr.mono (by decide)) (takes_of rfl rfl rfl rfl) (by rfl) (fGlo 4 "_law_draw" T) (fKeep 5 "_law_draw" T) (da_cons de_int da_nil)))))))
 (dss_cons (ds_set (i := 8) sc_law_names.nd rfl (by first | exact Or.inl rfl | exact Or.inr rfl) (de_callIO 0 (ok_law_draw T) (hr.mono (by decide)) (takes_of rfl rfl rfl rfl) (by rfl) (fGlo 4 "_law_draw" T) (fKeep 5 "_law_draw" T) (da_cons (de_var 5) da_nil)))
 (dss_cons (ds_setO (i := 9) sc_law_names.nd rfl (by first | exact Or.inl rfl | exact Or.inr rfl) (do_lst da_nil))
 (dss_cons (ds_for (passes_of rfl) rfl (di_range1 (by rfl) (fFree 17 "range" T) (da_cons (de_var 1) da_nil)) (dg_name (i := 7) sc_law_names.nd rfl (by first | exact Or.inl rfl | exact Or.inr rfl))
 (dss_cons (ds_set (i := 10) sc_law_names.nd rfl (by first | exact Or.inl rfl | exact Or.inr rfl) (de_var 6))
 (dss_cons (ds_if (dt_cmp op_gt sim_gt (de_var 7) de_int (nomark _))
 (dss_cons (ds_set (i := 10) sc_law_names.nd rfl (by first | exact Or.inl rfl | exact Or.inr rfl) (de_add (de_add (de_sl (de_var 6) dp_none (dp_some (de_var 8))) (de_ix hr.units (de_var 3) (de_callIO 0 (ok_law_draw T) (hr.mono (by decide)) (takes_of rfl rfl rfl rfl) (by rfl) (fGlo 4 "_law_draw" T) (fKeep 5 "_law_draw" T) (da_cons de_int da_nil)))) (de_sl (de_var 6) (dp_some (de_add (de_var 8) de_int)) dp_none)))
 (dss_one (ds_if (dt_cmp (op_eqX hr.units) sim_eq (de_callIO 0 (ok_law_draw T) (hr.mono (by decide)) (takes_of rfl rfl rfl rfl) (by rfl) (fGlo 4 "_law_draw" T) (fKeep 5 "_law_draw" T) (da_cons de_int da_nil)) de_int (nomark _))
 (dss_one (ds_set (i := 10) sc_law_names.nd rfl (by first | exact Or.inl rfl | exact Or.inr rfl) (de_sl (de_var 10) dp_none (dp_some (de_add de_int (de_callIO 0 (ok_law_draw T) (hr.mono (by decide)) (takes_of rfl rfl rfl rfl) (by rfl) (fGlo 4 "_law_draw" T) (fKeep 5 "_law_draw" T) (da_cons (de_blt call_lenX sim_len (by rfl) (fFree 10 "len" T) PySem.boot_len (da_cons (de_var 10) da_nil)) da_nil)))))))
 dss_nil)))
 dss_nil)
 (dss_cons (ds_for (passes_of rfl) rfl (di_range1 (by rfl) (fFree 17 "range" T) (da_cons de_int da_nil)) (dg_name (i := 11) sc_law_names.nd rfl (by first | exact Or.inl rfl | exact Or.inr rfl))
 (dss_one (ds_if (DW.dt (dw_or (dt_inV hr.units (i := 9) (de_var 10)) (dw_or1 (dt_cmp (op_inX hr.units) sim_in (de_var 10) (de_var 2) (by rfl)))))
 (dss_one (ds_set (i := 10) sc_law_names.nd rfl (by first | exact Or.inl rfl | exact Or.inr rfl) (de_add (de_sl (de_var 10) dp_none (dp_some de_int)) (de_ix hr.units (de_var 3) (de_mod (de_var 11) de_int)))))
 dss_nil)))
 (dss_one (ds_expr (de_lm (i := 9) PySem.F.slot_list_append PySem.F.type_list_append mt_append sim_app (da_cons (de_var 10) da_nil))))))))
 (dss_one (ds_ret (de_var 9))))))))))))))⟩) (rd := rd_law_names)
theorem sc_law_centres : FnScope ["state", "kind"] ["state"] (defScope (top 16)) := ⟨rfl, rfl, rfl, by decide +kernel, rfl, by decide +kernel, by decide +kernel⟩
theorem ok_law_centres (T : TY w K mg) : FnD P w K mg base 4 (He.ga K "_law_centres") [0] sp_law_centres := by
  obtain ⟨fd, F⟩ := tDef T 4
  exact fnD_of (k := 3) (N := ["state", "kind"]) (ps := ["state"]) F sc_law_centres (F.bindsN fun _ _ _ _ _ _ us hl => match us, hl with | [_], _ => rfl) (by decide) (by decide) (by decide) len_law_centres (fun cdv A outer s H E hr => ⟨_, show DSs _ _ _ _ b_law_centres from
 (dss_cons (ds_set (i := 1) sc_law_centres.nd rfl (by first | exact Or.inl rfl | exact Or.inr rfl) (de_callIO 0 (ok_law_draw T) (hr.mono (by decide)) (takes_of rfl rfl rfl rfl) (by rfl) (fGlo 4 "_law_draw" T) (fKeep 5 "_law_draw" T) (da_cons de_int da_nil)))
 (dss_cons (ds_if (dt_cmp (op_eqX hr.units) sim_eq (de_var 1) de_int (nomark _))
 (dss_one (ds_ret (DO.fz (do_lst (da_cons de_int (da_cons (de_sub (de_callIO 0 (ok_law_draw T) (hr.mono (by decide)) (takes_of rfl rfl rfl rfl) (by rfl) (fGlo 4 "_law_draw" T) (fKeep 5 "_law_draw" T) (da_cons de_int da_nil)) de_int) da_nil))))))
 dss_nil)
 (dss_cons (ds_if (dt_cmp (op_eqX hr.units) sim_eq (de_var 1) de_int (nomark _))
 (dss_one (ds_ret (DO.fz (do_lst (da_cons de_int (da_cons (de_callIO 0 (ok_law_draw T) (hr.mono (by decide)) (takes_of rfl rfl rfl rfl) (by rfl) (fGlo 4 "_law_draw" T) (fKeep 5 "_law_draw" T) (da_cons (de_pow de_int de_int) da_nil)) da_nil))))))
 dss_nil)
 (dss_cons (ds_if (dt_cmp (op_eqX hr.units) sim_eq (de_var 1) de_int (nomark _))
 (dss_one (ds_ret (DO.fz (do_lst (da_cons de_int (da_cons (de_sub de_int (de_callIO 0 (ok_law_draw T) (hr.mono (by decide)) (takes_of rfl rfl rfl rfl) (by rfl) (fGlo 4 "_law_draw" T) (fKeep 5 "_law_draw" T) (da_cons (de_pow de_int de_int) da_nil))) da_nil))))))
 dss_nil)
 (dss_one (ds_ret (DO.fz (do_lst (da_cons de_int (da_cons de_int da_nil))))))))))⟩) (rd := rd_law_centres)
theorem sc_law_two_sides : FnScope ["state", "sides", "left"] ["state", "sides"] (defScope (top 19)) := ⟨rfl, rfl, rfl, by decide +kernel, rfl, by decide +kernel, by decide +kernel⟩
theorem ok_law_two_sides (T : TY w K mg) : FnD P w K mg base 4 (He.ga K "_law_two_sides") [0] sp_law_two_sides := by
  obtain ⟨fd, F⟩ := tDef T 5
  exact fnD_of (k := 3) (N := ["state", "sides", "left"]) (ps := ["state", "sides"]) F sc_law_two_sides (F.bindsN fun _ _ _ _ _ _ us hl => match us, hl with | [_, _], _ => rfl) (by decide) (by decide) (by decide) len_law_two_sides (fun cdv A outer s H E hr => ⟨_, show DSs _ _ _ _ b_law_two_sides from
 (dss_cons (ds_set (i := 2) sc_law_two_sides.nd rfl (by first | exact Or.inl rfl | exact Or.inr rfl) (de_callIO 0 (ok_law_draw T) (hr.mono (by decide)) (takes_of rfl rfl rfl rfl) (by rfl) (fGlo 4 "_law_draw" T) (fKeep 5 "_law_draw" T) (da_cons (de_blt call_lenX sim_len (by rfl) (fFree 10 "len" T) PySem.boot_len (da_cons (de_var 1) da_nil)) da_nil)))
 (dss_one (ds_ret (DO.fz (do_lst (da_cons (de_ix hr.units (de_var 1) (de_var 2)) (da_cons (de_ix hr.units (de_var 1) (de_mod (de_bty call_intV sim_int (by rfl) (fFree 27 "int" T) PyProof.Rows.boot_int (da_cons (de_add (de_add (de_var 2) de_int) (de_callIO 0 (ok_law_draw T) (hr.mono (by decide)) (takes_of rfl rfl rfl rfl) (by rfl) (fGlo 4 "_law_draw" T) (fKeep 5 "_law_draw" T) (da_cons (de_sub (de_blt call_lenX sim_len (by rfl) (fFree 10 "len" T) PySem.boot_len (da_cons (de_var 1) da_nil)) de_int) da_nil))) da_nil)) (de_blt call_lenX sim_len (by rfl) (fFree 10 "len" T) PySem.boot_len (da_cons (de_var 1) da_nil)))) da_nil)))))))⟩) (rd := rd_law_two_sides)
theorem sc_law_near : FnScope ["state", "centres"] ["state", "centres"] (defScope (top 17)) := ⟨rfl, rfl, rfl, by decide +kernel, rfl, by decide +kernel, by decide +kernel⟩
theorem ok_law_near (T : TY w K mg) : FnD P w K mg base 4 (He.ga K "_law_near") [0] sp_law_near := by
  obtain ⟨fd, F⟩ := tDef T 6
  exact fnD_of (k := 3) (N := ["state", "centres"]) (ps := ["state", "centres"]) F sc_law_near (F.bindsN fun _ _ _ _ _ _ us hl => match us, hl with | [_, _], _ => rfl) (by decide) (by decide) (by decide) len_law_near (fun cdv A outer s H E hr => ⟨_, show DSs _ _ _ _ b_law_near from
 (dss_cons (ds_if (dt_cmp (op_eqX hr.units) sim_eq (de_callIO 0 (ok_law_draw T) (hr.mono (by decide)) (takes_of rfl rfl rfl rfl) (by rfl) (fGlo 4 "_law_draw" T) (fKeep 5 "_law_draw" T) (da_cons de_int da_nil)) de_int (nomark _))
 (dss_one (ds_ret (de_mul (de_callIO 0 (ok_law_draw T) (hr.mono (by decide)) (takes_of rfl rfl rfl rfl) (by rfl) (fGlo 4 "_law_draw" T) (fKeep 5 "_law_draw" T) (da_cons (de_pow de_int de_int) da_nil)) (de_sub de_int (de_mul de_int (de_callIO 0 (ok_law_draw T) (hr.mono (by decide)) (takes_of rfl rfl rfl rfl) (by rfl) (fGlo 4 "_law_draw" T) (fKeep 5 "_law_draw" T) (da_cons de_int da_nil)))))))
 dss_nil)
 (dss_one (ds_ret (de_add (de_ix hr.units (de_var 1) (de_callIO 0 (ok_law_draw T) (hr.mono (by decide)) (takes_of rfl rfl rfl rfl) (by rfl) (fGlo 4 "_law_draw" T) (fKeep 5 "_law_draw" T) (da_cons de_int da_nil))) (de_ix hr.units (DO.fz (do_lst (da_cons de_int (da_cons de_int (da_cons (de_neg de_int) (da_cons de_int (da_cons (de_neg de_int) (da_cons de_int (da_cons (de_neg de_int) da_nil))))))))) (de_callIO 0 (ok_law_draw T) (hr.mono (by decide)) (takes_of rfl rfl rfl rfl) (by rfl) (fGlo 4 "_law_draw" T) (fKeep 5 "_law_draw" T) (da_cons de_int da_nil)))))))⟩) (rd := rd_law_near)
theorem sc_law_shift : FnScope ["state", "centres", "kind"] ["state", "centres"] (defScope (top 22)) := ⟨rfl, rfl, rfl, by decide +kernel, rfl, by decide +kernel, by decide +kernel⟩
theorem ok_law_shift (T : TY w K mg) : FnD P w K mg base 5 (He.ga K "_law_shift") [0] sp_law_shift := by
  obtain ⟨fd, F⟩ := tDef T 7
  exact fnD_of (k := 4) (N := ["state", "centres", "kind"]) (ps := ["state", "centres"]) F sc_law_shift (F.bindsN fun _ _ _ _ _ _ us hl => match us, hl with | [_, _], _ => rfl) (by decide) (by decide) (by decide) len_law_shift (fun cdv A outer s H E hr => ⟨_, show DSs _ _ _ _ b_law_shift from
 (dss_cons (ds_set (i := 2) sc_law_shift.nd rfl (by first | exact Or.inl rfl | exact Or.inr rfl) (de_callIO 0 (ok_law_draw T) (hr.mono (by decide)) (takes_of rfl rfl rfl rfl) (by rfl) (fGlo 4 "_law_draw" T) (fKeep 5 "_law_draw" T) (da_cons de_int da_nil)))
 (dss_cons (ds_if (dt_cmp op_lt sim_lt (de_var 2) de_int (nomark _))
 (dss_one (ds_ret (de_sub (de_callIO 0 (ok_law_draw T) (hr.mono (by decide)) (takes_of rfl rfl rfl rfl) (by rfl) (fGlo 4 "_law_draw" T) (fKeep 5 "_law_draw" T) (da_cons de_int da_nil)) de_int)))
 dss_nil)
 (dss_cons (ds_if (dt_cmp (op_eqX hr.units) sim_eq (de_var 2) de_int (nomark _))
 (dss_one (ds_ret (de_sub de_int (de_callIO 0 (ok_law_draw T) (hr.mono (by decide)) (takes_of rfl rfl rfl rfl) (by rfl) (fGlo 4 "_law_draw" T) (fKeep 5 "_law_draw" T) (da_cons de_int da_nil)))))
 dss_nil)
 (dss_one (ds_ret (de_callIO 0 (ok_law_near T) (hr.mono (by decide)) (takes_of rfl rfl rfl rfl) (by rfl) (fGlo 32 "_law_near" T) (fKeep 33 "_law_near" T) (da_cons (de_var 1) da_nil)))))))⟩) (rd := rd_law_shift)
theorem sc_law_some_bounds : FnScope ["state", "sides", "centres", "found", "k", "bound", "pair"] ["state", "sides", "centres"] (defScope (top 23)) := ⟨rfl, rfl, rfl, by decide +kernel, rfl, by decide +kernel, by decide +kernel⟩
theorem ok_law_some_bounds (T : TY w K mg) : FnD P w K mg base 6 (He.ga K "_law_some_bounds") [0] sp_law_some_bounds := by
  obtain ⟨fd, F⟩ := tDef T 8
  exact fnD_of (k := 5) (N := ["state", "sides", "centres", "found", "k", "bound", "pair"]) (ps := ["state", "sides", "centres"]) F sc_law_some_bounds (F.bindsN fun _ _ _ _ _ _ us hl => match us, hl with | [_, _, _], _ => rfl) (by decide) (by decide) (by decide) len_law_some_bounds (fun cdv A outer s H E hr => ⟨_, show DSs _ _ _ _ b_law_some_bounds from
 (dss_cons (ds_setO (i := 3) sc_law_some_bounds.nd rfl (by first | exact Or.inl rfl | exact Or.inr rfl) (do_lst da_nil))
 (dss_cons (ds_for (passes_of rfl) rfl (di_range1 (by rfl) (fFree 17 "range" T) (da_cons (de_callIO 0 (ok_law_draw T) (hr.mono (by decide)) (takes_of rfl rfl rfl rfl) (by rfl) (fGlo 4 "_law_draw" T) (fKeep 5 "_law_draw" T) (da_cons de_int da_nil)) da_nil)) (dg_name (i := 4) sc_law_some_bounds.nd rfl (by first | exact Or.inl rfl | exact Or.inr rfl))
 (dss_one (ds_if (DW.dt (dw_and (dt_cmp op_gt sim_gt (de_lenV (i := 3) rfl (by rfl) (fFree 10 "len" T)) de_int (nomark _)) (dw_and1 (dt_cmp (op_eqX hr.units) sim_eq (de_callIO 0 (ok_law_draw T) (hr.mono (by decide)) (takes_of rfl rfl rfl rfl) (by rfl) (fGlo 4 "_law_draw" T) (fKeep 5 "_law_draw" T) (da_cons de_int da_nil)) de_int (nomark _)))))
 (dss_cons (ds_set (i := 5) sc_law_some_bounds.nd rfl (by first | exact Or.inl rfl | exact Or.inr rfl) (de_ixV hr.units (i := 3) (de_callIO 0 (ok_law_draw T) (hr.mono (by decide)) (takes_of rfl rfl rfl rfl) (by rfl) (fGlo 4 "_law_draw" T) (fKeep 5 "_law_draw" T) (da_cons (de_lenV (i := 3) rfl (by rfl) (fFree 10 "len" T)) da_nil))))
 (dss_one (ds_expr (de_lm (i := 3) PySem.F.slot_list_append PySem.F.type_list_append mt_append sim_app (da_cons (de_tup (da_cons (de_ix hr.units (de_var 5) de_int) (da_cons (de_ix hr.units (de_var 5) de_int) (da_cons (de_sub (de_sub de_int (de_ix hr.units (de_var 5) de_int)) (de_callIO 0 (ok_law_draw T) (hr.mono (by decide)) (takes_of rfl rfl rfl rfl) (by rfl) (fGlo 4 "_law_draw" T) (fKeep 5 "_law_draw" T) (da_cons de_int da_nil))) da_nil)))) da_nil)))))
 (dss_cons (ds_set (i := 6) sc_law_some_bounds.nd rfl (by first | exact Or.inl rfl | exact Or.inr rfl) (de_callIO 0 (ok_law_two_sides T) (hr.mono (by decide)) (takes_of rfl rfl rfl rfl) (by rfl) (fGlo 19 "_law_two_sides" T) (fKeep 20 "_law_two_sides" T) (da_cons (de_var 1) da_nil)))
 (dss_one (ds_expr (de_lm (i := 3) PySem.F.slot_list_append PySem.F.type_list_append mt_append sim_app (da_cons (de_tup (da_cons (de_ix hr.units (de_var 6) de_int) (da_cons (de_ix hr.units (de_var 6) de_int) (da_cons (de_callIO 0 (ok_law_shift T) (hr.mono (by decide)) (takes_of rfl rfl rfl rfl) (by rfl) (fGlo 30 "_law_shift" T) (fKeep 31 "_law_shift" T) (da_cons (de_var 2) da_nil)) da_nil)))) da_nil))))))))
 (dss_one (ds_ret (de_var 3)))))⟩) (rd := rd_law_some_bounds)
theorem sc_law_ring : FnScope ["state", "sides", "centres", "first", "size", "found", "total", "k", "shift", "last"] ["state", "sides", "centres"] (defScope (top 24)) := ⟨rfl, rfl, rfl, by decide +kernel, rfl, by decide +kernel, by decide +kernel⟩
theorem ok_law_ring (T : TY w K mg) : FnD P w K mg base 6 (He.ga K "_law_ring") [0] sp_law_ring := by
  obtain ⟨fd, F⟩ := tDef T 9
  exact fnD_of (k := 5) (N := ["state", "sides", "centres", "first", "size", "found", "total", "k", "shift", "last"]) (ps := ["state", "sides", "centres"]) F sc_law_ring (F.bindsN fun _ _ _ _ _ _ us hl => match us, hl with | [_, _, _], _ => rfl) (by decide) (by decide) (by decide) len_law_ring (fun cdv A outer s H E hr => ⟨_, show DSs _ _ _ _ b_law_ring from
 (dss_cons (ds_set (i := 3) sc_law_ring.nd rfl (by first | exact Or.inl rfl | exact Or.inr rfl) (de_callIO 0 (ok_law_draw T) (hr.mono (by decide)) (takes_of rfl rfl rfl rfl) (by rfl) (fGlo 4 "_law_draw" T) (fKeep 5 "_law_draw" T) (da_cons (de_blt call_lenX sim_len (by rfl) (fFree 10 "len" T) PySem.boot_len (da_cons (de_var 1) da_nil)) da_nil)))
 (dss_cons (ds_set (i := 4) sc_law_ring.nd rfl (by first | exact Or.inl rfl | exact Or.inr rfl) (de_add de_int (de_callIO 0 (ok_law_draw T) (hr.mono (by decide)) (takes_of rfl rfl rfl rfl) (by rfl) (fGlo 4 "_law_draw" T) (fKeep 5 "_law_draw" T) (da_cons (de_sub (de_blt call_lenX sim_len (by rfl) (fFree 10 "len" T) PySem.boot_len (da_cons (de_var 1) da_nil)) de_int) da_nil))))
 (dss_cons (ds_setO (i := 5) sc_law_ring.nd rfl (by first | exact Or.inl rfl | exact Or.inr rfl) (do_lst da_nil))
 (dss_cons (ds_set (i := 6) sc_law_ring.nd rfl (by first | exact Or.inl rfl | exact Or.inr rfl) de_int)
 (dss_cons (ds_for (passes_of rfl) rfl (di_range1 (by rfl) (fFree 17 "range" T) (da_cons (de_sub (de_var 4) de_int) da_nil)) (dg_name (i := 7) sc_law_ring.nd rfl (by first | exact Or.inl rfl | exact Or.inr rfl))
 (dss_cons (ds_set (i := 8) sc_law_ring.nd rfl (by first | exact Or.inl rfl | exact Or.inr rfl) (de_callIO 0 (ok_law_shift T) (hr.mono (by decide)) (takes_of rfl rfl rfl rfl) (by rfl) (fGlo 30 "_law_shift" T) (fKeep 31 "_law_shift" T) (da_cons (de_var 2) da_nil)))
 (dss_cons (ds_set (i := 6) sc_law_ring.nd rfl (by first | exact Or.inl rfl | exact Or.inr rfl) (de_add (de_var 6) (de_var 8)))
 (dss_one (ds_expr (de_lm (i := 5) PySem.F.slot_list_append PySem.F.type_list_append mt_append sim_app (da_cons (de_tup (da_cons (de_ix hr.units (de_var 1) (de_mod (de_bty call_intV sim_int (by rfl) (fFree 27 "int" T) PyProof.Rows.boot_int (da_cons (de_add (de_var 3) (de_var 7)) da_nil)) (de_blt call_lenX sim_len (by rfl) (fFree 10 "len" T) PySem.boot_len (da_cons (de_var 1) da_nil)))) (da_cons (de_ix hr.units (de_var 1) (de_mod (de_bty call_intV sim_int (by rfl) (fFree 27 "int" T) PyProof.Rows.boot_int (da_cons (de_add (de_add (de_var 3) (de_var 7)) de_int) da_nil)) (de_blt call_lenX sim_len (by rfl) (fFree 10 "len" T) PySem.boot_len (da_cons (de_var 1) da_nil)))) (da_cons (de_var 8) da_nil)))) da_nil)))))))
 (dss_cons (ds_set (i := 9) sc_law_ring.nd rfl (by first | exact Or.inl rfl | exact Or.inr rfl) (de_ix hr.units (DO.fz (do_lst (da_cons de_int (da_cons (de_sub de_int de_int) (da_cons (de_sub de_int de_int) (da_cons (de_callIO 0 (ok_law_shift T) (hr.mono (by decide)) (takes_of rfl rfl rfl rfl) (by rfl) (fGlo 30 "_law_shift" T) (fKeep 31 "_law_shift" T) (da_cons (de_var 2) da_nil)) da_nil)))))) (de_callIO 0 (ok_law_draw T) (hr.mono (by decide)) (takes_of rfl rfl rfl rfl) (by rfl) (fGlo 4 "_law_draw" T) (fKeep 5 "_law_draw" T) (da_cons de_int da_nil))))
 (dss_cons (ds_expr (de_lm (i := 5) PySem.F.slot_list_append PySem.F.type_list_append mt_append sim_app (da_cons (de_tup (da_cons (de_ix hr.units (de_var 1) (de_mod (de_bty call_intV sim_int (by rfl) (fFree 27 "int" T) PyProof.Rows.boot_int (da_cons (de_sub (de_add (de_var 3) (de_var 4)) de_int) da_nil)) (de_blt call_lenX sim_len (by rfl) (fFree 10 "len" T) PySem.boot_len (da_cons (de_var 1) da_nil)))) (da_cons (de_ix hr.units (de_var 1) (de_var 3)) (da_cons (de_sub (de_var 9) (de_var 6)) da_nil)))) da_nil)))
 (dss_cons (ds_if (dt_cmp (op_eqX hr.units) sim_eq (de_callIO 0 (ok_law_draw T) (hr.mono (by decide)) (takes_of rfl rfl rfl rfl) (by rfl) (fGlo 4 "_law_draw" T) (fKeep 5 "_law_draw" T) (da_cons de_int da_nil)) de_int (nomark _))
 (dss_one (ds_setO (i := 5) sc_law_ring.nd rfl (by first | exact Or.inl rfl | exact Or.inr rfl) (do_lc (own := [("k", 7)]) rfl sc_law_ring.nd (di_range1 (by rfl) (fFree 17 "range" T) (da_cons (de_lenV (i := 5) rfl (by rfl) (fFree 10 "len" T)) da_nil)) (blkOk_by (by kernel_rfl)) (own_name (by decide)) (dg_name (i := 7) sc_law_ring.nd rfl (by first | exact Or.inl rfl | exact Or.inr rfl)) (fun _ _ _ _ _ => (dg_name (i := 7) sc_law_ring.nd rfl (by first | exact Or.inl rfl | exact Or.inr rfl))) dts_nil (fun _ _ _ _ _ => dts_nil) (de_ixV hr.units (i := 5) (de_sub (de_sub (de_lenV (i := 5) rfl (by rfl) (fFree 10 "len" T)) de_int) (de_var 7))) (fun _ _ _ _ _ => (de_ixV hr.units (i := 5) (de_sub (de_sub (de_lenV (i := 5) rfl (by rfl) (fFree 10 "len" T)) de_int) (de_var 7)))))))
 dss_nil)
 (dss_one (ds_ret (de_var 5)))))))))))⟩) (rd := rd_law_ring)
theorem sc_Bounds_init : FnScope ["self", "start", "names"] ["self", "start", "names"] (defScope (inClass (top 8) 0)) := ⟨rfl, rfl, rfl, by decide +kernel, rfl, by decide +kernel, by decide +kernel⟩
theorem wk_Bounds_init (T : TY w K mg) {qual : Str} {f : Addr} (cdv : Value) (A : Around) (outer : List Env) (s : Shared) (H : Hp) (E : XK) (hr : Room 1 (A.deeper (PyProof.Rows.envOfC qual (defScope (inClass (top 8) 0)) s.heap.objs.size f cdv))) :
    ∃ ts, DSs (cxOf (L2N.CX P w) P w K mg base ["self", "start", "names"] qual (defScope (inClass (top 8) 0)) f cdv A outer s H E) (wBody E) (defBody (inClass (top 8) 0)) ts b_Bounds_init := ⟨_, show DSs _ _ _ _ b_Bounds_init from
 (dss_cons (ds_fld (i := 0) (fldOk1 (fCls 21 "Bounds" T) (fNoat 36 "Bounds" "names" T)) (de_var 2))
 (dss_cons (ds_if (dt_cmp op_isC sim_is (de_var 1) de_non (nomark _))
 (dss_one (ds_set (i := 1) sc_Bounds_init.nd rfl (by first | exact Or.inl rfl | exact Or.inr rfl) (de_tup (da_cons (de_tup da_nil) (da_cons de_non (da_cons (DO.fz do_dnew) da_nil))))))
 dss_nil)
 (dss_cons (ds_fld (i := 0) (fldOk1 (fCls 21 "Bounds" T) (fNoat 26 "Bounds" "added" T)) (de_ix hr.units (de_var 1) de_int))
 (dss_cons (ds_fld (i := 0) (fldOk1 (fCls 21 "Bounds" T) (fNoat 22 "Bounds" "cycle" T)) (de_ix hr.units (de_var 1) de_int))
 (dss_one (ds_fld (i := 0) (fldOk1 (fCls 21 "Bounds" T) (fNoat 37 "Bounds" "chains" T)) (de_ix hr.units (de_var 1) de_int)))))))⟩
theorem ok_Bounds_init_k (T : TY w K mg) : FnRK P w K mg base (L2N.CX P w) 2 (He.ma K (He.ga K "Bounds") "__init__") ["start"] (fun vs zs => spOf ⟨K, w⟩ [0] (kwS 1 sp_Bounds_init) (vs ++ zs)) := by
  obtain ⟨fd, F⟩ := tDef T 10
  exact fnKS (k := 1) (N := ["self", "start", "names"]) (pp := ["self"]) (pv := "names") (kn := "start") F sc_Bounds_init (fun _ _ _ _ _ _ us rest z hl => by
    match us, hl with
    | [_], _ => cases rest <;> rfl) (by decide) (by decide) (by decide) len_Bounds_init (fun cdv A outer s H E hr => wk_Bounds_init T cdv A outer s H E hr) rd_Bounds_init
theorem ok_Bounds_init_0 (T : TY w K mg) : FnR P w K mg base (L2N.CX P w) 2 (He.ma K (He.ga K "Bounds") "__init__") (spOf ⟨K, w⟩ [0] (stK 1 (.non) sp_Bounds_init)) := by
  obtain ⟨fd, F⟩ := tDef T 10
  exact fnKS0 (k := 1) (N := ["self", "start", "names"]) (pp := ["self"]) (pv := "names") (kn := "start") F sc_Bounds_init (fun _ => rfl) (fun _ _ _ _ _ _ us rest z hl => by
    match us, hl with
    | [_], _ => cases rest <;> exact ⟨_, _, _, _, _, _, rfl, rfl, rfl⟩) (by decide) (by decide) (by decide) len_Bounds_init (fun cdv A outer s H E hr => wk_Bounds_init T cdv A outer s H E hr) rd_Bounds_init
theorem sc_law_bounds_of : FnScope ["names"] ["names"] (defScope (top 18)) := ⟨rfl, rfl, rfl, by decide +kernel, rfl, by decide +kernel, by decide +kernel⟩
theorem ok_law_bounds_of (T : TY w K mg) : FnD P w K mg base 4 (He.ga K "_law_bounds_of") [] sp_law_bounds_of := by
  obtain ⟨fd, F⟩ := tDef T 11
  exact fnD_of (k := 3) (N := ["names"]) (ps := ["names"]) F sc_law_bounds_of (F.bindsN fun _ _ _ _ _ _ us hl => match us, hl with | [_], _ => rfl) (by decide) (by decide) (by decide) len_law_bounds_of (fun cdv A outer s H E hr => ⟨_, show DSs _ _ _ _ b_law_bounds_of from
 (dss_cons (ds_if (dt_cmp (op_eqX hr.units) sim_eq (de_blt call_lenX sim_len (by rfl) (fFree 10 "len" T) PySem.boot_len (da_cons (de_var 0) da_nil)) de_int (nomark _))
 (dss_one (ds_ret (DO.fz (do_makeG (C := "Bounds") (fMkr 34 "Bounds" T) (FnR.toK (ok_Bounds_init_0 T)) (hr.mono (by decide)) (takes_of rfl rfl rfl rfl) (by rfl) (fGlo 35 "Bounds" T) (dag_plain (da_cons (de_ix hr.units (de_var 0) de_int) da_nil))))))
 dss_nil)
 (dss_cons (ds_if (dt_cmp (op_eqX hr.units) sim_eq (de_blt call_lenX sim_len (by rfl) (fFree 10 "len" T) PySem.boot_len (da_cons (de_var 0) da_nil)) de_int (nomark _))
 (dss_one (ds_ret (DO.fz (do_makeG (C := "Bounds") (fMkr 34 "Bounds" T) (FnR.toK (ok_Bounds_init_0 T)) (hr.mono (by decide)) (takes_of rfl rfl rfl rfl) (by rfl) (fGlo 35 "Bounds" T) (dag_plain (da_cons (de_ix hr.units (de_var 0) de_int) (da_cons (de_ix hr.units (de_var 0) de_int) da_nil)))))))
 dss_nil)
 (dss_cons (ds_if (dt_cmp (op_eqX hr.units) sim_eq (de_blt call_lenX sim_len (by rfl) (fFree 10 "len" T) PySem.boot_len (da_cons (de_var 0) da_nil)) de_int (nomark _))
 (dss_one (ds_ret (DO.fz (do_makeG (C := "Bounds") (fMkr 34 "Bounds" T) (FnR.toK (ok_Bounds_init_0 T)) (hr.mono (by decide)) (takes_of rfl rfl rfl rfl) (by rfl) (fGlo 35 "Bounds" T) (dag_plain (da_cons (de_ix hr.units (de_var 0) de_int) (da_cons (de_ix hr.units (de_var 0) de_int) (da_cons (de_ix hr.units (de_var 0) de_int) da_nil))))))))
 dss_nil)
 (dss_one (ds_ret (DO.fz (do_makeG (C := "Bounds") (fMkr 34 "Bounds" T) (FnR.toK (ok_Bounds_init_0 T)) (hr.mono (by decide)) (takes_of rfl rfl rfl rfl) (by rfl) (fGlo 35 "Bounds" T) (dag_plain (da_cons (de_ix hr.units (de_var 0) de_int) (da_cons (de_ix hr.units (de_var 0) de_int) (da_cons (de_ix hr.units (de_var 0) de_int) (da_cons (de_ix hr.units (de_var 0) de_int) da_nil))))))))))))⟩) (rd := rd_law_bounds_of)
theorem sc_law_same : FnScope ["one", "other", "k"] ["one", "other"] (defScope (top 13)) := ⟨rfl, rfl, rfl, by decide +kernel, rfl, by decide +kernel, by decide +kernel⟩
theorem ok_law_same_n (T : TY w K mg) : ∀ n : Nat, FnD P w K mg base (2 + n) (He.ga K "_law_same") [] (sp_law_same_n n)
  | 0 => fnD_no
  | n + 1 => by
    have rc := ok_law_same_n T n
    obtain ⟨fd, F⟩ := tDef T 12
    exact fnD_of (k := 2 + n) (N := ["one", "other", "k"]) (ps := ["one", "other"]) F sc_law_same (F.bindsN fun _ _ _ _ _ _ us hl => match us, hl with | [_, _], _ => rfl) (by decide) (by decide) (by decide) (len_law_same_n _) (fun cdv A outer s H E hr => ⟨_, show DSs _ _ _ _ (b_law_same (sp_law_same_n n)) from
 (dss_cons (ds_if (dt_cmp op_isC sim_is (de_var 1) de_non (nomark _))
 (dss_one (ds_ret (de_cmp op_isC sim_is (de_var 0) de_non (nomark _))))
 dss_nil)
 (dss_cons (ds_if (dt_cmp op_isC sim_is (de_var 1) de_bl (nomark _))
 (dss_one (ds_ret (de_cmp op_isC sim_is (de_var 0) de_bl (nomark _))))
 dss_nil)
 (dss_cons (ds_if (dt_cmp op_isC sim_is (de_var 1) de_bl (nomark _))
 (dss_one (ds_ret (de_cmp op_isC sim_is (de_var 0) de_bl (nomark _))))
 dss_nil)
 (dss_cons (ds_if (dt_truth (de_isiT (T := "int") rfl (isiInt_ok (tFact T 51)) (by rfl) (fFree 46 "isinstance" T) (by rfl) (fFree 27 "int" T) (by decide +kernel) (de_var 1)))
 (dss_one (ds_ret (de_and (de_isiT (T := "int") rfl (isiInt_ok (tFact T 51)) (by rfl) (fFree 46 "isinstance" T) (by rfl) (fFree 27 "int" T) (by decide +kernel) (de_var 0)) (de_and (de_not (de_isiT (T := "bool") rfl (isiBool_ok (tFact T 52)) (by rfl) (fFree 46 "isinstance" T) (by rfl) (fFree 53 "bool" T) (by decide +kernel) (de_var 0))) (de_one (de_cmp (op_eqX hr.units) sim_eq (de_var 0) (de_var 1) (nomark _)))))))
 dss_nil)
 (dss_cons (ds_if (dt_truth (de_isiT (T := "str") rfl (isiStr_ok (tFact T 54)) (by rfl) (fFree 46 "isinstance" T) (by rfl) (fFree 55 "str" T) (by decide +kernel) (de_var 1)))
 (dss_one (ds_ret (de_and (de_isiT (T := "str") rfl (isiStr_ok (tFact T 54)) (by rfl) (fFree 46 "isinstance" T) (by rfl) (fFree 55 "str" T) (by decide +kernel) (de_var 0)) (de_one (de_cmp (op_eqX hr.units) sim_eq (de_var 0) (de_var 1) (nomark _))))))
 dss_nil)
 (dss_cons (ds_if (dt_truth (de_isiT (T := "dict") rfl (isiDct_ok (tFact T 45)) (by rfl) (fFree 46 "isinstance" T) (by rfl) (fFree 47 "dict" T) (by decide +kernel) (de_var 1)))
 (dss_cons (ds_if (DW.dt (dw_or (dt_not (dt_truth (de_isiT (T := "dict") rfl (isiDct_ok (tFact T 45)) (by rfl) (fFree 46 "isinstance" T) (by rfl) (fFree 47 "dict" T) (by decide +kernel) (de_var 0)))) (dw_or1 (dt_cmp (op_neX hr.units) sim_ne (de_blt call_lenX sim_len (by rfl) (fFree 10 "len" T) PySem.boot_len (da_cons (de_var 0) da_nil)) (de_blt call_lenX sim_len (by rfl) (fFree 10 "len" T) PySem.boot_len (da_cons (de_var 1) da_nil)) (nomark _)))))
 (dss_one (ds_ret de_bl))
 dss_nil)
 (dss_one (ds_ret (de_call rc (hr.mono (by omega)) (takes_of rfl rfl rfl rfl) (by rfl) (fGlo 23 "_law_same" T) (fKeep 24 "_law_same" T) (da_cons (DO.fz (do_list rfl (by rfl) (fFree 48 "list" T) de_never)) (da_cons (DO.fz (do_list rfl (by rfl) (fFree 48 "list" T) de_never)) da_nil))))))
 dss_nil)
 (dss_cons (ds_if (DW.dt (dw_and (dt_truth (de_isiT (T := "tuple") rfl (isiTup_ok (tFact T 56)) (by rfl) (fFree 46 "isinstance" T) (by rfl) (fFree 25 "tuple" T) (by decide +kernel) (de_var 1))) (dw_and1 (dt_not (dt_truth (de_isiT (T := "tuple") rfl (isiTup_ok (tFact T 56)) (by rfl) (fFree 46 "isinstance" T) (by rfl) (fFree 25 "tuple" T) (by decide +kernel) (de_var 0)))))))
 (dss_one (ds_ret de_bl))
 dss_nil)
 (dss_cons (ds_if (DW.dt (dw_and (dt_truth (de_isiT (T := "list") rfl (isiLst_ok (tFact T 57)) (by rfl) (fFree 46 "isinstance" T) (by rfl) (fFree 48 "list" T) (by decide +kernel) (de_var 1))) (dw_and1 (dt_not (dt_truth (de_isiT (T := "list") rfl (isiLst_ok (tFact T 57)) (by rfl) (fFree 46 "isinstance" T) (by rfl) (fFree 48 "list" T) (by decide +kernel) (de_var 0)))))))
 (dss_one (ds_ret de_bl))
 dss_nil)
 (dss_cons (ds_if (dt_cmp (op_neX hr.units) sim_ne (de_blt call_lenX sim_len (by rfl) (fFree 10 "len" T) PySem.boot_len (da_cons (de_var 0) da_nil)) (de_blt call_lenX sim_len (by rfl) (fFree 10 "len" T) PySem.boot_len (da_cons (de_var 1) da_nil)) (nomark _))
 (dss_one (ds_ret de_bl))
 dss_nil)
 (dss_cons (ds_for (passes_of rfl) rfl (di_range1 (by rfl) (fFree 17 "range" T) (da_cons (de_blt call_lenX sim_len (by rfl) (fFree 10 "len" T) PySem.boot_len (da_cons (de_var 1) da_nil)) da_nil)) (dg_name (i := 2) sc_law_same.nd rfl (by first | exact Or.inl rfl | exact Or.inr rfl))
 (dss_one (ds_if (dt_not (dt_truth (de_call rc (hr.mono (by omega)) (takes_of rfl rfl rfl rfl) (by rfl) (fGlo 23 "_law_same" T) (fKeep 24 "_law_same" T) (da_cons (de_ix hr.units (de_var 0) (de_var 2)) (da_cons (de_ix hr.units (de_var 1) (de_var 2)) da_nil)))))
 (dss_one (ds_ret de_bl))
 dss_nil)))
 (dss_one (ds_ret de_bl))))))))))))⟩) (rd := rd_law_same_n n)
theorem ok_law_same (T : TY w K mg) : FnD P w K mg base 8 (He.ga K "_law_same") [] sp_law_same := (ok_law_same_n T 6).mono (by decide)
theorem okH_law_same_n (T : TY w K mg) : ∀ n : Nat, FnHD P w K mg base (2 + n) (He.ga K "_law_same") ["one", "other"] (sp_law_same_n n)
  | 0 => by
    obtain ⟨fd, F⟩ := tDef T 12
    exact fnHD_no F (F.bindsN fun _ _ _ _ _ _ us hl => match us, hl with | [_, _], _ => rfl)
  | n + 1 => by
    have rc := okH_law_same_n T n
    obtain ⟨fd, F⟩ := tDef T 12
    exact fnHD_of (k := 2 + n) (N := ["one", "other", "k"]) (ps := ["one", "other"]) F sc_law_same (F.bindsN fun _ _ _ _ _ _ us hl => match us, hl with | [_, _], _ => rfl) (by decide) (len_law_same_n _) (fun cdv A outer s H E p hc hr => ⟨_, show DSs _ _ _ _ (b_law_same (sp_law_same_n n)) from
 (dss_cons (ds_if (dt_cmp op_isC sim_is (de_var 1) de_non (nomark _))
 (dss_one (ds_ret (de_cmp op_isC sim_is (de_var 0) de_non (nomark _))))
 dss_nil)
 (dss_cons (ds_if (dt_cmp op_isC sim_is (de_var 1) de_bl (nomark _))
 (dss_one (ds_ret (de_cmp op_isC sim_is (de_var 0) de_bl (nomark _))))
 dss_nil)
 (dss_cons (ds_if (dt_cmp op_isC sim_is (de_var 1) de_bl (nomark _))
 (dss_one (ds_ret (de_cmp op_isC sim_is (de_var 0) de_bl (nomark _))))
 dss_nil)
 (dss_cons (ds_if (dt_truth (de_isiT (T := "int") rfl (isiInt_ok (tFact T 51)) (by rfl) (fFree 46 "isinstance" T) (by rfl) (fFree 27 "int" T) (by decide +kernel) (de_var 1)))
 (dss_one (ds_ret (de_and (de_isiT (T := "int") rfl (isiInt_ok (tFact T 51)) (by rfl) (fFree 46 "isinstance" T) (by rfl) (fFree 27 "int" T) (by decide +kernel) (de_var 0)) (de_and (de_not (de_isiT (T := "bool") rfl (isiBool_ok (tFact T 52)) (by rfl) (fFree 46 "isinstance" T) (by rfl) (fFree 53 "bool" T) (by decide +kernel) (de_var 0))) (de_one (de_cmp (op_eqX (unitsH hr)) sim_eq (de_var 0) (de_var 1) (nomark _)))))))
 dss_nil)
 (dss_cons (ds_if (dt_truth (de_isiT (T := "str") rfl (isiStr_ok (tFact T 54)) (by rfl) (fFree 46 "isinstance" T) (by rfl) (fFree 55 "str" T) (by decide +kernel) (de_var 1)))
 (dss_one (ds_ret (de_and (de_isiT (T := "str") rfl (isiStr_ok (tFact T 54)) (by rfl) (fFree 46 "isinstance" T) (by rfl) (fFree 55 "str" T) (by decide +kernel) (de_var 0)) (de_one (de_cmp (op_eqX (unitsH hr)) sim_eq (de_var 0) (de_var 1) (nomark _))))))
 dss_nil)
 (dss_cons (ds_if (dt_truth (de_isiT (T := "dict") rfl (isiDct_ok (tFact T 45)) (by rfl) (fFree 46 "isinstance" T) (by rfl) (fFree 47 "dict" T) (by decide +kernel) (de_var 1)))
 (dss_cons (ds_if (DW.dt (dw_or (dt_not (dt_truth (de_isiT (T := "dict") rfl (isiDct_ok (tFact T 45)) (by rfl) (fFree 46 "isinstance" T) (by rfl) (fFree 47 "dict" T) (by decide +kernel) (de_var 0)))) (dw_or1 (dt_cmp (op_neX (unitsH hr)) sim_ne (de_blt call_lenX sim_len (by rfl) (fFree 10 "len" T) PySem.boot_len (da_cons (de_var 0) da_nil)) (de_blt call_lenX sim_len (by rfl) (fFree 10 "len" T) PySem.boot_len (da_cons (de_var 1) da_nil)) (nomark _)))))
 (dss_one (ds_ret de_bl))
 dss_nil)
 (dss_one (ds_ret (de_callH rc (hr.mono (by omega)) hc (takes_of rfl rfl rfl rfl) (by rfl) (fGlo 23 "_law_same" T) (fKeep 24 "_law_same" T) (da_cons (DO.fz (do_list rfl (by rfl) (fFree 48 "list" T) de_never)) (da_cons (DO.fz (do_list rfl (by rfl) (fFree 48 "list" T) de_never)) da_nil))))))
 dss_nil)
 (dss_cons (ds_if (DW.dt (dw_and (dt_truth (de_isiT (T := "tuple") rfl (isiTup_ok (tFact T 56)) (by rfl) (fFree 46 "isinstance" T) (by rfl) (fFree 25 "tuple" T) (by decide +kernel) (de_var 1))) (dw_and1 (dt_not (dt_truth (de_isiT (T := "tuple") rfl (isiTup_ok (tFact T 56)) (by rfl) (fFree 46 "isinstance" T) (by rfl) (fFree 25 "tuple" T) (by decide +kernel) (de_var 0)))))))
 (dss_one (ds_ret de_bl))
 dss_nil)
 (dss_cons (ds_if (DW.dt (dw_and (dt_truth (de_isiT (T := "list") rfl (isiLst_ok (tFact T 57)) (by rfl) (fFree 46 "isinstance" T) (by rfl) (fFree 48 "list" T) (by decide +kernel) (de_var 1))) (dw_and1 (dt_not (dt_truth (de_isiT (T := "list") rfl (isiLst_ok (tFact T 57)) (by rfl) (fFree 46 "isinstance" T) (by rfl) (fFree 48 "list" T) (by decide +kernel) (de_var 0)))))))
 (dss_one (ds_ret de_bl))
 dss_nil)
 (dss_cons (ds_if (dt_cmp (op_neX (unitsH hr)) sim_ne (de_blt call_lenX sim_len (by rfl) (fFree 10 "len" T) PySem.boot_len (da_cons (de_var 0) da_nil)) (de_blt call_lenX sim_len (by rfl) (fFree 10 "len" T) PySem.boot_len (da_cons (de_var 1) da_nil)) (nomark _))
 (dss_one (ds_ret de_bl))
 dss_nil)
 (dss_cons (ds_forH (passes_of rfl) hc (di_range1H (by rfl) (fFree 17 "range" T) (da_cons (de_blt call_lenX sim_len (by rfl) (fFree 10 "len" T) PySem.boot_len (da_cons (de_var 1) da_nil)) da_nil)) (dg_name (i := 2) sc_law_same.nd rfl (by first | exact Or.inl rfl | exact Or.inr rfl))
 (dss_one (ds_if (dt_not (dt_truth (de_callH rc (hr.mono (by omega)) hc (takes_of rfl rfl rfl rfl) (by rfl) (fGlo 23 "_law_same" T) (fKeep 24 "_law_same" T) (da_cons (de_ix (unitsH hr) (de_var 0) (de_var 2)) (da_cons (de_ix (unitsH hr) (de_var 1) (de_var 2)) da_nil)))))
 (dss_one (ds_ret de_bl))
 dss_nil)))
 (dss_one (ds_ret de_bl))))))))))))⟩) (rd := rd_law_same_n n)
theorem okH_law_same (T : TY w K mg) : FnHD P w K mg base 8 (He.ga K "_law_same") ["one", "other"] sp_law_same := (okH_law_same_n T 6).mono (by decide)
theorem sc_law_number : FnScope ["one"] ["one"] (defScope (top 14)) := ⟨rfl, rfl, rfl, by decide +kernel, rfl, by decide +kernel, by decide +kernel⟩
theorem ok_law_number (T : TY w K mg) : FnD P w K mg base 2 (He.ga K "_law_number") [] sp_law_number := by
  obtain ⟨fd, F⟩ := tDef T 13
  exact fnD_of (k := 1) (N := ["one"]) (ps := ["one"]) F sc_law_number (F.bindsN fun _ _ _ _ _ _ us hl => match us, hl with | [_], _ => rfl) (by decide) (by decide) (by decide) len_law_number (fun cdv A outer s H E hr => ⟨_, show DSs _ _ _ _ b_law_number from
 (dss_one (ds_ret (de_and (de_isiT (T := "int") rfl (isiInt_ok (tFact T 51)) (by rfl) (fFree 46 "isinstance" T) (by rfl) (fFree 27 "int" T) (by decide +kernel) (de_var 0)) (de_one (de_not (de_isiT (T := "bool") rfl (isiBool_ok (tFact T 52)) (by rfl) (fFree 46 "isinstance" T) (by rfl) (fFree 53 "bool" T) (by decide +kernel) (de_var 0)))))))⟩) (rd := rd_law_number)
theorem sc_law_keeps : FnScope ["model", "names", "bounds", "name", "bound", "left", "right"] ["model", "names", "bounds"] (defScope (top 20)) := ⟨rfl, rfl, rfl, by decide +kernel, rfl, by decide +kernel, by decide +kernel⟩
theorem ok_law_keeps (T : TY w K mg) : FnD P w K mg base 9 (He.ga K "_law_keeps") [] sp_law_keeps := by
  obtain ⟨fd, F⟩ := tDef T 14
  exact fnD_of (k := 8) (N := ["model", "names", "bounds", "name", "bound", "left", "right"]) (ps := ["model", "names", "bounds"]) F sc_law_keeps (F.bindsN fun _ _ _ _ _ _ us hl => match us, hl with | [_, _, _], _ => rfl) (by decide) (by decide) (by decide) len_law_keeps (fun cdv A outer s H E hr => ⟨_, show DSs _ _ _ _ b_law_keeps from
 (dss_cons (ds_if (DW.dt (dw_or (dt_not (dt_truth (de_isiT (T := "dict") rfl (isiDct_ok (tFact T 45)) (by rfl) (fFree 46 "isinstance" T) (by rfl) (fFree 47 "dict" T) (by decide +kernel) (de_var 0)))) (dw_or1 (dt_not (dt_truth (de_call (ok_law_same T) (hr.mono (by decide)) (takes_of rfl rfl rfl rfl) (by rfl) (fGlo 23 "_law_same" T) (fKeep 24 "_law_same" T) (da_cons (DO.fz (do_listD rfl rfl (by rfl) (fFree 48 "list" T) (de_var 0))) (da_cons (de_var 1) da_nil))))))))
 (dss_one (ds_ret de_bl))
 dss_nil)
 (dss_cons (ds_for (passes_of rfl) rfl (di_seq (de_var 1)) (dg_name (i := 3) sc_law_keeps.nd rfl (by first | exact Or.inl rfl | exact Or.inr rfl))
 (dss_one (ds_if (dt_not (dt_truth (de_call (ok_law_number T) (hr.mono (by decide)) (takes_of rfl rfl rfl rfl) (by rfl) (fGlo 49 "_law_number" T) (fKeep 50 "_law_number" T) (da_cons (de_ix hr.units (de_var 0) (de_var 3)) da_nil))))
 (dss_one (ds_ret de_bl))
 dss_nil)))
 (dss_cons (ds_for (passes_of rfl) rfl (di_seq (de_var 2)) (dg_name (i := 4) sc_law_keeps.nd rfl (by first | exact Or.inl rfl | exact Or.inr rfl))
 (dss_cons (ds_set (i := 5) sc_law_keeps.nd rfl (by first | exact Or.inl rfl | exact Or.inr rfl) de_int)
 (dss_cons (ds_set (i := 6) sc_law_keeps.nd rfl (by first | exact Or.inl rfl | exact Or.inr rfl) de_int)
 (dss_cons (ds_if (dt_cmp op_isNC sim_is (de_ix hr.units (de_var 4) de_int) de_non (nomark _))
 (dss_one (ds_set (i := 5) sc_law_keeps.nd rfl (by first | exact Or.inl rfl | exact Or.inr rfl) (de_ix hr.units (de_var 0) (de_ix hr.units (de_var 4) de_int))))
 dss_nil)
 (dss_cons (ds_if (dt_cmp op_isNC sim_is (de_ix hr.units (de_var 4) de_int) de_non (nomark _))
 (dss_one (ds_set (i := 6) sc_law_keeps.nd rfl (by first | exact Or.inl rfl | exact Or.inr rfl) (de_ix hr.units (de_var 0) (de_ix hr.units (de_var 4) de_int))))
 dss_nil)
 (dss_one (ds_if (dt_cmp op_gt sim_gt (de_sub (de_var 5) (de_var 6)) (de_ix hr.units (de_var 4) de_int) (nomark _))
 (dss_one (ds_ret de_bl))
 dss_nil)))))))
 (dss_one (ds_ret de_bl)))))⟩) (rd := rd_law_keeps)
theorem sc_chain_shift : FnScope ["chains", "left", "right"] ["chains", "left", "right"] (defScope (top 5)) := ⟨rfl, rfl, rfl, by decide +kernel, rfl, by decide +kernel, by decide +kernel⟩
theorem ok_chain_shift (T : TY w K mg) : FnD P w K mg base 2 (He.ga K "chain_shift") [] sp_chain_shift := by
  obtain ⟨fd, F⟩ := tDef T 15
  exact fnD_of (k := 1) (N := ["chains", "left", "right"]) (ps := ["chains", "left", "right"]) F sc_chain_shift (F.bindsN fun _ _ _ _ _ _ us hl => match us, hl with | [_, _, _], _ => rfl) (by decide) (by decide) (by decide) len_chain_shift (fun cdv A outer s H E hr => ⟨_, show DSs _ _ _ _ b_chain_shift from
 (dss_cons (ds_if (dt_cmp (op_eqX hr.units) sim_eq (de_var 1) (de_var 2) (nomark _))
 (dss_one (ds_ret de_int))
 dss_nil)
 (dss_cons (ds_if (dt_cmp (op_inX hr.units) sim_in (de_tup (da_cons (de_var 1) (da_cons (de_var 2) da_nil))) (de_var 0) (by rfl))
 (dss_one (ds_ret (de_ix hr.units (de_ix hr.units (de_var 0) (de_tup (da_cons (de_var 1) (da_cons (de_var 2) da_nil)))) de_int)))
 dss_nil)
 (dss_one (ds_ret de_non))))⟩) (rd := rd_chain_shift)
theorem sc_Bounds_tightest : FnScope ["self", "left", "right"] ["self", "left", "right"] (defScope (inClass (top 8) 2)) := ⟨rfl, rfl, rfl, by decide +kernel, rfl, by decide +kernel, by decide +kernel⟩
theorem ok_Bounds_tightest (T : TY w K mg) : FnD P w K mg base 3 (He.ma K (He.ga K "Bounds") "tightest") [] sp_Bounds_tightest := by
  obtain ⟨fd, F⟩ := tDef T 16
  exact fnD_of (k := 2) (N := ["self", "left", "right"]) (ps := ["self", "left", "right"]) F sc_Bounds_tightest (F.bindsN fun _ _ _ _ _ _ us hl => match us, hl with | [_, _, _], _ => rfl) (by decide) (by decide) (by decide) len_Bounds_tightest (fun cdv A outer s H E hr => ⟨_, show DSs _ _ _ _ b_Bounds_tightest from
 (dss_cons (ds_if (dt_cmp op_isNC sim_is (de_fld (cs := ["Bounds"]) (f := "cycle") (fldOk1 (fCls 21 "Bounds" T) (fNoat 22 "Bounds" "cycle" T)) (de_var 0)) de_non (nomark _))
 (dss_one (ds_raiseN (C := "Contradiction") (fs := ["cycle"]) rfl (takes_of rfl rfl rfl rfl) (xcNB_ok (tFact T 59 (f := xcNB "Contradiction"))) (ok_x_Contradiction (k := 0) T) (hr.mono (by decide)) (by rfl) (fGlo 60 "Contradiction" T) (da_cons (de_fld (cs := ["Bounds"]) (f := "cycle") (fldOk1 (fCls 21 "Bounds" T) (fNoat 22 "Bounds" "cycle" T)) (de_var 0)) da_nil)))
 dss_nil)
 (dss_one (ds_ret (de_call (ok_chain_shift T) (hr.mono (by decide)) (takes_of rfl rfl rfl rfl) (by rfl) (fGlo 61 "chain_shift" T) (fKeep 62 "chain_shift" T) (da_cons (de_fld (cs := ["Bounds"]) (f := "chains") (fldOk1 (fCls 21 "Bounds" T) (fNoat 37 "Bounds" "chains" T)) (de_var 0)) (da_cons (de_var 1) (da_cons (de_var 2) da_nil)))))))⟩) (rd := rd_Bounds_tightest)
theorem sc_found_cycle : FnScope ["chains", "bound", "place", "back"] ["chains", "bound", "place"] (defScope (top 6)) := ⟨rfl, rfl, rfl, by decide +kernel, rfl, by decide +kernel, by decide +kernel⟩
theorem ok_found_cycle (T : TY w K mg) : FnD P w K mg base 3 (He.ga K "found_cycle") [] sp_found_cycle := by
  obtain ⟨fd, F⟩ := tDef T 17
  exact fnD_of (k := 2) (N := ["chains", "bound", "place", "back"]) (ps := ["chains", "bound", "place"]) F sc_found_cycle (F.bindsN fun _ _ _ _ _ _ us hl => match us, hl with | [_, _, _], _ => rfl) (by decide) (by decide) (by decide) len_found_cycle (fun cdv A outer s H E hr => ⟨_, show DSs _ _ _ _ b_found_cycle from
 (dss_cons (ds_set (i := 3) sc_found_cycle.nd rfl (by first | exact Or.inl rfl | exact Or.inr rfl) (de_call (ok_chain_shift T) (hr.mono (by decide)) (takes_of rfl rfl rfl rfl) (by rfl) (fGlo 61 "chain_shift" T) (fKeep 62 "chain_shift" T) (da_cons (de_var 0) (da_cons (de_ix hr.units (de_var 1) de_int) (da_cons (de_ix hr.units (de_var 1) de_int) da_nil)))))
 (dss_cons (ds_if (DW.dt (dw_or (dt_cmp op_isC sim_is (de_var 3) de_non (nomark _)) (dw_or1 (dt_cmp op_ge sim_ge (de_add (de_var 3) (de_ix hr.units (de_var 1) de_int)) de_int (nomark _)))))
 (dss_one (ds_ret de_non))
 dss_nil)
 (dss_one (ds_ret (de_bty call_tuple_of sim_tuple (by rfl) (fFree 25 "tuple" T) PyProof.Rows.boot_tuple (da_cons (DO.fz (do_sorted rfl (by rfl) (fFree 67 "sorted" T) (de_add (DO.fz (do_list rfl (by rfl) (fFree 48 "list" T) (de_ix hr.units (de_ix hr.units (de_var 0) (de_tup (da_cons (de_ix hr.units (de_var 1) de_int) (da_cons (de_ix hr.units (de_var 1) de_int) da_nil)))) de_int))) (DO.fz (do_lst (da_cons (de_var 2) da_nil)))))) da_nil))))))⟩) (rd := rd_found_cycle)
theorem sc_longer_chains : FnScope ["chains", "bound", "place", "left", "right", "shift", "heads", "tails", "joined", "shorter", "first", "last", "before", "behind", "sides"] ["chains", "bound", "place"] (defScope (top 7)) := ⟨rfl, rfl, rfl, by decide +kernel, rfl, by decide +kernel, by decide +kernel⟩
theorem ok_longer_chains (T : TY w K mg) : FnD P w K mg base 2 (He.ga K "longer_chains") [] sp_longer_chains := by
  obtain ⟨fd, F⟩ := tDef T 18
  exact fnD_of (k := 1) (N := ["chains", "bound", "place", "left", "right", "shift", "heads", "tails", "joined", "shorter", "first", "last", "before", "behind", "sides"]) (ps := ["chains", "bound", "place"]) F sc_longer_chains (F.bindsN fun _ _ _ _ _ _ us hl => match us, hl with | [_, _, _], _ => rfl) (by decide) (by decide) (by decide) len_longer_chains (fun cdv A outer s H E hr => ⟨_, show DSs _ _ _ _ b_longer_chains from
 (dss_cons (ds_asg (de_var 1) (dg_tup (dgs_cons (dg_name (i := 3) sc_longer_chains.nd rfl (by first | exact Or.inl rfl | exact Or.inr rfl)) (dgs_cons (dg_name (i := 4) sc_longer_chains.nd rfl (by first | exact Or.inl rfl | exact Or.inr rfl)) (dgs_cons (dg_name (i := 5) sc_longer_chains.nd rfl (by first | exact Or.inl rfl | exact Or.inr rfl)) dgs_nil)))))
 (dss_cons (ds_set (i := 6) sc_longer_chains.nd rfl (by first | exact Or.inl rfl | exact Or.inr rfl) (de_add (DO.fz (do_lst (da_cons (de_tup (da_cons (de_var 3) (da_cons (de_tup (da_cons de_int (da_cons (de_tup da_nil) da_nil))) da_nil))) da_nil))) (DO.fz (CpS.do_ (do_lcG (own := [("first", 10), ("last", 11)]) rfl sc_longer_chains.nd (di_seq (de_var 0)) (blkOk_by (by kernel_rfl)) ⟨(og_tup (og_cons (og_name (by decide)) (og_cons (og_name (by decide)) og_nil))), (dg_tup (dgs_cons (dg_name (i := 10) sc_longer_chains.nd rfl (by first | exact Or.inl rfl | exact Or.inr rfl)) (dgs_cons (dg_name (i := 11) sc_longer_chains.nd rfl (by first | exact Or.inl rfl | exact Or.inr rfl)) dgs_nil))), (dts_one (dt_cmp (op_eqX hr.units) sim_eq (de_var 11) (de_var 3) (nomark _)))⟩ (fun _ _ _ _ _ => ⟨(og_tup (og_cons (og_name (by decide)) (og_cons (og_name (by decide)) og_nil))), (dg_tup (dgs_cons (dg_name (i := 10) sc_longer_chains.nd rfl (by first | exact Or.inl rfl | exact Or.inr rfl)) (dgs_cons (dg_name (i := 11) sc_longer_chains.nd rfl (by first | exact Or.inl rfl | exact Or.inr rfl)) dgs_nil))), (dts_one (dt_cmp (op_eqX hr.units) sim_eq (de_var 11) (de_var 3) (nomark _)))⟩) (de_tup (da_cons (de_var 10) (da_cons (de_ix hr.units (de_var 0) (de_tup (da_cons (de_var 10) (da_cons (de_var 11) da_nil)))) da_nil))) (fun _ _ _ _ _ => (de_tup (da_cons (de_var 10) (da_cons (de_ix hr.units (de_var 0) (de_tup (da_cons (de_var 10) (da_cons (de_var 11) da_nil)))) da_nil)))))))))
 (dss_cons (ds_set (i := 7) sc_longer_chains.nd rfl (by first | exact Or.inl rfl | exact Or.inr rfl) (de_add (DO.fz (do_lst (da_cons (de_tup (da_cons (de_var 4) (da_cons (de_tup (da_cons de_int (da_cons (de_tup da_nil) da_nil))) da_nil))) da_nil))) (DO.fz (CpS.do_ (do_lcG (own := [("first", 10), ("last", 11)]) rfl sc_longer_chains.nd (di_seq (de_var 0)) (blkOk_by (by kernel_rfl)) ⟨(og_tup (og_cons (og_name (by decide)) (og_cons (og_name (by decide)) og_nil))), (dg_tup (dgs_cons (dg_name (i := 10) sc_longer_chains.nd rfl (by first | exact Or.inl rfl | exact Or.inr rfl)) (dgs_cons (dg_name (i := 11) sc_longer_chains.nd rfl (by first | exact Or.inl rfl | exact Or.inr rfl)) dgs_nil))), (dts_one (dt_cmp (op_eqX hr.units) sim_eq (de_var 10) (de_var 4) (nomark _)))⟩ (fun _ _ _ _ _ => ⟨(og_tup (og_cons (og_name (by decide)) (og_cons (og_name (by decide)) og_nil))), (dg_tup (dgs_cons (dg_name (i := 10) sc_longer_chains.nd rfl (by first | exact Or.inl rfl | exact Or.inr rfl)) (dgs_cons (dg_name (i := 11) sc_longer_chains.nd rfl (by first | exact Or.inl rfl | exact Or.inr rfl)) dgs_nil))), (dts_one (dt_cmp (op_eqX hr.units) sim_eq (de_var 10) (de_var 4) (nomark _)))⟩) (de_tup (da_cons (de_var 11) (da_cons (de_ix hr.units (de_var 0) (de_tup (da_cons (de_var 10) (da_cons (de_var 11) da_nil)))) da_nil))) (fun _ _ _ _ _ => (de_tup (da_cons (de_var 11) (da_cons (de_ix hr.units (de_var 0) (de_tup (da_cons (de_var 10) (da_cons (de_var 11) da_nil)))) da_nil)))))))))
 (dss_cons (ds_set (i := 8) sc_longer_chains.nd rfl (by first | exact Or.inl rfl | exact Or.inr rfl) (DO.fz (CpS.do_ (do_dc2 (own := [("first", 10), ("before", 12), ("last", 11), ("behind", 13)]) hr.units rfl sc_longer_chains.nd (di_seq (de_var 6)) (blkOk_by (by kernel_rfl)) ⟨(og_tup (og_cons (og_name (by decide)) (og_cons (og_name (by decide)) og_nil))), (dg_tup (dgs_cons (dg_name (i := 10) sc_longer_chains.nd rfl (by first | exact Or.inl rfl | exact Or.inr rfl)) (dgs_cons (dg_name (i := 12) sc_longer_chains.nd rfl (by first | exact Or.inl rfl | exact Or.inr rfl)) dgs_nil))), dts_nil⟩ (fun _ _ _ _ _ => ⟨(og_tup (og_cons (og_name (by decide)) (og_cons (og_name (by decide)) og_nil))), (dg_tup (dgs_cons (dg_name (i := 10) sc_longer_chains.nd rfl (by first | exact Or.inl rfl | exact Or.inr rfl)) (dgs_cons (dg_name (i := 12) sc_longer_chains.nd rfl (by first | exact Or.inl rfl | exact Or.inr rfl)) dgs_nil))), dts_nil⟩) (di_seq (de_var 7)) (fun _ _ _ _ _ => (di_seq (de_var 7))) ⟨(og_tup (og_cons (og_name (by decide)) (og_cons (og_name (by decide)) og_nil))), (dg_tup (dgs_cons (dg_name (i := 11) sc_longer_chains.nd rfl (by first | exact Or.inl rfl | exact Or.inr rfl)) (dgs_cons (dg_name (i := 13) sc_longer_chains.nd rfl (by first | exact Or.inl rfl | exact Or.inr rfl)) dgs_nil))), (dts_one (dt_cmp (op_neX hr.units) sim_ne (de_var 10) (de_var 11) (nomark _)))⟩ (fun _ _ _ _ _ => ⟨(og_tup (og_cons (og_name (by decide)) (og_cons (og_name (by decide)) og_nil))), (dg_tup (dgs_cons (dg_name (i := 11) sc_longer_chains.nd rfl (by first | exact Or.inl rfl | exact Or.inr rfl)) (dgs_cons (dg_name (i := 13) sc_longer_chains.nd rfl (by first | exact Or.inl rfl | exact Or.inr rfl)) dgs_nil))), (dts_one (dt_cmp (op_neX hr.units) sim_ne (de_var 10) (de_var 11) (nomark _)))⟩) (de_tup (da_cons (de_var 10) (da_cons (de_var 11) da_nil))) (fun _ _ _ _ _ => (de_tup (da_cons (de_var 10) (da_cons (de_var 11) da_nil)))) (de_tup (da_cons (de_add (de_add (de_ix hr.units (de_var 12) de_int) (de_var 5)) (de_ix hr.units (de_var 13) de_int)) (da_cons (de_add (de_add (de_ix hr.units (de_var 12) de_int) (de_tup (da_cons (de_var 2) da_nil))) (de_ix hr.units (de_var 13) de_int)) da_nil))) (fun _ _ _ _ _ => (de_tup (da_cons (de_add (de_add (de_ix hr.units (de_var 12) de_int) (de_var 5)) (de_ix hr.units (de_var 13) de_int)) (da_cons (de_add (de_add (de_ix hr.units (de_var 12) de_int) (de_tup (da_cons (de_var 2) da_nil))) (de_ix hr.units (de_var 13) de_int)) da_nil))))))))
 (dss_cons (ds_set (i := 9) sc_longer_chains.nd rfl (by first | exact Or.inl rfl | exact Or.inr rfl) (DO.fz (CpS.do_ (do_dc (own := [("sides", 14)]) hr.units rfl sc_longer_chains.nd (di_seq (de_var 8)) (blkOk_by (by kernel_rfl)) ⟨(og_name (by decide)), (dg_name (i := 14) sc_longer_chains.nd rfl (by first | exact Or.inl rfl | exact Or.inr rfl)), (dts_one (DW.dt (dw_or (dt_cmp (op_notInX hr.units) sim_in (de_var 14) (de_var 0) (by rfl)) (dw_or1 (dt_cmp op_lt sim_lt (de_ix hr.units (de_ix hr.units (de_var 8) (de_var 14)) de_int) (de_ix hr.units (de_ix hr.units (de_var 0) (de_var 14)) de_int) (nomark _))))))⟩ (fun _ _ _ _ _ => ⟨(og_name (by decide)), (dg_name (i := 14) sc_longer_chains.nd rfl (by first | exact Or.inl rfl | exact Or.inr rfl)), (dts_one (DW.dt (dw_or (dt_cmp (op_notInX hr.units) sim_in (de_var 14) (de_var 0) (by rfl)) (dw_or1 (dt_cmp op_lt sim_lt (de_ix hr.units (de_ix hr.units (de_var 8) (de_var 14)) de_int) (de_ix hr.units (de_ix hr.units (de_var 0) (de_var 14)) de_int) (nomark _))))))⟩) (de_var 14) (fun _ _ _ _ _ => (de_var 14)) (de_ix hr.units (de_var 8) (de_var 14)) (fun _ _ _ _ _ => (de_ix hr.units (de_var 8) (de_var 14)))))))
 (dss_one (ds_ret (DO.fz (CpS.do_ (do_dc (own := [("sides", 14)]) hr.units rfl sc_longer_chains.nd (di_seq (de_add (DO.fz (do_listD rfl rfl (by rfl) (fFree 48 "list" T) (de_var 0))) (DO.fz (do_listD rfl rfl (by rfl) (fFree 48 "list" T) (de_var 9))))) (blkOk_by (by kernel_rfl)) ⟨(og_name (by decide)), (dg_name (i := 14) sc_longer_chains.nd rfl (by first | exact Or.inl rfl | exact Or.inr rfl)), dts_nil⟩ (fun _ _ _ _ _ => ⟨(og_name (by decide)), (dg_name (i := 14) sc_longer_chains.nd rfl (by first | exact Or.inl rfl | exact Or.inr rfl)), dts_nil⟩) (de_var 14) (fun _ _ _ _ _ => (de_var 14)) (de_get2 hr.units (de_var 9) (de_var 14) (de_get1 hr.units (de_var 0) (de_var 14))) (fun _ _ _ _ _ => (de_get2 hr.units (de_var 9) (de_var 14) (de_get1 hr.units (de_var 0) (de_var 14))))))))))))))⟩) (rd := rd_longer_chains)
theorem sc_Bounds_add : FnScope ["self", "bound", "side", "place", "whole", "cycle", "chains"] ["self", "bound"] (defScope (inClass (top 8) 1)) := ⟨rfl, rfl, rfl, by decide +kernel, rfl, by decide +kernel, by decide +kernel⟩
theorem ok_Bounds_add (T : TY w K mg) : FnD P w K mg base 4 (He.ma K (He.ga K "Bounds") "__add__") [] sp_Bounds_add := by
  obtain ⟨fd, F⟩ := tDef T 19
  exact fnD_of (k := 3) (N := ["self", "bound", "side", "place", "whole", "cycle", "chains"]) (ps := ["self", "bound"]) F sc_Bounds_add (F.bindsN fun _ _ _ _ _ _ us hl => match us, hl with | [_, _], _ => rfl) (by decide) (by decide) (by decide) len_Bounds_add (fun cdv A outer s H E hr => ⟨_, show DSs _ _ _ _ b_Bounds_add from
 (dss_cons (ds_for (passes_of rfl) rfl (di_seq (de_tup (da_cons (de_ix hr.units (de_var 1) de_int) (da_cons (de_ix hr.units (de_var 1) de_int) da_nil)))) (dg_name (i := 2) sc_Bounds_add.nd rfl (by first | exact Or.inl rfl | exact Or.inr rfl))
 (dss_one (ds_if (DW.dt (dw_and (dt_cmp op_isNC sim_is (de_var 2) de_non (nomark _)) (dw_and1 (dt_cmp (op_notInX hr.units) sim_in (de_var 2) (de_fld (cs := ["Bounds"]) (f := "names") (fldOk1 (fCls 21 "Bounds" T) (fNoat 36 "Bounds" "names" T)) (de_var 0)) (by rfl)))))
 (dss_one ds_never)
 dss_nil)))
 (dss_cons (ds_set (i := 3) sc_Bounds_add.nd rfl (by first | exact Or.inl rfl | exact Or.inr rfl) (de_blt call_lenX sim_len (by rfl) (fFree 10 "len" T) PySem.boot_len (da_cons (de_fld (cs := ["Bounds"]) (f := "added") (fldOk1 (fCls 21 "Bounds" T) (fNoat 26 "Bounds" "added" T)) (de_var 0)) da_nil)))
 (dss_cons (ds_set (i := 4) sc_Bounds_add.nd rfl (by first | exact Or.inl rfl | exact Or.inr rfl) (de_add (de_fld (cs := ["Bounds"]) (f := "added") (fldOk1 (fCls 21 "Bounds" T) (fNoat 26 "Bounds" "added" T)) (de_var 0)) (de_tup (da_cons (de_tup (da_cons (de_ix hr.units (de_var 1) de_int) (da_cons (de_ix hr.units (de_var 1) de_int) (da_cons (de_ix hr.units (de_var 1) de_int) da_nil)))) da_nil))))
 (dss_cons (ds_set (i := 5) sc_Bounds_add.nd rfl (by first | exact Or.inl rfl | exact Or.inr rfl) (de_fld (cs := ["Bounds"]) (f := "cycle") (fldOk1 (fCls 21 "Bounds" T) (fNoat 22 "Bounds" "cycle" T)) (de_var 0)))
 (dss_cons (ds_set (i := 6) sc_Bounds_add.nd rfl (by first | exact Or.inl rfl | exact Or.inr rfl) (de_fld (cs := ["Bounds"]) (f := "chains") (fldOk1 (fCls 21 "Bounds" T) (fNoat 37 "Bounds" "chains" T)) (de_var 0)))
 (dss_cons (ds_if (dt_cmp op_isC sim_is (de_var 5) de_non (nomark _))
 (dss_one (ds_set (i := 5) sc_Bounds_add.nd rfl (by first | exact Or.inl rfl | exact Or.inr rfl) (de_call (ok_found_cycle T) (hr.mono (by decide)) (takes_of rfl rfl rfl rfl) (by rfl) (fGlo 63 "found_cycle" T) (fKeep 64 "found_cycle" T) (da_cons (de_var 6) (da_cons (de_var 1) (da_cons (de_var 3) da_nil))))))
 dss_nil)
 (dss_cons (ds_if (dt_cmp op_isC sim_is (de_var 5) de_non (nomark _))
 (dss_one (ds_set (i := 6) sc_Bounds_add.nd rfl (by first | exact Or.inl rfl | exact Or.inr rfl) (de_call (ok_longer_chains T) (hr.mono (by decide)) (takes_of rfl rfl rfl rfl) (by rfl) (fGlo 65 "longer_chains" T) (fKeep 66 "longer_chains" T) (da_cons (de_var 6) (da_cons (de_var 1) (da_cons (de_var 3) da_nil))))))
 dss_nil)
 (dss_one (ds_ret (DO.fz (do_makeG (C := "Bounds") (fMkr 34 "Bounds" T) (ok_Bounds_init_k T) (hr.mono (by decide)) (takes_of rfl rfl rfl rfl) (by rfl) (fGlo 35 "Bounds" T) (dag_loneK (de_fld (cs := ["Bounds"]) (f := "names") (fldOk1 (fCls 21 "Bounds" T) (fNoat 36 "Bounds" "names" T)) (de_var 0)) (dk_cons (de_tup (da_cons (de_var 4) (da_cons (de_var 5) (da_cons (de_var 6) da_nil)))) dk_nil)))))))))))))⟩) (rd := rd_Bounds_add)
theorem sc_Bounds_model : FnScope ["self", "limited", "name", "top", "low"] ["self"] (defScope (inClass (top 8) 3)) := ⟨rfl, rfl, rfl, by decide +kernel, rfl, by decide +kernel, by decide +kernel⟩
theorem ok_Bounds_model (T : TY w K mg) : FnD P w K mg base 5 (He.ma K (He.ga K "Bounds") "model") [] sp_Bounds_model := by
  obtain ⟨fd, F⟩ := tDef T 20
  exact fnD_of (k := 4) (N := ["self", "limited", "name", "top", "low"]) (ps := ["self"]) F sc_Bounds_model (F.bindsN fun _ _ _ _ _ _ us hl => match us, hl with | [_], _ => rfl) (by decide) (by decide) (by decide) len_Bounds_model (fun cdv A outer s H E hr => ⟨_, show DSs _ _ _ _ b_Bounds_model from
 (dss_cons (ds_set (i := 1) sc_Bounds_model.nd rfl (by first | exact Or.inl rfl | exact Or.inr rfl) (de_var 0))
 (dss_cons (ds_for (passes_of rfl) rfl (di_seq (de_fld (cs := ["Bounds"]) (f := "names") (fldOk1 (fCls 21 "Bounds" T) (fNoat 36 "Bounds" "names" T)) (de_var 0))) (dg_name (i := 2) sc_Bounds_model.nd rfl (by first | exact Or.inl rfl | exact Or.inr rfl))
 (dss_one (ds_if (dt_cmp op_isC sim_is (de_meth (C := "Bounds") (m := "tightest") (de_var 1) (fCls 21 "Bounds" T) (fMeth 58 "Bounds" "tightest" T) (ok_Bounds_tightest T) (hr.mono (by decide)) (takes_of rfl rfl rfl rfl) (da_cons (de_var 2) (da_cons de_non da_nil))) de_non (nomark _))
 (dss_cons (ds_set (i := 3) sc_Bounds_model.nd rfl (by first | exact Or.inl rfl | exact Or.inr rfl) de_int)
 (dss_cons (ds_set (i := 4) sc_Bounds_model.nd rfl (by first | exact Or.inl rfl | exact Or.inr rfl) (de_meth (C := "Bounds") (m := "tightest") (de_var 1) (fCls 21 "Bounds" T) (fMeth 58 "Bounds" "tightest" T) (ok_Bounds_tightest T) (hr.mono (by decide)) (takes_of rfl rfl rfl rfl) (da_cons de_non (da_cons (de_var 2) da_nil))))
 (dss_cons (ds_if (DW.dt (dw_and (dt_cmp op_isNC sim_is (de_var 4) de_non (nomark _)) (dw_and1 (dt_cmp op_lt sim_lt (de_var 4) de_int (nomark _)))))
 (dss_one (ds_set (i := 3) sc_Bounds_model.nd rfl (by first | exact Or.inl rfl | exact Or.inr rfl) (de_neg (de_var 4))))
 dss_nil)
 (dss_one (ds_set (i := 1) sc_Bounds_model.nd rfl (by first | exact Or.inl rfl | exact Or.inr rfl) (de_ownT (C := "Bounds") (op := .Add) (fOp 18 "Bounds" "__add__" T) (ok_Bounds_add T) (hr.mono (by decide)) (takes_of rfl rfl rfl rfl) PySem.noFill_tuple_add (de_var 1) (de_tup (da_cons (de_var 2) (da_cons de_non (da_cons (de_var 3) da_nil))))))))))
 dss_nil)))
 (dss_one (ds_ret (DO.fz (CpS.do_ (do_dc (own := [("name", 2)]) hr.units rfl sc_Bounds_model.nd (di_seq (de_fld (cs := ["Bounds"]) (f := "names") (fldOk1 (fCls 21 "Bounds" T) (fNoat 36 "Bounds" "names" T)) (de_var 0))) (blkOk_by (by kernel_rfl)) ⟨(og_name (by decide)), (dg_name (i := 2) sc_Bounds_model.nd rfl (by first | exact Or.inl rfl | exact Or.inr rfl)), dts_nil⟩ (fun _ _ _ _ _ => ⟨(og_name (by decide)), (dg_name (i := 2) sc_Bounds_model.nd rfl (by first | exact Or.inl rfl | exact Or.inr rfl)), dts_nil⟩) (de_var 2) (fun _ _ _ _ _ => (de_var 2)) (de_meth (C := "Bounds") (m := "tightest") (de_var 1) (fCls 21 "Bounds" T) (fMeth 58 "Bounds" "tightest" T) (ok_Bounds_tightest T) (hr.mono (by decide)) takes0 (da_cons (de_var 2) (da_cons de_non da_nil))) (fun _ _ _ _ _ => (de_meth (C := "Bounds") (m := "tightest") (de_var 1) (fCls 21 "Bounds" T) (fMeth 58 "Bounds" "tightest" T) (ok_Bounds_tightest T) (hr.mono (by decide)) takes0 (da_cons (de_var 2) (da_cons de_non da_nil)))))))))))⟩) (rd := rd_Bounds_model)
theorem sc_law_is_a_cycle : FnScope ["cycle", "names", "bounds", "last", "total", "lefts", "rights", "place", "name"] ["cycle", "names", "bounds"] (defScope (top 21)) := ⟨rfl, rfl, rfl, by decide +kernel, rfl, by decide +kernel, by decide +kernel⟩
theorem ok_law_is_a_cycle (T : TY w K mg) : FnD P w K mg base 3 (He.ga K "_law_is_a_cycle") [] sp_law_is_a_cycle := by
  obtain ⟨fd, F⟩ := tDef T 21
  exact fnD_of (k := 2) (N := ["cycle", "names", "bounds", "last", "total", "lefts", "rights", "place", "name"]) (ps := ["cycle", "names", "bounds"]) F sc_law_is_a_cycle (F.bindsN fun _ _ _ _ _ _ us hl => match us, hl with | [_, _, _], _ => rfl) (by decide) (by decide) (by decide) len_law_is_a_cycle (fun cdv A outer s H E hr => ⟨_, show DSs _ _ _ _ b_law_is_a_cycle from
 (dss_cons (ds_if (DW.dt (dw_or (dt_not (dt_truth (de_isiT (T := "tuple") rfl (isiTup_ok (tFact T 56)) (by rfl) (fFree 46 "isinstance" T) (by rfl) (fFree 25 "tuple" T) (by decide +kernel) (de_var 0)))) (dw_or1 (dt_cmp (op_eqX hr.units) sim_eq (de_blt call_lenX sim_len (by rfl) (fFree 10 "len" T) PySem.boot_len (da_cons (de_var 0) da_nil)) de_int (nomark _)))))
 (dss_one (ds_ret de_bl))
 dss_nil)
 (dss_cons (ds_set (i := 3) sc_law_is_a_cycle.nd rfl (by first | exact Or.inl rfl | exact Or.inr rfl) (de_sub de_int de_int))
 (dss_cons (ds_set (i := 4) sc_law_is_a_cycle.nd rfl (by first | exact Or.inl rfl | exact Or.inr rfl) de_int)
 (dss_cons (ds_setO (i := 5) sc_law_is_a_cycle.nd rfl (by first | exact Or.inl rfl | exact Or.inr rfl) (do_lst da_nil))
 (dss_cons (ds_setO (i := 6) sc_law_is_a_cycle.nd rfl (by first | exact Or.inl rfl | exact Or.inr rfl) (do_lst da_nil))
 (dss_cons (ds_for (passes_of rfl) rfl (di_seq (de_var 0)) (dg_name (i := 7) sc_law_is_a_cycle.nd rfl (by first | exact Or.inl rfl | exact Or.inr rfl))
 (dss_cons (ds_if (DW.dt (dw_or (dt_not (dt_truth (de_call (ok_law_number T) (hr.mono (by decide)) (takes_of rfl rfl rfl rfl) (by rfl) (fGlo 49 "_law_number" T) (fKeep 50 "_law_number" T) (da_cons (de_var 7) da_nil)))) (dw_or (dt_cmp op_le sim_le (de_var 7) (de_var 3) (nomark _)) (dw_or1 (dt_cmp op_ge sim_ge (de_var 7) (de_blt call_lenX sim_len (by rfl) (fFree 10 "len" T) PySem.boot_len (da_cons (de_var 2) da_nil)) (nomark _))))))
 (dss_one (ds_ret de_bl))
 dss_nil)
 (dss_cons (ds_set (i := 3) sc_law_is_a_cycle.nd rfl (by first | exact Or.inl rfl | exact Or.inr rfl) (de_var 7))
 (dss_cons (ds_set (i := 4) sc_law_is_a_cycle.nd rfl (by first | exact Or.inl rfl | exact Or.inr rfl) (de_add (de_var 4) (de_ix hr.units (de_ix hr.units (de_var 2) (de_var 7)) de_int)))
 (dss_cons (ds_expr (de_lm (i := 5) PySem.F.slot_list_append PySem.F.type_list_append mt_append sim_app (da_cons (de_ix hr.units (de_ix hr.units (de_var 2) (de_var 7)) de_int) da_nil)))
 (dss_one (ds_expr (de_lm (i := 6) PySem.F.slot_list_append PySem.F.type_list_append mt_append sim_app (da_cons (de_ix hr.units (de_ix hr.units (de_var 2) (de_var 7)) de_int) da_nil)))))))))
 (dss_cons (ds_for (passes_of rfl) rfl (di_seq (de_var 1)) (dg_name (i := 8) sc_law_is_a_cycle.nd rfl (by first | exact Or.inl rfl | exact Or.inr rfl))
 (dss_one (ds_if (dt_cmp (op_neX hr.units) sim_ne (de_lm (i := 5) PySem.F.slot_list_count PySem.F.type_list_count mt_countX sim_cnt (da_cons (de_var 8) da_nil)) (de_lm (i := 6) PySem.F.slot_list_count PySem.F.type_list_count mt_countX sim_cnt (da_cons (de_var 8) da_nil)) (nomark _))
 (dss_one (ds_ret de_bl))
 dss_nil)))
 (dss_one (ds_ret (de_cmp op_lt sim_lt (de_var 4) de_int (nomark _)))))))))))⟩) (rd := rd_law_is_a_cycle)
theorem sc_law_contradicts : FnScope ["one", "left", "right", "told", "e"] ["one", "left", "right"] (defScope (top 25)) := ⟨rfl, rfl, rfl, by decide +kernel, rfl, by decide +kernel, by decide +kernel⟩
theorem ok_law_contradicts (T : TY w K mg) : FnD P w K mg base 9 (He.ga K "_law_contradicts") [] sp_law_contradicts := by
  obtain ⟨fd, F⟩ := tDef T 22
  exact fnD_of (k := 8) (N := ["one", "left", "right", "told", "e"]) (ps := ["one", "left", "right"]) F sc_law_contradicts (F.bindsN fun _ _ _ _ _ _ us hl => match us, hl with | [_, _, _], _ => rfl) (by decide) (by decide) (by decide) len_law_contradicts (fun cdv A outer s H E hr => ⟨_, show DSs _ _ _ _ b_law_contradicts from
 (dss_cons (ds_setO (i := 3) sc_law_contradicts.nd rfl (by first | exact Or.inl rfl | exact Or.inr rfl) (do_lst da_nil))
 (dss_cons (ds_try' (ds_try rfl rfl sc_law_contradicts.nd (takes_of rfl rfl rfl rfl) (fun W5 pn5 xe5 tk5 po5 => ⟨_, show DSs _ _ _ _ b_law_contradicts_1 from
 (dss_one (ds_expr (de_lm (i := 3) PySem.F.slot_list_append PySem.F.type_list_append mt_append sim_app (da_cons (de_meth0 (C := "Bounds") (m := "model") (de_var 0) (fCls 21 "Bounds" T) (fMeth 40 "Bounds" "model" T) (ok_Bounds_model T) (hr.mono (by decide)) tk5) da_nil))))⟩) (.cons (C := "Contradiction") (i := (some 4)) (subs := ["Contradiction"]) (oth := ["UnknownColumn"]) ⟨(by rfl), (by decide), .inl (fGlo 60 "Contradiction" T)⟩ (by exact ⟨rfl, rfl⟩) (exmB_ok (tFact T 73 (f := exmB "Contradiction" ["Contradiction"] ["UnknownColumn"]))).1 (exmB_ok (tFact T 73 (f := exmB "Contradiction" ["Contradiction"] ["UnknownColumn"]))).2 (fun a1 oe1 cls1 d1 pn1 hz1 hv1 => ⟨_, (dss_one (ds_if (DW.dt (dw_or (dt_not (dt_truth (de_xi (T := "HeldError") (L := [("Contradiction", true)]) (xiB_ok (tFact T 68 (f := xiB "HeldError" [("Contradiction", true)]))) hz1 hv1 rfl (by rfl) (fFree 46 "isinstance" T) (by rfl) (fGlo 69 "HeldError" T)))) (dw_or (dt_truth (de_xi (T := "UnknownColumn") (L := [("Contradiction", false)]) (xiB_ok (tFact T 70 (f := xiB "UnknownColumn" [("Contradiction", false)]))) hz1 hv1 rfl (by rfl) (fFree 46 "isinstance" T) (by rfl) (fGlo 71 "UnknownColumn" T))) (dw_or1 (dt_not (dt_truth (de_callH (okH_law_same T) (room_suite (hr.mono (by decide))) (hot_suite hz1 hv1) takes0 (by rfl) (fGlo 23 "_law_same" T) (fKeep 24 "_law_same" T) (da_cons (de_xf (f := "cycle") (xfsB_ok (tFact T 72 (f := xfsB ["Contradiction"] "cycle"))) hz1 hv1 rfl) (da_cons (de_fld (cs := ["Bounds"]) (f := "cycle") (fldOk1 (fCls 21 "Bounds" T) (fNoat 22 "Bounds" "cycle" T)) (de_var 0)) da_nil)))))))))
 (dss_one (ds_ret de_bl))
 dss_nil))⟩) .nil)))
 (dss_cons (ds_try' (ds_try rfl rfl sc_law_contradicts.nd (takes_of rfl rfl rfl rfl) (fun W6 pn6 xe6 tk6 po6 => ⟨_, show DSs _ _ _ _ b_law_contradicts_2 from
 (dss_one (ds_expr (de_lm (i := 3) PySem.F.slot_list_append PySem.F.type_list_append mt_append sim_app (da_cons (de_meth (C := "Bounds") (m := "tightest") (de_var 0) (fCls 21 "Bounds" T) (fMeth 58 "Bounds" "tightest" T) (ok_Bounds_tightest T) (hr.mono (by decide)) tk6 (da_cons (de_var 1) (da_cons (de_var 2) da_nil))) da_nil))))⟩) (.cons (C := "Contradiction") (i := (some 4)) (subs := ["Contradiction"]) (oth := ["UnknownColumn"]) ⟨(by rfl), (by decide), .inl (fGlo 60 "Contradiction" T)⟩ (by exact ⟨rfl, rfl⟩) (exmB_ok (tFact T 73 (f := exmB "Contradiction" ["Contradiction"] ["UnknownColumn"]))).1 (exmB_ok (tFact T 73 (f := exmB "Contradiction" ["Contradiction"] ["UnknownColumn"]))).2 (fun a1 oe1 cls1 d1 pn1 hz1 hv1 => ⟨_, (dss_one (ds_if (dt_not (dt_truth (de_callH (okH_law_same T) (room_suite (hr.mono (by decide))) (hot_suite hz1 hv1) takes0 (by rfl) (fGlo 23 "_law_same" T) (fKeep 24 "_law_same" T) (da_cons (de_xf (f := "cycle") (xfsB_ok (tFact T 72 (f := xfsB ["Contradiction"] "cycle"))) hz1 hv1 rfl) (da_cons (de_fld (cs := ["Bounds"]) (f := "cycle") (fldOk1 (fCls 21 "Bounds" T) (fNoat 22 "Bounds" "cycle" T)) (de_var 0)) da_nil)))))
 (dss_one (ds_ret de_bl))
 dss_nil))⟩) .nil)))
 (dss_one (ds_ret (de_cmp (op_eqX hr.units) sim_eq (de_lenV (i := 3) rfl (by rfl) (fFree 10 "len" T)) de_int (nomark _)))))))⟩) (rd := rd_law_contradicts)
theorem sc_law_right : FnScope ["one", "names", "bounds", "left", "right"] ["one", "names", "bounds", "left", "right"] (defScope (top 26)) := ⟨rfl, rfl, rfl, by decide +kernel, rfl, by decide +kernel, by decide +kernel⟩
theorem ok_law_right (T : TY w K mg) : FnD P w K mg base 10 (He.ga K "_law_right") [] sp_law_right := by
  obtain ⟨fd, F⟩ := tDef T 23
  exact fnD_of (k := 9) (N := ["one", "names", "bounds", "left", "right"]) (ps := ["one", "names", "bounds", "left", "right"]) F sc_law_right (F.bindsN fun _ _ _ _ _ _ us hl => match us, hl with | [_, _, _, _, _], _ => rfl) (by decide) (by decide) (by decide) len_law_right (fun cdv A outer s H E hr => ⟨_, show DSs _ _ _ _ b_law_right from
 (dss_cons (ds_if (dt_cmp op_isC sim_is (de_fld (cs := ["Bounds"]) (f := "cycle") (fldOk1 (fCls 21 "Bounds" T) (fNoat 22 "Bounds" "cycle" T)) (de_var 0)) de_non (nomark _))
 (dss_one (ds_ret (de_call (ok_law_keeps T) (hr.mono (by decide)) (takes_of rfl rfl rfl rfl) (by rfl) (fGlo 38 "_law_keeps" T) (fKeep 39 "_law_keeps" T) (da_cons (de_meth0 (C := "Bounds") (m := "model") (de_var 0) (fCls 21 "Bounds" T) (fMeth 40 "Bounds" "model" T) (ok_Bounds_model T) (hr.mono (by decide)) (takes_of rfl rfl rfl rfl)) (da_cons (de_var 1) (da_cons (de_var 2) da_nil))))))
 dss_nil)
 (dss_one (ds_ret (de_and (de_call (ok_law_is_a_cycle T) (hr.mono (by decide)) (takes_of rfl rfl rfl rfl) (by rfl) (fGlo 41 "_law_is_a_cycle" T) (fKeep 42 "_law_is_a_cycle" T) (da_cons (de_fld (cs := ["Bounds"]) (f := "cycle") (fldOk1 (fCls 21 "Bounds" T) (fNoat 22 "Bounds" "cycle" T)) (de_var 0)) (da_cons (de_var 1) (da_cons (de_var 2) da_nil)))) (de_one (de_call (ok_law_contradicts T) (hr.mono (by decide)) (takes_of rfl rfl rfl rfl) (by rfl) (fGlo 43 "_law_contradicts" T) (fKeep 44 "_law_contradicts" T) (da_cons (de_var 0) (da_cons (de_var 3) (da_cons (de_var 4) da_nil)))))))))⟩) (rd := rd_law_right)
theorem sc_law : FnScope ["script", "state", "names", "sides", "centres", "bounds", "at", "made", "k", "pair"] ["script"] (defScope (top 27)) := ⟨rfl, rfl, rfl, by decide +kernel, rfl, by decide +kernel, by decide +kernel⟩
theorem facts_law {h : Heap} {fa : Addr} (X : K.In h) (G : h.Ns mainGlobals mg) (hfa : mg ("law" : Str) = some (.ref fa)) (c : SaysX fx fn ts w K) :
    ∃ fd : FuncData, (∀ (s : Shared) (v : Value), BindsTo s fd ⟨[v], []⟩ [("script", v)]) ∧ ∀ base : Heap, K.In base → base.Ns mainGlobals mg → FnOk P w K mg base (L2N.CX P w) 11 fa fd ["script"] (spOf ⟨K, w⟩ [] sp_law) := by
  have T : TY w K mg := ⟨h, X, G, c⟩
  obtain ⟨fd, F⟩ := tDef T 24
  have e := hfa.symm.trans (fGlo 74 "law" T)
  cases e
  have b := FunD.bindsA (ps := ["script"]) F fun _ _ _ _ _ _ us hl => match us, hl with | [_], _ => rfl
  exact ⟨fd, fun s v => b s [v] rfl, fun base _ _ => fnOkD_of (k := 10) (N := ["script", "state", "names", "sides", "centres", "bounds", "at", "made", "k", "pair"]) (ps := ["script"]) F sc_law (by decide) (by decide) (by decide) len_law (fun cdv A outer s H E hr => ⟨_, show DSs _ _ _ _ b_law from
 (dss_cons (ds_setO (i := 1) sc_law.nd rfl (by first | exact Or.inl rfl | exact Or.inr rfl) (do_call (ok_law_start T) (hr.mono (by decide)) (takes_of rfl rfl rfl rfl) (by rfl) (fGlo 0 "_law_start" T) (fKeep 1 "_law_start" T) (da_cons (de_var 0) da_nil)))
 (dss_cons (ds_set (i := 2) sc_law.nd rfl (by first | exact Or.inl rfl | exact Or.inr rfl) (de_callIO 1 (ok_law_names T) (hr.mono (by decide)) (takes_of rfl rfl rfl rfl) (by rfl) (fGlo 2 "_law_names" T) (fKeep 3 "_law_names" T) (da_cons (de_add de_int (de_callIO 1 (ok_law_draw T) (hr.mono (by decide)) (takes_of rfl rfl rfl rfl) (by rfl) (fGlo 4 "_law_draw" T) (fKeep 5 "_law_draw" T) (da_cons de_int da_nil))) da_nil)))
 (dss_cons (ds_set (i := 3) sc_law.nd rfl (by first | exact Or.inl rfl | exact Or.inr rfl) (de_add (DO.fz (do_lst (da_cons de_non da_nil))) (de_var 2)))
 (dss_cons (ds_set (i := 4) sc_law.nd rfl (by first | exact Or.inl rfl | exact Or.inr rfl) (de_callIO 1 (ok_law_centres T) (hr.mono (by decide)) (takes_of rfl rfl rfl rfl) (by rfl) (fGlo 6 "_law_centres" T) (fKeep 7 "_law_centres" T) da_nil))
 (dss_cons (ds_set (i := 5) sc_law.nd rfl (by first | exact Or.inl rfl | exact Or.inr rfl) (de_callIO 1 (ok_law_some_bounds T) (hr.mono (by decide)) (takes_of rfl rfl rfl rfl) (by rfl) (fGlo 8 "_law_some_bounds" T) (fKeep 9 "_law_some_bounds" T) (da_cons (de_var 3) (da_cons (de_var 4) da_nil))))
 (dss_cons (ds_if (dt_cmp (op_eqX hr.units) sim_eq (de_callIO 1 (ok_law_draw T) (hr.mono (by decide)) (takes_of rfl rfl rfl rfl) (by rfl) (fGlo 4 "_law_draw" T) (fKeep 5 "_law_draw" T) (da_cons de_int da_nil)) de_int (nomark _))
 (dss_cons (ds_set (i := 6) sc_law.nd rfl (by first | exact Or.inl rfl | exact Or.inr rfl) (de_callIO 1 (ok_law_draw T) (hr.mono (by decide)) (takes_of rfl rfl rfl rfl) (by rfl) (fGlo 4 "_law_draw" T) (fKeep 5 "_law_draw" T) (da_cons (de_add (de_blt call_lenX sim_len (by rfl) (fFree 10 "len" T) PySem.boot_len (da_cons (de_var 5) da_nil)) de_int) da_nil)))
 (dss_one (ds_set (i := 5) sc_law.nd rfl (by first | exact Or.inl rfl | exact Or.inr rfl) (de_add (de_add (de_sl (de_var 5) dp_none (dp_some (de_var 6))) (de_callIO 1 (ok_law_ring T) (hr.mono (by decide)) (takes_of rfl rfl rfl rfl) (by rfl) (fGlo 11 "_law_ring" T) (fKeep 12 "_law_ring" T) (da_cons (de_var 3) (da_cons (de_var 4) da_nil)))) (de_sl (de_var 5) (dp_some (de_var 6)) dp_none)))))
 dss_nil)
 (dss_cons (ds_setO (i := 7) sc_law.nd rfl (by first | exact Or.inl rfl | exact Or.inr rfl) (do_lst (da_cons (de_call (ok_law_bounds_of T) (hr.mono (by decide)) (takes_of rfl rfl rfl rfl) (by rfl) (fGlo 13 "_law_bounds_of" T) (fKeep 14 "_law_bounds_of" T) (da_cons (de_var 2) da_nil)) da_nil)))
 (dss_cons (ds_if (dt_not (dt_truth (de_call (ok_law_right T) (hr.mono (by decide)) (takes_of rfl rfl rfl rfl) (by rfl) (fGlo 15 "_law_right" T) (fKeep 16 "_law_right" T) (da_cons (de_ixV hr.units (i := 7) de_int) (da_cons (de_var 2) (da_cons (DO.fz (do_lst da_nil)) (da_cons de_non (da_cons (de_ix hr.units (de_var 2) de_int) da_nil))))))))
 (dss_one (ds_ret de_bl))
 dss_nil)
 (dss_cons (ds_for (passes_of rfl) rfl (di_range1 (by rfl) (fFree 17 "range" T) (da_cons (de_blt call_lenX sim_len (by rfl) (fFree 10 "len" T) PySem.boot_len (da_cons (de_var 5) da_nil)) da_nil)) (dg_name (i := 8) sc_law.nd rfl (by first | exact Or.inl rfl | exact Or.inr rfl))
 (dss_cons (ds_expr (de_lm (i := 7) PySem.F.slot_list_append PySem.F.type_list_append mt_append sim_app (da_cons (de_ownT (C := "Bounds") (op := .Add) (fOp 18 "Bounds" "__add__" T) (ok_Bounds_add T) (hr.mono (by decide)) (takes_of rfl rfl rfl rfl) PySem.noFill_tuple_add (de_ixV hr.units (i := 7) (de_var 8)) (de_ix hr.units (de_var 5) (de_var 8))) da_nil)))
 (dss_cons (ds_set (i := 9) sc_law.nd rfl (by first | exact Or.inl rfl | exact Or.inr rfl) (de_callIO 1 (ok_law_two_sides T) (hr.mono (by decide)) (takes_of rfl rfl rfl rfl) (by rfl) (fGlo 19 "_law_two_sides" T) (fKeep 20 "_law_two_sides" T) (da_cons (de_var 3) da_nil)))
 (dss_cons (ds_if (dt_not (dt_truth (de_call (ok_law_right T) (hr.mono (by decide)) (takes_of rfl rfl rfl rfl) (by rfl) (fGlo 15 "_law_right" T) (fKeep 16 "_law_right" T) (da_cons (de_ixV hr.units (i := 7) (de_add (de_var 8) de_int)) (da_cons (de_var 2) (da_cons (de_sl (de_var 5) dp_none (dp_some (de_add (de_var 8) de_int))) (da_cons (de_ix hr.units (de_var 9) de_int) (da_cons (de_ix hr.units (de_var 9) de_int) da_nil))))))))
 (dss_one (ds_ret de_bl))
 dss_nil)
 (dss_one (ds_if (DW.dt (dw_and (dt_cmp op_isNC sim_is (de_fld (cs := ["Bounds"]) (f := "cycle") (fldOk1 (fCls 21 "Bounds" T) (fNoat 22 "Bounds" "cycle" T)) (de_ixV hr.units (i := 7) (de_var 8))) de_non (nomark _)) (dw_and1 (dt_not (dt_truth (de_call (ok_law_same T) (hr.mono (by decide)) (takes_of rfl rfl rfl rfl) (by rfl) (fGlo 23 "_law_same" T) (fKeep 24 "_law_same" T) (da_cons (de_fld (cs := ["Bounds"]) (f := "cycle") (fldOk1 (fCls 21 "Bounds" T) (fNoat 22 "Bounds" "cycle" T)) (de_ixV hr.units (i := 7) (de_add (de_var 8) de_int))) (da_cons (de_fld (cs := ["Bounds"]) (f := "cycle") (fldOk1 (fCls 21 "Bounds" T) (fNoat 22 "Bounds" "cycle" T)) (de_ixV hr.units (i := 7) (de_var 8))) da_nil))))))))
 (dss_one (ds_ret de_bl))
 dss_nil))))))
 (dss_cons (ds_set (i := 6) sc_law.nd rfl (by first | exact Or.inl rfl | exact Or.inr rfl) (de_callIO 1 (ok_law_draw T) (hr.mono (by decide)) (takes_of rfl rfl rfl rfl) (by rfl) (fGlo 4 "_law_draw" T) (fKeep 5 "_law_draw" T) (da_cons (de_lenV (i := 7) rfl (by rfl) (fFree 10 "len" T)) da_nil)))
 (dss_one (ds_ret (de_and (de_call (ok_law_right T) (hr.mono (by decide)) (takes_of rfl rfl rfl rfl) (by rfl) (fGlo 15 "_law_right" T) (fKeep 16 "_law_right" T) (da_cons (de_ixV hr.units (i := 7) (de_var 6)) (da_cons (de_var 2) (da_cons (de_sl (de_var 5) dp_none (dp_some (de_var 6))) (da_cons (de_ix hr.units (de_var 2) de_int) (da_cons de_non da_nil)))))) (de_one (de_call (ok_law_same T) (hr.mono (by decide)) (takes_of rfl rfl rfl rfl) (by rfl) (fGlo 23 "_law_same" T) (fKeep 24 "_law_same" T) (da_cons (de_fld (cs := ["Bounds"]) (f := "added") (fldOk1 (fCls 21 "Bounds" T) (fNoat 26 "Bounds" "added" T)) (de_ixV hr.units (i := 7) (de_var 6))) (da_cons (de_bty call_tuple_of sim_tuple (by rfl) (fFree 25 "tuple" T) PyProof.Rows.boot_tuple (da_cons (de_sl (de_var 5) dp_none (dp_some (de_var 6))) da_nil)) da_nil)))))))))))))))))⟩) (rd := rd_law)⟩
abbrev lawLevel : Nat := 11
end
end DL

namespace DL
open PySem L2

end DL
open PySem PySem.W PySem.Calls PyProof.Rows
theorem PySem.Challenge.cw_totalsbeside_k07_whole_cycle_or_model_holds : PySem.Challenge.rw_totalsbeside_k07_whole_cycle_or_model.Holds := by
  w_on; o_law
  refine HandSHeadRun.head_any (r := OpenLaw.row PySem.Challenge.rw_totalsbeside_k07_whole_cycle_or_model) (q := view (OpenLaw.row PySem.Challenge.rw_totalsbeside_k07_whole_cycle_or_model).prog [27]) (H := DL.hk) (ob := DL.ob) (M := 30000) (loose := DL.looseN) (d := HandSHeadRun.topDef (OpenLaw.row PySem.Challenge.rw_totalsbeside_k07_whole_cycle_or_model).prog 27) (kwd := []) DL.ob_eq
    (by kernel_rfl) (fun s => by kernel_rfl) DL.run (by kernel_rfl) (by kernel_rfl) (by kernel_rfl) (by rfl) (by first | assumption | decide +kernel) (by decide +kernel) ⟨rfl, rfl, rfl, rfl, rfl, by decide +kernel⟩ ?hw ?hc
  case hw => w_witness2
  case hc =>
    refine DL.walk_law (l := PySem.Challenge.rw_totalsbeside_k07_whole_cycle_or_model) (n := 63) (k := DL.lawLevel) (sd := DL.sp_law) (x := "script") rfl (by decide) (by kernel_rfl) ⟨rfl, by decide, by decide⟩ DL.law_asked ?F
    intro w mg fa h Y G hmg0
    obtain ⟨K, KX, c⟩ := Y
    have hmg : mg ("law" : PySem.Str) = some (.ref fa) := by
      have e : (HandSHeadRun.topDef (OpenLaw.row PySem.Challenge.rw_totalsbeside_k07_whole_cycle_or_model).prog 27).name = ("law" : PySem.Str) := by kernel_rfl
      rw [← e]
      exact hmg0
    obtain ⟨fd, hb, hF⟩ := DL.facts_law (w := w) KX G hmg c
    exact ⟨K, fd, KX, hb, hF⟩
