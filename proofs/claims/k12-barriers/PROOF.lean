import PyProof.Rows.All
import Wide.All
import OpenK.AllK
import Wide.FinOn
import HandS.ForMost
import HandS.Deep
import HandS.TupAny
import HandS.TupMul
import HandS.IsInst
import HandS.Conv
import HandS.Zip
import HandS.Style
import HandS.Lambda
import KE.DataFind
import HandS.Flt
import HandS.TupSets
import HandS.Defaults
import KE.KDictKeyed
import KE.KDictDisplayH
import KE.KDictWalk
import KE.SortData
import KE.DataMinMax
import KE.KDictSum
import KE.KDictCopyH
import HandS.Exc
import HandS.ExcIs
import HandS.ExcOwn
import HandS.Dict
import HandS.WordsExc
import HandS.Codes
import HandS.HeadHook1
import HandS.EndTab
import HandS.HeadEnd
import HandS.HeadHook4
import KE.KNestM
import KE.GoesEnum
import KE.KeyNested
import PyProof.WalksMore
import KE.KStateDown
import HandS.Base
import HandS.Call
import HandS.Ends
import HandS.More
import HandS.Words
import HandS.Head0
import HandS.Head1
import HandS.Head2
import HandS.HeadHook2
import PySem.Challenge.RW_wallholds_k12_barriers
set_option Elab.async false
set_option linter.all false
set_option maxRecDepth 100000
set_option maxHeartbeats 4000000
namespace WH
open PySem L2

/-! ### data -/
inductive D where
  | non | bl (b : Bool) | int (i : Int) | str (s : Str)
  | tup (ds : List D) | lst (ds : List D) | dct (kvs : List (D × D)) | fn (x : Str) | scr (ns : List Int) | cell (o : HO) | pr (ds : List D)

def kD : Key → D
  | .inl i => .int i
  | .inr s => .str s

structure CK where
  K : PySem.W.Frag
  mg : Str → Option Value
  P : Program
  w : World
/-- a dict whose keys are tuples of ints and texts: its entries, each with its key's place -/
def DX (C : CK) (a : Addr) (ox : Obj × List (List Key × Addr × Value)) : HO := .ext fun h => (a == sysModules) = false ∧ h.get? a = some ox.1 ∧ ox.1.ExactDict ∧ ∃ es ep, ox.1.data = .dict es ep ∧ es.toList = ox.2.map (entryOfKey (tupleKind (mixKind C.P C.w))) ∧ (ox.2.map (·.1)).Nodup

mutual
inductive DV (C : CK) (S : Hp) : V → D → Prop
  | non : DV C S .non .non
  | bl (b : Bool) : DV C S (.bl b) (.bl b)
  | int (i : Int) : DV C S (.int i) (.int i)
  | str (x : Str) : DV C S (.str x) (.str x)
  | tup {a : Addr} {o : Obj} {xs : List V} {ds : List D} : S a = some (.frz o (.tup xs)) → o.dict = none → DVs C S xs ds → DV C S (.ref a) (.tup ds)
  | lst {a : Addr} {xs : List V} {ds : List D} : S a = some (.lst xs) → DVs C S xs ds → DV C S (.ref a) (.lst ds)
  | dct {a : Addr} {raw : Obj × List (List Key × Addr × Value)} {kvs : List (D × D)} : S a = some (DX C a raw) → DKs C S raw.2 kvs → DV C S (.ref a) (.dct kvs)
  | fn {x : Str} {f : Addr} : C.mg x = some (.ref f) → DV C S (.ref f) (.fn x)
  | scr {a : Addr} {ns : List Int} : SqL C.K S a (ns.map V.int) → DV C S (.ref a) (.scr ns)
  | cell {a : Addr} {o : HO} : S a = some o → DV C S (.ref a) (.cell o)
  | pr {a : Addr} {xs : List V} {ds : List D} : S a = some (.tup xs) → DVs C S xs ds → DV C S (.ref a) (.pr ds)
inductive DVs (C : CK) (S : Hp) : List V → List D → Prop
  | nil : DVs C S [] []
  | cons {v : V} {vs : List V} {d : D} {ds : List D} : DV C S v d → DVs C S vs ds → DVs C S (v :: vs) (d :: ds)
inductive DKs (C : CK) (S : Hp) : List (List Key × Addr × Value) → List (D × D) → Prop
  | nil : DKs C S [] []
  | cons {k : List Key} {b : Addr} {u : Value} {o : Obj} {v : V} {raw : List (List Key × Addr × Value)} {d : D} {kvs : List (D × D)} : S b = some (.frz o (.tup (k.map kV))) → o.dict = none → RelV v u → DV C S v d → DKs C S raw kvs → DKs C S ((k, b, u) :: raw) ((.tup (k.map kD), d) :: kvs)
end

def Ex (H H' : Hp) : Prop := ∀ a o, H a = some o → H' a = some o
theorem Ex.refl (H : Hp) : Ex H H := fun _ _ h => h
theorem Ex.trans {H H1 H2 : Hp} (a : Ex H H1) (b : Ex H1 H2) : Ex H H2 := fun x o h => b x o (a x o h)
theorem Ex.new {H : Hp} {p : Addr} {o : HO} (h : H p = none) : Ex H (upd H p o) := fun a u e => by
  rw [upd_ne (ne_of_none e h)]
  exact e
theorem Ex.rd {H H' : Hp} {a : Addr} {u : HO} (e : Ex H H') (h : Rd H a u) : Rd H' a u := by
  rcases h with h | ⟨o, h⟩
  · exact Or.inl (e a _ h)
  · exact Or.inr ⟨o, e a _ h⟩
theorem Ex.l {K : PySem.W.Frag} {H H' : Hp} {a : Addr} {xs : List V} (e : Ex H H') (h : SqL K H a xs) : SqL K H' a xs := by
  rcases h with h | h
  · exact Or.inl (e.rd h)
  · exact Or.inr h
theorem Ex.t {K : PySem.W.Frag} {H H' : Hp} {a : Addr} {xs : List V} (e : Ex H H') (h : SqT K H a xs) : SqT K H' a xs := by
  rcases h with h | h
  · exact Or.inl (e.rd h)
  · exact Or.inr h
theorem frz_t {K : PySem.W.Frag} {H : Hp} {a : Addr} {o : Obj} {xs : List V} (h : H a = some (.frz o (.tup xs))) : SqT K H a xs := .inl (.inr ⟨o, h⟩)
theorem Ex.free {H H' : Hp} {p : Addr} (e : Ex H H') (h : H' p = none) : H p = none := by
  cases h1 : H p with
  | none => rfl
  | some o => rw [e p o h1] at h; cases h

mutual
theorem DV.mono {C : CK} {S S' : Hp} (e : Ex S S') : ∀ {v : V} {d : D}, DV C S v d → DV C S' v d
  | _, _, .non => .non
  | _, _, .bl b => .bl b
  | _, _, .int i => .int i
  | _, _, .str x => .str x
  | _, _, .tup h n r => .tup (e _ _ h) n (DVs.mono e r)
  | _, _, .lst h r => .lst (e _ _ h) (DVs.mono e r)
  | _, _, .dct h r => .dct (e _ _ h) (DKs.mono e r)
  | _, _, .fn h => .fn h
  | _, _, .scr h => .scr (e.l h)
  | _, _, .cell h => .cell (e _ _ h)
  | _, _, .pr h r => .pr (e _ _ h) (DVs.mono e r)
theorem DVs.mono {C : CK} {S S' : Hp} (e : Ex S S') : ∀ {v : List V} {d : List D}, DVs C S v d → DVs C S' v d
  | _, _, .nil => .nil
  | _, _, .cons h r => .cons (DV.mono e h) (DVs.mono e r)
theorem DKs.mono {C : CK} {S S' : Hp} (e : Ex S S') : ∀ {v : List (List Key × Addr × Value)} {d : List (D × D)}, DKs C S v d → DKs C S' v d
  | _, _, .nil => .nil
  | _, _, .cons hb hn hv h r => .cons (e _ _ hb) hn hv (DV.mono e h) (DKs.mono e r)
end

/-! ### what never changes -/
mutual
def Im : D → Bool
  | .tup ds => Ims ds
  | .lst _ => false
  | .dct _ => false
  | .scr _ => false
  | .cell _ => false
  | .pr _ => false
  | _ => true
def Ims : List D → Bool
  | [] => true
  | d :: ds => Im d && Ims ds
end
theorem Ims_all : ∀ ds : List D, Ims ds = ds.all Im
  | [] => by simp [Ims]
  | d :: ds => by simp [Ims, Ims_all ds]
def isTup : HO → Bool
  | .tup _ => true
  | .frz _ (.tup _) => true
  | _ => false
def TupEx (H H' : Hp) : Prop := ∀ a o, isTup o = true → H a = some o → H' a = some o
theorem TupEx.t {K : PySem.W.Frag} {H H' : Hp} {a : Addr} {xs : List V} (e : TupEx H H') (h : SqT K H a xs) : SqT K H' a xs := by
  rcases h with (h | ⟨o, h⟩) | h
  · exact Or.inl (Or.inl (e a _ rfl h))
  · exact Or.inl (Or.inr ⟨o, e a _ rfl h⟩)
  · exact Or.inr h
mutual
theorem DV.im {C : CK} {S S' : Hp} (e : TupEx S S') : ∀ {v : V} {d : D}, DV C S v d → Im d = true → DV C S' v d
  | _, _, .non, _ => .non
  | _, _, .bl b, _ => .bl b
  | _, _, .int i, _ => .int i
  | _, _, .str x, _ => .str x
  | _, _, .tup h n r, i => .tup (e _ _ rfl h) n (DVs.im e r (by simpa [Im] using i))
  | _, _, .lst h r, i => by simp [Im] at i
  | _, _, .dct h r, i => by simp [Im] at i
  | _, _, .fn h, _ => .fn h
  | _, _, .scr h, i => by simp [Im] at i
  | _, _, .cell h, i => by simp [Im] at i
  | _, _, .pr h r, i => by simp [Im] at i
theorem DVs.im {C : CK} {S S' : Hp} (e : TupEx S S') : ∀ {v : List V} {d : List D}, DVs C S v d → Ims d = true → DVs C S' v d
  | _, _, .nil, _ => .nil
  | _, _, .cons h r, i => by
    simp only [Ims, Bool.and_eq_true] at i
    exact .cons (DV.im e h i.1) (DVs.im e r i.2)
end

theorem DVs.length {C : CK} {S : Hp} : ∀ {vs : List V} {ds : List D}, DVs C S vs ds → vs.length = ds.length
  | _, _, .nil => rfl
  | _, _, .cons _ r => by simp [DVs.length r]
theorem DVs.get {C : CK} {S : Hp} : ∀ {vs : List V} {ds : List D} {i : Nat} {v : V}, DVs C S vs ds → vs[i]? = some v → ∃ d, ds[i]? = some d ∧ DV C S v d
  | _, _, _, _, .nil, e => by simp at e
  | _, _, 0, _, .cons h _, e => by simp at e; subst e; exact ⟨_, rfl, h⟩
  | _, _, i + 1, v, .cons _ r, e => by
    obtain ⟨d, h1, h2⟩ := DVs.get (i := i) (v := v) r (by simpa using e)
    exact ⟨d, by simpa using h1, h2⟩
theorem DVs.getD {C : CK} {S : Hp} : ∀ {vs : List V} {ds : List D} {i : Nat} {d : D}, DVs C S vs ds → ds[i]? = some d → ∃ v, vs[i]? = some v ∧ DV C S v d
  | _, _, _, _, .nil, e => by simp at e
  | _, _, 0, _, .cons h _, e => by simp at e; subst e; exact ⟨_, rfl, h⟩
  | _, _, i + 1, d, .cons _ r, e => by
    obtain ⟨v, h1, h2⟩ := DVs.getD (i := i) (d := d) r (by simpa using e)
    exact ⟨v, by simpa using h1, h2⟩
theorem DVs.append {C : CK} {S : Hp} : ∀ {vs ws : List V} {ds es : List D}, DVs C S vs ds → DVs C S ws es → DVs C S (vs ++ ws) (ds ++ es)
  | _, _, _, _, .nil, s => s
  | _, _, _, _, .cons h r, s => .cons h (DVs.append r s)
theorem DVs.take {C : CK} {S : Hp} : ∀ {vs : List V} {ds : List D} (n : Nat), DVs C S vs ds → DVs C S (vs.take n) (ds.take n)
  | _, _, 0, _ => .nil
  | _, _, _ + 1, .nil => .nil
  | _, _, n + 1, .cons h r => .cons h (DVs.take n r)
theorem DVs.drop {C : CK} {S : Hp} : ∀ {vs : List V} {ds : List D} (n : Nat), DVs C S vs ds → DVs C S (vs.drop n) (ds.drop n)
  | _, _, 0, r => r
  | _, _, _ + 1, .nil => .nil
  | _, _, n + 1, .cons _ r => DVs.drop n r

/-! ### the drawing state of a law; volatile places -/
def TownAt (t b : Addr) (H : Hp) : Prop := ∃ (c : Int) (kvs : List (Key × V)), H t = some (.dK [(.inr "count", .int c), (.inr "rests", .ref b)]) ∧ H b = some (.dK kvs) ∧ t ≠ b ∧
  (∀ k v, (k, v) ∈ kvs → ∃ i n : Int, k = .inl i ∧ v = .int n ∧ 0 ≤ i ∧ i < 64) ∧ (kvs.map (·.1)).Nodup
structure Gh where
  S : Hp
  tb : Option (Addr × Addr)
  T : List (Addr × Str)
def volOf (tb : Option (Addr × Addr)) (T : List (Addr × Str)) (a : Addr) : Bool :=
  (match tb with | some (t, b) => a == t || a == b | none => false) || T.any fun p => p.1 == a
abbrev Gh.vol (G : Gh) : Addr → Bool := volOf G.tb G.T
def JOf (tb : Option (Addr × Addr)) (T : List (Addr × Str)) (H : Hp) : Prop := (∀ t b, tb = some (t, b) → TownAt t b H) ∧ LamX.Tabs T H
/-- what own objects may be -/
def isMut : HO → Bool
  | .lst _ => true
  | .dK _ => true
  | .dT _ => true
  | .ins _ _ _ => true
  | _ => false
def Keep (vol : Addr → Bool) (H1 H2 : Hp) : Prop := ∀ a o, (vol a = true ∨ isMut o = false) → H1 a = some o → H2 a = some o
theorem JOf.keep {tb : Option (Addr × Addr)} {T : List (Addr × Str)} {H1 H2 : Hp} (k : Keep (volOf tb T) H1 H2) (h : JOf tb T H1) : JOf tb T H2 := by
  refine ⟨fun t b e => ?_, fun p hp => ?_⟩
  · obtain ⟨c, kvs, h1, h2, ne, h3, h4⟩ := h.1 t b e
    exact ⟨c, kvs, k t _ (.inl (by simp [volOf, e])) h1, k b _ (.inl (by simp [volOf, e])) h2, ne, h3, h4⟩
  · obtain ⟨ps, h1, h2, h3⟩ := h.2 p hp
    refine ⟨ps, k p.1 _ (.inl ?_) h1, h2, fun pos cv hc => ?_⟩
    · have : (T.any fun q => q.1 == p.1) = true := List.any_eq_true.mpr ⟨p, hp, by simp⟩
      simp [volOf, this]
    · obtain ⟨c, e, hcc⟩ := h3 pos cv hc
      exact ⟨c, e, k c _ (.inr rfl) hcc⟩
theorem JOf.ex {tb : Option (Addr × Addr)} {T : List (Addr × Str)} {H1 H2 : Hp} (k : Ex H1 H2) (h : JOf tb T H1) : JOf tb T H2 := h.keep fun a o _ e => k a o e
theorem JOf.vt {tb : Option (Addr × Addr)} {T : List (Addr × Str)} {H : Hp} (h : JOf tb T H) {a : Addr} (v : volOf tb T a = true) : ∃ o, H a = some o ∧ isTup o = false := by
  unfold volOf at v
  rcases (Bool.or_eq_true _ _).mp v with v | v
  · cases tb with
    | none => cases v
    | some p =>
      obtain ⟨t, b⟩ := p
      obtain ⟨c, kvs, h1, h2, _⟩ := h.1 t b rfl
      rcases (Bool.or_eq_true _ _).mp v with v | v
      · exact ⟨_, by rw [eq_of_beq v]; exact h1, rfl⟩
      · exact ⟨_, by rw [eq_of_beq v]; exact h2, rfl⟩
  · obtain ⟨p, hp, e⟩ := List.any_eq_true.mp v
    obtain ⟨ps, h1, _⟩ := h.2 p hp
    exact ⟨_, by rw [← eq_of_beq e]; exact h1, rfl⟩

/-! ### the store -/
inductive Slot where
  | sh (d : D) | own (d : D) | town
abbrev R := List (Option Slot)
structure Ctx extends CK where
  H0 : Hp
  tb0 : Option (Addr × Addr)
  T0 : List (Addr × Str)
abbrev Ctx.vol0 (C : Ctx) : Addr → Bool := volOf C.tb0 C.T0
abbrev Ctx.ck (C : Ctx) : CK := C.toCK
/-- an own list, an own dict -/
def OwnAt (C : CK) (S H : Hp) (a : Addr) : D → Prop
  | .lst ds => ∃ vs, H a = some (.lst vs) ∧ DVs C S vs ds
  | .dct kvs => ∃ raw, H a = some (DX C a raw) ∧ DKs C S raw.2 kvs
  | _ => False
theorem OwnAt.mono {C : CK} {S S' H H' : Hp} {a : Addr} {d : D} (h : OwnAt C S H a d) (e : Ex S S') (k : ∀ o, H a = some o → H' a = some o) : OwnAt C S' H' a d := by
  cases d <;> first
    | exact h.elim
    | (obtain ⟨vs, h1, h2⟩ := h; exact ⟨vs, k _ h1, h2.mono e⟩)
theorem OwnAt.mut {C : CK} {S H : Hp} {a : Addr} {d : D} (h : OwnAt C S H a d) : ∃ o, H a = some o ∧ isTup o = false := by
  cases d <;> first
    | exact h.elim
    | (obtain ⟨vs, h1, h2⟩ := h; exact ⟨_, h1, rfl⟩)
structure Rep (C : Ctx) (pn : List (V × D)) (G : Gh) (ρ : R) (σ : L2.St) (H : Hp) : Prop where
  sub : ∀ a o, G.S a = some o → H a = some o ∧ G.vol a = false
  h0 : ∀ a o, C.vol0 a = false → C.H0 a = some o → H a = some o
  v0 : ∀ a, C.vol0 a = true → G.vol a = true
  v1 : ∀ a, G.vol a = true → C.vol0 a = true ∨ C.H0 a = none
  tb : C.tb0 ≠ none → G.tb = C.tb0
  T : G.T = C.T0
  J : JOf G.tb G.T H
  pn : ∀ p ∈ pn, DV C.ck G.S p.1 p.2
  sh : ∀ (i : Nat) d, ρ[i]? = some (some (Slot.sh d)) → ∃ v, σ[i]? = some (some v) ∧ DV C.ck G.S v d
  own : ∀ (i : Nat) d, ρ[i]? = some (some (Slot.own d)) → ∃ a, σ[i]? = some (some (V.ref a)) ∧ G.S a = none ∧ G.vol a = false ∧ C.H0 a = none ∧ OwnAt C.ck G.S H a d
  inj : ∀ (i j : Nat) d e a, ρ[i]? = some (some (Slot.own d)) → ρ[j]? = some (some (Slot.own e)) → σ[i]? = some (some (V.ref a)) → σ[j]? = some (some (V.ref a)) → i = j
  town : ∀ (i : Nat), ρ[i]? = some (some Slot.town) → ∃ t b, G.tb = some (t, b) ∧ σ[i]? = some (some (V.ref t))
  len : ρ.length = σ.length

structure Step (G : Gh) (H S' H' : Hp) : Prop where
  keep : ∀ a o, G.vol a = false → H a = some o → H' a = some o
  grow : Ex G.S S'
  sub : ∀ a o, S' a = some o → H' a = some o ∧ G.vol a = false
  new : ∀ a o, S' a = some o → G.S a = some o ∨ H a = none ∨ isTup o = true
  J : JOf G.tb G.T H'
theorem Step.refl {C : Ctx} {pn : List (V × D)} {G : Gh} {ρ : R} {σ : L2.St} {H : Hp} (r : Rep C pn G ρ σ H) : Step G H G.S H :=
  ⟨fun _ _ _ h => h, Ex.refl _, r.sub, fun _ _ h => .inl h, r.J⟩
theorem Rep.step {C : Ctx} {pn : List (V × D)} {G : Gh} {ρ : R} {σ : L2.St} {H S' H' : Hp} (r : Rep C pn G ρ σ H) (s : Step G H S' H') : Rep C pn { G with S := S' } ρ σ H' where
  sub := s.sub
  h0 := fun a o h1 h2 => by
    cases e : G.vol a with
    | false => exact s.keep a o e (r.h0 a o h1 h2)
    | true =>
      rcases r.v1 a e with z | z
      · rw [z] at h1; cases h1
      · rw [z] at h2; cases h2
  v0 := r.v0
  v1 := r.v1
  tb := r.tb
  T := r.T
  J := s.J
  pn := fun p hp => (r.pn p hp).mono s.grow
  sh := fun i d h => by obtain ⟨v, h1, h2⟩ := r.sh i d h; exact ⟨v, h1, h2.mono s.grow⟩
  own := fun i d h => by
    obtain ⟨a, h1, h2, h3, h4, h5⟩ := r.own i d h
    refine ⟨a, h1, ?_, h3, h4, h5.mono s.grow fun o e => s.keep a o h3 e⟩
    show S' a = none
    cases q : S' a with
    | none => rfl
    | some o =>
      obtain ⟨o', e1, e3⟩ := h5.mut
      have k := s.keep a o' h3 e1
      have z := (s.sub a o q).1
      rw [k] at z
      obtain rfl : o' = o := Option.some.inj z
      rcases s.new a _ q with z | z | z
      · rw [h2] at z; cases z
      · rw [e1] at z; cases z
      · rw [e3] at z; cases z
  inj := r.inj
  town := r.town
  len := r.len
theorem Step.trans {C : Ctx} {pn : List (V × D)} {G : Gh} {ρ : R} {σ : L2.St} {H S1 H1 S2 H2 : Hp} (r : Rep C pn G ρ σ H) (a : Step G H S1 H1) (b : Step { G with S := S1 } H1 S2 H2) : Step G H S2 H2 where
  keep := fun x o h1 h2 => b.keep x o h1 (a.keep x o h1 h2)
  grow := a.grow.trans b.grow
  sub := b.sub
  new := fun x o h => by
    rcases b.new x o h with z | z | z
    · rcases a.new x o z with y | y | y
      · exact .inl y
      · exact .inr (.inl y)
      · exact .inr (.inr y)
    · refine .inr (.inl ?_)
      have hv := (b.sub x o h).2
      cases e : H x with
      | none => rfl
      | some u => rw [a.keep x u hv e] at z; cases z
    · exact .inr (.inr z)
  J := b.J

/-- the heap without the volatile places: where borrowed things stand -/
def hid (vol : Addr → Bool) (H : Hp) : Hp := fun a => if vol a = true then none else H a
theorem hid_some {vol : Addr → Bool} {H : Hp} {a : Addr} {o : HO} : hid vol H a = some o ↔ H a = some o ∧ vol a = false := by
  unfold hid
  cases e : vol a <;> simp
theorem hid_ex {vol : Addr → Bool} {H H' : Hp} (k : ∀ a o, vol a = false → H a = some o → H' a = some o) : Ex (hid vol H) (hid vol H') := fun a o h => by
  obtain ⟨h1, h2⟩ := hid_some.mp h
  exact hid_some.mpr ⟨k a o h2 h1, h2⟩
theorem hid_le {vol : Addr → Bool} {H : Hp} : Ex (hid vol H) H := fun a o h => (hid_some.mp h).1
theorem Step.shB {G : Gh} {H S' H' : Hp} (s : Step G H S' H') : Ex S' (hid G.vol H') := fun a o h => hid_some.mpr (s.sub a o h)

/-! ### lifting -/
abbrev DE := R → (D → Prop) → Prop
abbrev DT := R → (Bool → Prop) → Prop
abbrev DA := R → (List D → Prop) → Prop
structure DEnds where
  nx : R → Prop
  rt : D → Prop
  bk : R → Prop := fun _ => False
  ct : R → Prop := fun _ => False
abbrev DS := DEnds → R → Prop

def liE (C : Ctx) (te : DE) : TE := fun σ H Q => ∃ pn G ρ P, Rep C pn G ρ σ H ∧ te ρ P ∧ ∀ d v S' H', P d → Step G H S' H' → DV C.ck S' v d → Q v H'
def liB (C : Ctx) (te : DE) : TE := fun σ H Q => ∃ pn G ρ P, Rep C pn G ρ σ H ∧ te ρ P ∧ ∀ d v S' H', P d → Step G H S' H' → DV C.ck (hid G.vol H') v d → Q v H'
def liT (C : Ctx) (tt : DT) : TT := fun σ H Q => ∃ pn G ρ P, Rep C pn G ρ σ H ∧ tt ρ P ∧ ∀ b S' H', P b → Step G H S' H' → Q b H'
def liA (C : Ctx) (ta : DA) : TA := fun σ H Q => ∃ pn G ρ P, Rep C pn G ρ σ H ∧ ta ρ P ∧ ∀ ds vs S' H', P ds → Step G H S' H' → DVs C.ck S' vs ds → Q vs H'
def liAB (C : Ctx) (ta : DA) : TA := fun σ H Q => ∃ pn G ρ P, Rep C pn G ρ σ H ∧ ta ρ P ∧ ∀ ds vs S' H', P ds → Step G H S' H' → DVs C.ck (hid G.vol H') vs ds → Q vs H'
theorem liE_of_B {C : Ctx} {te : DE} {σ : L2.St} {H : Hp} {Q : VK} (h : liB C te σ H Q) : liE C te σ H Q := by
  obtain ⟨pn, G, ρ, P, r, t, k⟩ := h
  exact ⟨pn, G, ρ, P, r, t, fun d v S' H' p s dv => k d v S' H' p s (dv.mono s.shB)⟩
theorem PE.to {X : Cx} {e : Expr} {t t' : TE} (h : PE X e t) (k : ∀ σ H Q, t' σ H Q → t σ H Q) : PE X e t' := ⟨fun pins s σ H Q I q => h.run pins s σ H Q I (k σ H Q q)⟩
theorem PT.to {X : Cx} {e : Expr} {t t' : TT} (h : PT X e t) (k : ∀ σ H Q, t' σ H Q → t σ H Q) : PT X e t' := ⟨fun pins s σ H Q I q => h.run pins s σ H Q I (k σ H Q q)⟩
theorem PA.to {X : Cx} {e : List Expr} {t t' : TA} (h : PA X e t) (k : ∀ σ H Q, t' σ H Q → t σ H Q) : PA X e t' := ⟨fun pos pins s σ H Q I q => h.run pos pins s σ H Q I (k σ H Q q)⟩
theorem PS.to {X : Cx} {e : Stmt} {t t' : TS} (h : PS X e t) (k : ∀ D σ H, t' D σ H → t D σ H) : PS X e t' := ⟨fun pins s σ H D I q => h.run pins s σ H D I (k D σ H q)⟩
theorem PSs.to {X : Cx} {e : List Stmt} {t t' : TS} (h : PSs X e t) (k : ∀ D σ H, t' D σ H → t D σ H) : PSs X e t' := ⟨fun pins s σ H D I q => h.run pins s σ H D I (k D σ H q)⟩
theorem PE.b {X : Cx} {C : Ctx} {e : Expr} {t : DE} (h : PE X e (liE C t)) : PE X e (liB C t) := PE.to h fun _ _ _ q => liE_of_B q

/-- the data-level ends and HandS's -/
structure EndsOk (C : Ctx) (pn : List (V × D)) (E : DEnds) (Z : Ends) : Prop where
  nx : ∀ G ρ σ H, Rep C pn G ρ σ H → E.nx ρ → Z.nx σ H
  bk : ∀ G ρ σ H, Rep C pn G ρ σ H → E.bk ρ → Z.bk σ H
  ct : ∀ G ρ σ H, Rep C pn G ρ σ H → E.ct ρ → Z.ct σ H
  rt : ∀ G ρ σ H d v N, Rep C pn G ρ σ H → E.rt d → (∀ a o, N a = some o → H a = some o ∧ (C.H0 a = none ∨ isTup o = true)) → DV C.ck N v d → Z.rt v H
def liS (C : Ctx) (ts : DS) : TS := fun Z σ H => ∃ pn G ρ E, Rep C pn G ρ σ H ∧ ts E ρ ∧ EndsOk C pn E Z

structure Fits (C : Ctx) (X : Cx) : Prop where
  K : X.K = C.K
  mg : X.mg = C.mg
  units : X.A.units + 65 < cLine
  calm : X.calm = true
  nd : X.N.Nodup
  prog : X.prog = C.P
  w : X.w = C.w
theorem Fits.blk {C : Ctx} {X : Cx} (h : Fits C X) {s : Shared} {H : Hp} {scope : Scope} {cenv : Env} {fp : List Addr} : Fits C (X.blk s H scope cenv fp) := ⟨h.K, h.mg, h.units, h.calm, h.nd, h.prog, h.w⟩
theorem Fits.nox {C : Ctx} {X : Cx} (h : Fits C X) : Fits C X.nox := ⟨h.K, h.mg, h.units, h.calm, h.nd, h.prog, h.w⟩
end WH

set_option Elab.async false
set_option linter.all false
set_option maxRecDepth 100000
set_option maxHeartbeats 4000000
namespace WH
open PySem L2

/-! ### partial results -/
def oP {α : Type} (o : Option α) (P : α → Prop) : Prop := ∃ d, o = some d ∧ P d
theorem oP_some {α : Type} {d : α} {P : α → Prop} : oP (some d) P ↔ P d := ⟨fun ⟨_, e, p⟩ => by cases e; exact p, fun p => ⟨d, rfl, p⟩⟩
theorem oP_none {α : Type} {P : α → Prop} : oP (none : Option α) P ↔ False := ⟨fun ⟨_, e, _⟩ => (by cases e), False.elim⟩

/-! ### two parts of a heap -/
def un (S N : Hp) : Hp := fun a => match S a with | some o => some o | none => N a
theorem un_l {S N : Hp} : Ex S (un S N) := fun a o h => by unfold un; rw [h]
theorem un_r {S N H : Hp} (h1 : Ex S H) (h2 : Ex N H) : Ex N (un S N) := fun a o h => by
  unfold un
  cases e : S a with
  | none => exact h
  | some u =>
    have z1 := h1 a u e
    have z2 := h2 a o h
    rw [z1] at z2
    exact z2
theorem un_some {S N : Hp} {a : Addr} {o : HO} (h : un S N a = some o) : S a = some o ∨ N a = some o := by
  unfold un at h
  cases e : S a with
  | none => rw [e] at h; exact .inr h
  | some u => rw [e] at h; exact .inl h
/-- a new part -/
structure New (H H' N : Hp) : Prop where
  ex : Ex H H'
  new : ∀ a o, N a = some o → H' a = some o ∧ H a = none
theorem New.refl (H : Hp) : New H H (fun _ => none) := ⟨Ex.refl _, fun _ _ h => by cases h⟩
theorem New.one {H : Hp} {p : Addr} {o : HO} (h : H p = none) : New H (upd H p o) (fun a => if a = p then some o else none) := ⟨Ex.new h, fun a u e => by
  by_cases q : a = p
  · rw [if_pos q] at e; cases e; subst q; exact ⟨upd_same, h⟩
  · rw [if_neg q] at e; cases e⟩
theorem New.step {C : Ctx} {pn : List (V × D)} {G : Gh} {ρ : R} {σ : L2.St} {H H' N : Hp} (r : Rep C pn G ρ σ H) (n : New H H' N) : Step G H (un G.S N) H' where
  keep := fun a o _ h => n.ex a o h
  grow := un_l
  sub := fun a o h => by
    rcases un_some h with z | z
    · exact ⟨n.ex a o (r.sub a o z).1, (r.sub a o z).2⟩
    · refine ⟨(n.new a o z).1, ?_⟩
      cases e : G.vol a with
      | false => rfl
      | true =>
        obtain ⟨u, h1, _⟩ := r.J.vt e
        rw [(n.new a o z).2] at h1; cases h1
  new := fun a o h => by
    rcases un_some h with z | z
    · exact .inl z
    · exact .inr (.inl (n.new a o z).2)
  J := r.J.ex n.ex
theorem DV.shr {C : CK} {S N : Hp} {v : V} {d : D} (h : DV C S v d) : DV C (un S N) v d := h.mono un_l
/-- after a step, a new part: both in one -/
theorem New.step2 {C : Ctx} {pn : List (V × D)} {G : Gh} {ρ : R} {σ : L2.St} {H S1 H1 H2 N : Hp} (r : Rep C pn G ρ σ H) (s : Step G H S1 H1) (n : New H1 H2 N) : Step G H (un S1 N) H2 :=
  Step.trans r s (New.step (r.step s) n)
theorem Step.exH {G : Gh} {H S' H' : Hp} (s : Step G H S' H') : Ex S' H' := fun a o h => (s.sub a o h).1

/-! ### the kinds of rules of operators and calls -/
/-- structural results: the operands stand in S -/
def Post (C : CK) (S H : Hp) (z : D) (Q : VK) : Prop := ∀ v H' N, New H H' N → DV C (un S N) v z → Q v H'
def OpG (C : Ctx) (f : D → D → Option D) (r : R2) : Prop := ∀ S H x y d e z Q, Ex S H → DV C.ck S x d → DV C.ck S y e → f d e = some z → Post C.ck S H z Q → r x y H Q
def CmpG (C : Ctx) (f : D → D → Option Bool) (r : R2) : Prop := ∀ H x y d e z Q, DV C.ck H x d → DV C.ck H y e → f d e = some z → Q (.bl z) H → r x y H Q
def CallG (C : Ctx) (f : List D → Option D) (r : List V → Hp → VK → Prop) : Prop := ∀ S H vs ds z Q, Ex S H → DVs C.ck S vs ds → f ds = some z → Post C.ck S H z Q → r vs H Q
/-- scalar results: the arguments may be borrowed -/
def Sc : D → Bool
  | .non => true | .bl _ => true | .int _ => true | .str _ => true | _ => false
def CallS (C : Ctx) (f : List D → Option D) (r : List V → Hp → VK → Prop) : Prop := ∀ H vs ds z Q, DVs C.ck H vs ds → f ds = some z → Sc z = true ∧ ((∀ v, DV C.ck (fun _ => none) v z → Q v H) → r vs H Q)
theorem DV.sc {C : CK} {S S' : Hp} {v : V} {d : D} (h : DV C S v d) (s : Sc d = true) : DV C S' v d := by
  cases h <;> first
    | exact .non
    | exact .bl _
    | exact .int _
    | exact .str _
    | (simp [Sc] at s)
theorem Post.sc {C : CK} {S H : Hp} {z : D} {Q : VK} {v : V} (h : Post C S H z Q) (s : DV C (fun _ => none) v z) : Q v H := h v H _ (New.refl H) (s.mono fun _ _ e => by cases e)
theorem Post.same {C : CK} {S H : Hp} {z : D} {Q : VK} {v : V} (h : Post C S H z Q) (s : DV C S v z) : Q v H := h v H _ (New.refl H) s.shr
theorem new_tup {C : CK} {S H : Hp} {p : Addr} {u : Obj} {xs : List V} {ds : List D} (r : DVs C S xs ds) (h : H p = none) (hu : u.dict = none) (e : Ex S H) : DV C (un S fun a => if a = p then some (.frz u (.tup xs)) else none) (.ref p) (.tup ds) := by
  refine .tup (o := u) ?_ hu (r.mono un_l)
  show un S _ p = _
  unfold un
  cases q : S p with
  | none => simp
  | some u => rw [e p u q] at h; cases h
theorem new_lst {C : CK} {S H : Hp} {p : Addr} {xs : List V} {ds : List D} (r : DVs C S xs ds) (h : H p = none) (e : Ex S H) : DV C (un S fun a => if a = p then some (.lst xs) else none) (.ref p) (.lst ds) := by
  refine .lst ?_ (r.mono un_l)
  show un S _ p = _
  unfold un
  cases q : S p with
  | none => simp
  | some u => rw [e p u q] at h; cases h
theorem Post.tup {C : CK} {S H : Hp} {ds : List D} {Q : VK} (h : Post C S H (.tup ds) Q) {xs : List V} (r : DVs C S xs ds) (e : Ex S H) : ∀ p u, H p = none → u.dict = none → Q (.ref p) (upd H p (.frz u (.tup xs))) := fun p u hp hu =>
  h _ _ _ (New.one hp) (new_tup r hp hu e)
theorem Post.lst {C : CK} {S H : Hp} {ds : List D} {Q : VK} (h : Post C S H (.lst ds) Q) {xs : List V} (r : DVs C S xs ds) (e : Ex S H) : ∀ p, H p = none → Q (.ref p) (upd H p (.lst xs)) := fun p hp =>
  h _ _ _ (New.one hp) (new_lst r hp e)

/-! ### data-level readings -/
def getS (ρ : R) (i : Nat) : Option D := match ρ[i]? with | some (some (.sh d)) => some d | _ => none
def getB (ρ : R) (i : Nat) : Option D := match ρ[i]? with | some (some (.sh d)) => some d | some (some (.own d)) => some d | _ => none
def dVar (i : Nat) : DE := fun ρ P => oP (getS ρ i) P
def dVarB (i : Nat) : DE := fun ρ P => oP (getB ρ i) P
def dC (d : D) : DE := fun _ P => P d
def dBin (f : D → D → Option D) (ta tb : DE) : DE := fun ρ P => ta ρ fun x => tb ρ fun y => oP (f x y) P
def dUn (f : D → Option D) (ta : DE) : DE := fun ρ P => ta ρ fun x => oP (f x) P
def dNil : DA := fun _ P => P []
def dCons (ta : DE) (tr : DA) : DA := fun ρ P => ta ρ fun x => tr ρ fun xs => P (x :: xs)
def dTup (ta : DA) : DE := fun ρ P => ta ρ fun ds => ds.length ≤ 1000 ∧ P (.tup ds)
def dLst (ta : DA) : DE := fun ρ P => ta ρ fun ds => ds.length ≤ 1000 ∧ P (.lst ds)
def dCB (f : List D → Option D) (ta : DA) : DE := fun ρ P => ta ρ fun ds => oP (f ds) P
def asB : D → Option Bool
  | .bl b => some b
  | _ => none
def dTest (te : DE) : DT := fun ρ P => te ρ fun d => oP (asB d) P
def dCmp (f : D → D → Option Bool) (ta tb : DE) : DT := fun ρ P => ta ρ fun x => tb ρ fun y => oP (f x y) P
def dCmpV (f : D → D → Option Bool) (ta tb : DE) : DE := fun ρ P => ta ρ fun x => tb ρ fun y => oP (f x y) fun b => P (.bl b)
def dAnd (t u : DT) : DT := fun ρ P => t ρ fun c => if c = true then u ρ P else P false
def dOr (t u : DT) : DT := fun ρ P => t ρ fun c => if c = true then P true else u ρ P
def dNot (t : DT) : DT := fun ρ P => t ρ fun c => P (!c)
def dAndV (ta tb : DE) : DE := fun ρ P => ta ρ fun x => oP (asB x) fun c => if c = true then tb ρ P else P (.bl false)
def dOrV (ta tb : DE) : DE := fun ρ P => ta ρ fun x => oP (asB x) fun c => if c = true then P (.bl true) else tb ρ P
def dNotV (ta : DE) : DE := fun ρ P => ta ρ fun x => oP (asB x) fun c => P (.bl !c)
def dIf (t : DT) (ta tb : DE) : DE := fun ρ P => t ρ fun c => if c = true then ta ρ P else tb ρ P
def dChainV (f g : D → D → Option Bool) (ta tb tc : DE) : DE := fun ρ P => ta ρ fun x => tb ρ fun y => oP (f x y) fun b => if b = true then tc ρ fun z => oP (g y z) fun c => P (.bl c) else P (.bl false)
def dChain (f g : D → D → Option Bool) (ta tb tc : DE) : DT := fun ρ P => ta ρ fun x => tb ρ fun y => oP (f x y) fun b => if b = true then tc ρ fun z => oP (g y z) P else P false

section
variable {X : Cx} {C : Ctx} {a b c e : Expr} {ta tb tc te : DE} {pos : Pos} {t u : DT}

theorem getS_eq {ρ : R} {i : Nat} {d : D} (h : getS ρ i = some d) : ρ[i]? = some (some (Slot.sh d)) := by
  unfold getS at h
  split at h
  · cases h; assumption
  · cases h
theorem getB_eq {ρ : R} {i : Nat} {d : D} (h : getB ρ i = some d) : ρ[i]? = some (some (Slot.sh d)) ∨ ρ[i]? = some (some (Slot.own d)) := by
  unfold getB at h
  split at h
  · cases h; exact .inl (by assumption)
  · cases h; exact .inr (by assumption)
  · cases h
/-- what is owned can be read, borrowed -/
theorem OwnAt.dv {C : CK} {S H : Hp} {vol : Addr → Bool} {a : Addr} {d : D} (h : OwnAt C S H a d) (hv : vol a = false) (e : Ex S (hid vol H)) : DV C (hid vol H) (.ref a) d := by
  cases d <;> first
    | exact h.elim
    | (obtain ⟨vs, h1, h2⟩ := h; exact .lst (hid_some.mpr ⟨h1, hv⟩) (h2.mono e))
    | (obtain ⟨vs, h1, h2⟩ := h; exact .dct (hid_some.mpr ⟨h1, hv⟩) (h2.mono e))
theorem Rep.exB {pn : List (V × D)} {G : Gh} {ρ : R} {σ : L2.St} {H : Hp} (r : Rep C pn G ρ σ H) : Ex G.S (hid G.vol H) := fun a o h => hid_some.mpr (r.sub a o h)
theorem Rep.exS {pn : List (V × D)} {G : Gh} {ρ : R} {σ : L2.St} {H : Hp} (r : Rep C pn G ρ σ H) : Ex G.S H := fun a o h => (r.sub a o h).1

theorem de_var (i : Nat) {x : Str} (hN : X.N[i]? = some x := by rfl) (hv : Vis X.env.scope x := by first | exact Or.inl rfl | exact Or.inr (Or.inl rfl) | exact Or.inr (Or.inr rfl)) (hd : (x == ("__debug__" : Str)) = false := by decide)
    (hcd : (x == ("__classdict__" : Str)) = false := by decide) : PE X (.Name x pos) (liE C (dVar i)) := PE.to (pe_var hN hv hd hcd) fun σ H Q ⟨pn, G, ρ, P, r, ⟨d, hd, p⟩, k⟩ => by
  obtain ⟨v, h1, h2⟩ := r.sh i d (getS_eq hd)
  exact ⟨v, h1, k d v G.S H p (Step.refl r) h2⟩
theorem de_varB (i : Nat) {x : Str} (hN : X.N[i]? = some x := by rfl) (hv : Vis X.env.scope x := by first | exact Or.inl rfl | exact Or.inr (Or.inl rfl) | exact Or.inr (Or.inr rfl)) (hd : (x == ("__debug__" : Str)) = false := by decide)
    (hcd : (x == ("__classdict__" : Str)) = false := by decide) : PE X (.Name x pos) (liB C (dVarB i)) := PE.to (pe_var hN hv hd hcd) fun σ H Q ⟨pn, G, ρ, P, r, ⟨d, hd, p⟩, k⟩ => by
  rcases getB_eq hd with hd | hd
  · obtain ⟨v, h1, h2⟩ := r.sh i d hd
    exact ⟨v, h1, k d v G.S H p (Step.refl r) (h2.mono r.exB)⟩
  · obtain ⟨a, h1, h2, h3, h4, h5⟩ := r.own i d hd
    exact ⟨_, h1, k d _ G.S H p (Step.refl r) (h5.dv h3 r.exB)⟩
theorem de_c {d : D} {v : V} (h : PE X e (tC v)) (hd : ∀ S, DV C.ck S v d) : PE X e (liE C (dC d)) := PE.to h fun σ H Q ⟨pn, G, ρ, P, r, p, k⟩ => k d v G.S H p (Step.refl r) (hd _)
theorem de_int {i : Int} {j : Nat} : PE X (.Constant (.int i) j pos) (liE C (dC (.int i))) := de_c pe_int fun _ => .int i
theorem de_bl {b : Bool} {j : Nat} : PE X (.Constant (.bool b) j pos) (liE C (dC (.bl b))) := de_c pe_bl fun _ => .bl b
theorem de_non {j : Nat} : PE X (.Constant .none j pos) (liE C (dC .non)) := de_c pe_non fun _ => .non
theorem de_str {x : Str} {j : Nat} : PE X (.Constant (.str x) j pos) (liE C (dC (.str x))) := de_c pe_str fun _ => .str x

/-- a, then b, shared -/
theorem li2 {f : D → D → Prop} {σ : L2.St} {H : Hp} {Q : V → V → Hp → Prop} {pn : List (V × D)} {G : Gh} {ρ : R} (r : Rep C pn G ρ σ H) (t : ta ρ fun x => tb ρ fun y => f x y)
    (k : ∀ x y v w S' H', f x y → Step G H S' H' → DV C.ck S' v x → DV C.ck S' w y → Q v w H') : liE C ta σ H fun v H1 => liE C tb σ H1 fun w H2 => Q v w H2 :=
  ⟨pn, G, ρ, _, r, t, fun x v S1 H1 p1 s1 d1 => ⟨pn, _, ρ, _, r.step s1, p1, fun y w S2 H2 p2 s2 d2 => k x y v w S2 H2 p2 (Step.trans r s1 s2) (d1.mono s2.grow) d2⟩⟩
/-- a, then b, borrowed -/
theorem li2B {f : D → D → Prop} {σ : L2.St} {H : Hp} {Q : V → V → Hp → Prop} {pn : List (V × D)} {G : Gh} {ρ : R} (r : Rep C pn G ρ σ H) (t : ta ρ fun x => tb ρ fun y => f x y)
    (k : ∀ x y v w S' H', f x y → Step G H S' H' → DV C.ck (hid G.vol H') v x → DV C.ck (hid G.vol H') w y → Q v w H') : liB C ta σ H fun v H1 => liB C tb σ H1 fun w H2 => Q v w H2 :=
  ⟨pn, G, ρ, _, r, t, fun x v S1 H1 p1 s1 d1 => ⟨pn, _, ρ, _, r.step s1, p1, fun y w S2 H2 p2 s2 d2 => k x y v w S2 H2 p2 (Step.trans r s1 s2) (d1.mono (hid_ex s2.keep)) d2⟩⟩

theorem de_bin {op : Operator} {f : D → D → Option D} {r : R2} (ho : OpR X (binaryOp op) r) (hg : OpG C f r) (ha : PE X a (liE C ta)) (hb : PE X b (liE C tb)) : PE X (.BinOp a op b pos) (liE C (dBin f ta tb)) :=
  PE.to (pe_op ho ha hb) fun σ H Q ⟨pn, G, ρ, P, rp, t, k⟩ => li2 rp t fun x y v w S' H' ⟨z, hz, pz⟩ s d1 d2 => hg S' H' v w x y z Q s.exH d1 d2 hz fun u H2 N n dv => k z u _ H2 pz (New.step2 rp s n) dv
theorem de_un {op : UnaryOp} {f : D → Option D} {r : V → Hp → VK → Prop} (ho : UnR X (unaryOp op) r) (hg : ∀ S H x d z Q, Ex S H → DV C.ck S x d → f d = some z → Post C.ck S H z Q → r x H Q) (ha : PE X a (liE C ta)) : PE X (.UnaryOp op a pos) (liE C (dUn f ta)) :=
  PE.to (pe_un ho ha) fun σ H Q ⟨pn, G, ρ, P, rp, t, k⟩ => ⟨pn, G, ρ, _, rp, t, fun x v S' H' ⟨z, hz, pz⟩ s d1 => hg S' H' v x z Q s.exH d1 hz fun u H2 N n dv => k z u _ H2 pz (New.step2 rp s n) dv⟩
theorem de_ix {f : D → D → Option D} {r : R2} (ho : IxR X r) (hg : OpG C f r) (ha : PE X a (liE C ta)) (hb : PE X b (liE C tb)) (hs : PlainIx b := by exact fun _ _ => rfl) : PE X (.Subscript a b pos) (liE C (dBin f ta tb)) :=
  PE.to (pe_ix ho ha hb hs) fun σ H Q ⟨pn, G, ρ, P, rp, t, k⟩ => li2 rp t fun x y v w S' H' ⟨z, hz, pz⟩ s d1 d2 => hg S' H' v w x y z Q s.exH d1 d2 hz fun u H2 N n dv => k z u _ H2 pz (New.step2 rp s n) dv
/-- index of something borrowed: what comes never changes -/
def dIxB (f : D → D → Option D) (ta tb : DE) : DE := fun ρ P => ta ρ fun x => tb ρ fun y => oP (f x y) fun z => Im z = true ∧ P z
/-- the tuples of a heap as a shared part -/
def tupsOf (vol : Addr → Bool) (H : Hp) : Hp := fun a => match H a with | some o => if isTup o = true ∧ vol a = false then some o else none | none => none
theorem tupsOf_some {vol : Addr → Bool} {H : Hp} {a : Addr} {o : HO} : tupsOf vol H a = some o ↔ H a = some o ∧ isTup o = true ∧ vol a = false := by
  unfold tupsOf
  cases e : H a with
  | none => simp
  | some u =>
    by_cases q : isTup u = true ∧ vol a = false
    · simp only [if_pos q, Option.some.injEq]
      constructor
      · intro z; subst z; exact ⟨rfl, q⟩
      · intro z; exact z.1
    · simp only [if_neg q, Option.some.injEq]
      constructor
      · intro z; cases z
      · intro z
        exfalso
        obtain ⟨z1, z2⟩ := z
        subst z1
        exact q z2
theorem Step.tups {C : Ctx} {pn : List (V × D)} {G : Gh} {ρ : R} {σ : L2.St} {H S' H' : Hp} (r : Rep C pn G ρ σ H) (s : Step G H S' H') : Step G H (un S' (tupsOf G.vol H')) H' where
  keep := s.keep
  grow := s.grow.trans un_l
  sub := fun a o h => by
    rcases un_some h with z | z
    · exact s.sub a o z
    · exact ⟨(tupsOf_some.mp z).1, (tupsOf_some.mp z).2.2⟩
  new := fun a o h => by
    rcases un_some h with z | z
    · exact s.new a o z
    · exact .inr (.inr (tupsOf_some.mp z).2.1)
  J := s.J
theorem dv_tups {C : CK} {vol : Addr → Bool} {S' H' : Hp} {v : V} {d : D} (h : DV C (hid vol H') v d) (i : Im d = true) (e : Ex S' H') : DV C (un S' (tupsOf vol H')) v d := by
  refine h.im (fun a o ho ha => ?_) i
  obtain ⟨h1, h2⟩ := hid_some.mp ha
  exact un_r (H := H') e (fun a o z => (tupsOf_some.mp z).1) a o (tupsOf_some.mpr ⟨h1, ho, h2⟩)
theorem post_imB {pn : List (V × D)} {G : Gh} {ρ : R} {σ : L2.St} {H S' H' : Hp} {z : D} {Q : VK} (r : Rep C pn G ρ σ H) (s : Step G H S' H') (i : Im z = true) (k : ∀ u S2 H2, Step G H S2 H2 → DV C.ck S2 u z → Q u H2) : Post C.ck (hid G.vol H') H' z Q := by
  intro u H2 N n dv
  have s2 := New.step2 r s n
  refine k u _ H2 (s2.tups r) (dv.im (fun a o ho ha => ?_) i)
  have key : H2 a = some o ∧ G.vol a = false := by
    rcases un_some ha with q | q
    · obtain ⟨h1, h2⟩ := hid_some.mp q
      exact ⟨n.ex a o h1, h2⟩
    · refine ⟨(n.new a o q).1, ?_⟩
      cases e : G.vol a with
      | false => rfl
      | true =>
        obtain ⟨w, h1, _⟩ := s.J.vt e
        rw [(n.new a o q).2] at h1; cases h1
  exact un_r (H := H2) s2.exH (fun a o z => (tupsOf_some.mp z).1) a o (tupsOf_some.mpr ⟨key.1, ho, key.2⟩)
theorem de_ixB {f : D → D → Option D} {r : R2} (ho : IxR X r) (hg : OpG C f r) (ha : PE X a (liB C ta)) (hb : PE X b (liB C tb)) (hs : PlainIx b := by exact fun _ _ => rfl) : PE X (.Subscript a b pos) (liE C (dIxB f ta tb)) :=
  PE.to (pe_ix ho ha hb hs) fun σ H Q ⟨pn, G, ρ, P, rp, t, k⟩ => li2B rp t fun x y v w S' H' ⟨z, hz, hi, pz⟩ s d1 d2 =>
    hg _ H' v w x y z Q hid_le d1 d2 hz (post_imB rp s hi fun u S2 H2 s2 dv => k z u S2 H2 pz s2 dv)

/-! ### argument lists, displays -/
theorem da_nil : PA X [] (liA C dNil) := PA.to pa_nil fun σ H Q ⟨pn, G, ρ, P, r, p, k⟩ => k [] [] G.S H p (Step.refl r) .nil
theorem da_cons {es : List Expr} {tr : DA} (ha : PE X e (liE C te)) (hr : PA X es (liA C tr)) (hs : starEach (e :: es) X.env = (false, eval e X.env) :: starEach es X.env := by rfl) : PA X (e :: es) (liA C (dCons te tr)) :=
  PA.to (pa_cons ha hr hs) fun σ H Q ⟨pn, G, ρ, P, rp, t, k⟩ => ⟨pn, G, ρ, _, rp, t, fun x v S1 H1 p1 s1 d1 => ⟨pn, _, ρ, _, rp.step s1, p1, fun ds vs S2 H2 p2 s2 d2 => k _ _ S2 H2 p2 (Step.trans rp s1 s2) (.cons (d1.mono s2.grow) d2)⟩⟩
theorem da_nilB : PA X [] (liAB C dNil) := PA.to pa_nil fun σ H Q ⟨pn, G, ρ, P, r, p, k⟩ => k [] [] G.S H p (Step.refl r) .nil
theorem da_consB {es : List Expr} {tr : DA} (ha : PE X e (liB C te)) (hr : PA X es (liAB C tr)) (hs : starEach (e :: es) X.env = (false, eval e X.env) :: starEach es X.env := by rfl) : PA X (e :: es) (liAB C (dCons te tr)) :=
  PA.to (pa_cons ha hr hs) fun σ H Q ⟨pn, G, ρ, P, rp, t, k⟩ => ⟨pn, G, ρ, _, rp, t, fun x v S1 H1 p1 s1 d1 => ⟨pn, _, ρ, _, rp.step s1, p1, fun ds vs S2 H2 p2 s2 d2 => k _ _ S2 H2 p2 (Step.trans rp s1 s2) (.cons (d1.mono (hid_ex s2.keep)) d2)⟩⟩
theorem sz {n : Nat} (h : n ≤ 1000) : n ≤ sizeLine := Nat.le_trans h (by decide)
/-- a new tuple; that it has no dict is told -/
def tTupF (t : TA) : TE := fun σ H Q => t σ H fun xs H1 => xs.length ≤ sizeLine ∧ ∀ p u, H1 p = none → u.dict = none → Q (.ref p) (upd H1 p (.frz u (.tup xs)))
theorem lay_tup {pins : List (Addr × Obj)} {σ : L2.St} {H : Hp} {s : Shared} {xs : List V} {us : List Value} {Q : VK} (I : Inv X pins σ H s) (r : Vals xs us) (z : xs.length ≤ sizeLine) (q : ∀ p u, H p = none → u.dict = none → Q (.ref p) (upd H p (.frz u (.tup xs)))) :
    EP X pins σ Q (.ref s.heap.objs.size) { s with heap := s.heap.push { cls := .type "tuple", data := .seq us.toArray } } :=
  ⟨.ref s.heap.objs.size, _, I.laid (t' := s.toks) (o := .frz { cls := .type "tuple", data := .seq us.toArray } (.tup xs)) (fun b u e => Heap.get?_push_of_some _ e) (Nat.le_refl _)
    ⟨Heap.get?_push_size _ rfl, z, us, r, ⟨_, Heap.get?_push_size _ rfl, rfl, _, rfl⟩⟩, rfl, q _ _ (I.hok.fresh (Nat.le_refl _)) rfl⟩
theorem pe_tupF {es : List Expr} {x1 : Nat} {t : TA} (h : PA X es t) : PE X (.Tuple es x1 pos) (tTupF t) :=
  ⟨fun pins s σ H Q I hq => wpAny_Tuple_spliced (thn (h.run pos pins s σ H _ I hq) fun us s1 ⟨xs, H1, I1, r, z, q⟩ => ⟨by rw [← r.length]; exact z, lay_tup I1 r z q⟩)⟩
theorem de_tup {es : List Expr} {x1 : Nat} {tr : DA} (h : PA X es (liA C tr)) : PE X (.Tuple es x1 pos) (liE C (dTup tr)) :=
  PE.to (pe_tupF h) fun σ H Q ⟨pn, G, ρ, P, rp, t, k⟩ => ⟨pn, G, ρ, _, rp, t, fun ds vs S1 H1 ⟨p1, p2⟩ s1 d1 => ⟨by rw [d1.length]; exact sz p1, fun p u hp hu => k _ _ _ _ p2 (New.step2 rp s1 (New.one hp)) (new_tup d1 hp hu s1.exH)⟩⟩
theorem de_lst {es : List Expr} {tr : DA} (h : PA X es (liA C tr)) : PE X (.List es pos) (liE C (dLst tr)) :=
  PE.to (pe_lst h) fun σ H Q ⟨pn, G, ρ, P, rp, t, k⟩ => ⟨pn, G, ρ, _, rp, t, fun ds vs S1 H1 ⟨p1, p2⟩ s1 d1 => ⟨by rw [d1.length]; exact sz p1, fun p hp => k _ _ _ _ p2 (New.step2 rp s1 (New.one hp)) (new_lst d1 hp s1.exH)⟩⟩

/-! ### tests -/
theorem dt_val (h : PE X e (liB C te)) (he : ∀ whole, isTrue e X.env whole = (do let v ← whole; standAt e.pos; holding [v] (truthy v)) := by intro _; rfl) : PT X e (liT C (dTest te)) :=
  PT.to (pt_val h he) fun σ H Q ⟨pn, G, ρ, P, rp, t, k⟩ => ⟨pn, G, ρ, _, rp, t, fun x v S1 H1 ⟨b, p1, p2⟩ s1 d1 => by
    cases x <;> first
      | (cases p1; cases d1; exact ⟨b, rfl, k _ _ _ p2 s1⟩)
      | (cases p1)⟩
theorem dt_cmp {op : CmpOp} {f : D → D → Option Bool} {r : R2} (ho : OpR X (compareOp op) r) (hg : CmpG C f r) (ha : PE X a (liB C ta)) (hb : PE X b (liB C tb)) (hm : behindInMarks op b = false) : PT X (.Compare a [op] [b] pos) (liT C (dCmp f ta tb)) :=
  PT.to (pt_cmpR ho ha hb hm) fun σ H Q ⟨pn, G, ρ, P, rp, t, k⟩ => li2B rp t fun x y v w S' H' ⟨z, hz, pz⟩ s d1 d2 => hg H' v w x y z _ (d1.mono hid_le) (d2.mono hid_le) hz ⟨z, rfl, k _ _ _ pz s⟩
theorem de_cmp {op : CmpOp} {f : D → D → Option Bool} {r : R2} (ho : OpR X (compareOp op) r) (hg : CmpG C f r) (ha : PE X a (liB C ta)) (hb : PE X b (liB C tb)) (hm : behindInMarks op b = false) : PE X (.Compare a [op] [b] pos) (liE C (dCmpV f ta tb)) :=
  PE.to (pe_cmpR ho ha hb hm) fun σ H Q ⟨pn, G, ρ, P, rp, t, k⟩ => li2B rp t fun x y v w S' H' ⟨z, hz, pz⟩ s d1 d2 => hg H' v w x y z _ (d1.mono hid_le) (d2.mono hid_le) hz (k _ _ _ _ pz s (.bl z))
theorem de_chain {op op' : CmpOp} {f g : D → D → Option Bool} {r r' : R2} (ho : OpR X (compareOp op) r) (ho' : OpR X (compareOp op') r') (hf : CmpG C f r) (hg : CmpG C g r') (ha : PE X a (liB C ta)) (hb : PE X b (liB C tb)) (hc : PE X c (liB C tc))
    (hm : lastMarks [op, op'] [b, c] = false := by rfl) : PE X (.Compare a [op, op'] [b, c] pos) (liE C (dChainV f g ta tb tc)) := by
  refine PE.to (pe_chain ho ho' ha hb hc hm) fun σ H Q ⟨pn, G, ρ, P, rp, t, k⟩ => li2B rp t fun x y v w S' H' ⟨z, hz, pz⟩ s d1 d2 => ?_
  refine hf H' v w x y z _ (d1.mono hid_le) (d2.mono hid_le) hz ⟨z, rfl, ?_⟩
  cases z with
  | false => exact k _ _ _ _ pz s (.bl _)
  | true => exact ⟨pn, _, ρ, _, rp.step s, pz, fun q u S2 H2 ⟨z2, hz2, pz2⟩ s2 d3 => hg H2 w u y q z2 _ ((d2.mono (hid_ex s2.keep)).mono hid_le) (d3.mono hid_le) hz2 (k _ _ _ _ pz2 (Step.trans rp s s2) (.bl _))⟩
theorem dt_chain {op op' : CmpOp} {f g : D → D → Option Bool} {r r' : R2} (ho : OpR X (compareOp op) r) (ho' : OpR X (compareOp op') r') (hf : CmpG C f r) (hg : CmpG C g r') (ha : PE X a (liB C ta)) (hb : PE X b (liB C tb)) (hc : PE X c (liB C tc))
    (hm : lastMarks [op, op'] [b, c] = false := by rfl) : PT X (.Compare a [op, op'] [b, c] pos) (liT C (dChain f g ta tb tc)) := by
  refine PT.to (pt_chain ho ho' ha hb hc hm) fun σ H Q ⟨pn, G, ρ, P, rp, t, k⟩ => li2B rp t fun x y v w S' H' ⟨z, hz, pz⟩ s d1 d2 => ?_
  refine hf H' v w x y z _ (d1.mono hid_le) (d2.mono hid_le) hz ⟨z, rfl, ?_⟩
  cases z with
  | false => exact ⟨false, rfl, k _ _ _ pz s⟩
  | true => exact ⟨pn, _, ρ, _, rp.step s, pz, fun q u S2 H2 ⟨z2, hz2, pz2⟩ s2 d3 => hg H2 w u y q z2 _ ((d2.mono (hid_ex s2.keep)).mono hid_le) (d3.mono hid_le) hz2 ⟨z2, rfl, k _ _ _ pz2 (Step.trans rp s s2)⟩⟩
variable {rest : List Expr}
theorem dw_and1 (ha : PT X a (liT C t)) : PW X (.BoolOp .And [a] pos) (liT C t) := pw_and1 ha
theorem dw_or1 (ha : PT X a (liT C t)) : PW X (.BoolOp .Or [a] pos) (liT C t) := pw_or1 ha
theorem PW.to {X : Cx} {e : Expr} {t t' : TT} (h : PW X e t) (k : ∀ σ H Q, t' σ H Q → t σ H Q) : PW X e t' := ⟨fun wh pins s σ H Q I q => h.run wh pins s σ H Q I (k σ H Q q)⟩
theorem dw_and (ha : PT X a (liT C t)) (hb : PW X (.BoolOp .And (b :: rest) pos) (liT C u)) : PW X (.BoolOp .And (a :: b :: rest) pos) (liT C (dAnd t u)) :=
  PW.to (pw_and ha hb) fun σ H Q ⟨pn, G, ρ, P, rp, tt, k⟩ => ⟨pn, G, ρ, _, rp, tt, fun z S1 H1 p1 s1 => by
    cases z with
    | true => exact ⟨pn, _, ρ, _, rp.step s1, p1, fun z2 S2 H2 p2 s2 => k _ _ _ p2 (Step.trans rp s1 s2)⟩
    | false => exact k _ _ _ p1 s1⟩
theorem dw_or (ha : PT X a (liT C t)) (hb : PW X (.BoolOp .Or (b :: rest) pos) (liT C u)) : PW X (.BoolOp .Or (a :: b :: rest) pos) (liT C (dOr t u)) :=
  PW.to (pw_or ha hb) fun σ H Q ⟨pn, G, ρ, P, rp, tt, k⟩ => ⟨pn, G, ρ, _, rp, tt, fun z S1 H1 p1 s1 => by
    cases z with
    | false => exact ⟨pn, _, ρ, _, rp.step s1, p1, fun z2 S2 H2 p2 s2 => k _ _ _ p2 (Step.trans rp s1 s2)⟩
    | true => exact k _ _ _ p1 s1⟩
theorem dt_not (ha : PT X a (liT C t)) : PT X (.UnaryOp .Not a pos) (liT C (dNot t)) :=
  PT.to (pt_not ha) fun σ H Q ⟨pn, G, ρ, P, rp, tt, k⟩ => ⟨pn, G, ρ, _, rp, tt, fun z S1 H1 p1 s1 => k _ _ _ p1 s1⟩
theorem de_one {op : BoolOp} {te : DE} (h : PE X a (liE C te)) : PE X (.BoolOp op [a] pos) (liE C te) := pe_one h
theorem de_and (ha : PE X a (liE C ta)) (hb : PE X (.BoolOp .And (b :: rest) pos) (liE C tb)) : PE X (.BoolOp .And (a :: b :: rest) pos) (liE C (dAndV ta tb)) :=
  PE.to (pe_and ha hb) fun σ H Q ⟨pn, G, ρ, P, rp, tt, k⟩ => ⟨pn, G, ρ, _, rp, tt, fun x v S1 H1 ⟨z, hz, p1⟩ s1 d1 => by
    cases x <;> first
      | (cases hz; cases d1; refine ⟨z, rfl, ?_⟩; cases z with
          | true => exact ⟨pn, _, ρ, _, rp.step s1, p1, fun z2 v2 S2 H2 p2 s2 d2 => k _ _ _ _ p2 (Step.trans rp s1 s2) d2⟩
          | false => exact k _ _ _ _ p1 s1 (.bl _))
      | (cases hz)⟩
theorem de_or (ha : PE X a (liE C ta)) (hb : PE X (.BoolOp .Or (b :: rest) pos) (liE C tb)) : PE X (.BoolOp .Or (a :: b :: rest) pos) (liE C (dOrV ta tb)) :=
  PE.to (pe_or ha hb) fun σ H Q ⟨pn, G, ρ, P, rp, tt, k⟩ => ⟨pn, G, ρ, _, rp, tt, fun x v S1 H1 ⟨z, hz, p1⟩ s1 d1 => by
    cases x <;> first
      | (cases hz; cases d1; refine ⟨z, rfl, ?_⟩; cases z with
          | false => exact ⟨pn, _, ρ, _, rp.step s1, p1, fun z2 v2 S2 H2 p2 s2 d2 => k _ _ _ _ p2 (Step.trans rp s1 s2) d2⟩
          | true => exact k _ _ _ _ p1 s1 (.bl _))
      | (cases hz)⟩
theorem de_not (ha : PE X a (liE C ta)) : PE X (.UnaryOp .Not a pos) (liE C (dNotV ta)) :=
  PE.to (pe_not ha) fun σ H Q ⟨pn, G, ρ, P, rp, tt, k⟩ => ⟨pn, G, ρ, _, rp, tt, fun x v S1 H1 ⟨z, hz, p1⟩ s1 d1 => by
    cases x <;> first
      | (cases hz; cases d1; exact ⟨z, rfl, k _ _ _ _ p1 s1 (.bl _)⟩)
      | (cases hz)⟩
theorem de_if (hc : PT X c (liT C t)) (ha : PE X a (liE C ta)) (hb : PE X b (liE C tb)) : PE X (.IfExp c a b pos) (liE C (dIf t ta tb)) :=
  PE.to (pe_ifExp hc ha hb) fun σ H Q ⟨pn, G, ρ, P, rp, tt, k⟩ => ⟨pn, G, ρ, _, rp, tt, fun z S1 H1 p1 s1 => by
    cases z with
    | true => exact ⟨pn, _, ρ, _, rp.step s1, p1, fun z2 v2 S2 H2 p2 s2 d2 => k _ _ _ _ p2 (Step.trans rp s1 s2) d2⟩
    | false => exact ⟨pn, _, ρ, _, rp.step s1, p1, fun z2 v2 S2 H2 p2 s2 d2 => k _ _ _ _ p2 (Step.trans rp s1 s2) d2⟩⟩

/-! ### calls of built-ins -/
variable {x : Str} {p : Pos} {id : String} {es : List Expr} {tr : DA} {f : List D → Option D} {r : List V → Hp → VK → Prop}
theorem cbG {σ : L2.St} {H : Hp} {Q : VK} (hg : CallG C f r) (h : liE C (dCB f tr) σ H Q) : tCB r (liA C tr) σ H Q := by
  obtain ⟨pn, G, ρ, P, rp, tt, k⟩ := h
  exact ⟨pn, G, ρ, _, rp, tt, fun ds vs S1 H1 ⟨z, hz, pz⟩ s1 d1 => hg S1 H1 vs ds z Q s1.exH d1 hz fun u H2 N n dv => k z u _ H2 pz (New.step2 rp s1 n) dv⟩
theorem cbS {σ : L2.St} {H : Hp} {Q : VK} (hg : CallS C f r) (h : liE C (dCB f tr) σ H Q) : tCB r (liAB C tr) σ H Q := by
  obtain ⟨pn, G, ρ, P, rp, tt, k⟩ := h
  exact ⟨pn, G, ρ, _, rp, tt, fun ds vs S1 H1 ⟨z, hz, pz⟩ s1 d1 => (hg H1 vs ds z Q (d1.mono hid_le) hz).2 fun v dv => k z v _ H1 pz s1 (dv.mono fun _ _ q => by cases q)⟩
theorem de_callB (hr : CallR X (.builtin id) r) (hg : CallG C f r) (hl : Gl X x) (hm : X.mg x = none) (hv : bootBuiltins x = some (.builtin id)) (ha : PA X (e :: es) (liA C tr)) (hn : x ≠ "__name__" := by decide) (hdb : (x == ("__debug__" : Str)) = false := by decide)
    (hs : starEach (e :: es) X.env = (false, eval e X.env) :: starEach es X.env := by rfl) (hpl : (backTo pos (starEach es X.env)).any (·.1) = false := by rfl) : PE X (.Call (.Name x p) (e :: es) [] pos) (liE C (dCB f tr)) :=
  PE.to (pe_callB hr hl hm hv ha hn hdb hs hpl) fun _ _ _ h => cbG hg h
theorem de_callBS (hr : CallR X (.builtin id) r) (hg : CallS C f r) (hl : Gl X x) (hm : X.mg x = none) (hv : bootBuiltins x = some (.builtin id)) (ha : PA X (e :: es) (liAB C tr)) (hn : x ≠ "__name__" := by decide) (hdb : (x == ("__debug__" : Str)) = false := by decide)
    (hs : starEach (e :: es) X.env = (false, eval e X.env) :: starEach es X.env := by rfl) (hpl : (backTo pos (starEach es X.env)).any (·.1) = false := by rfl) : PE X (.Call (.Name x p) (e :: es) [] pos) (liE C (dCB f tr)) :=
  PE.to (pe_callB hr hl hm hv ha hn hdb hs hpl) fun _ _ _ h => cbS hg h
theorem de_callTy (hr : CallR X (.type id) r) (hg : CallG C f r) (hl : Gl X x) (hm : X.mg x = none) (hv : bootBuiltins x = some (.type id)) (ha : PA X (e :: es) (liA C tr)) (hn : x ≠ "__name__" := by decide) (hdb : (x == ("__debug__" : Str)) = false := by decide)
    (hs : starEach (e :: es) X.env = (false, eval e X.env) :: starEach es X.env := by rfl) (hpl : (backTo pos (starEach es X.env)).any (·.1) = false := by rfl) : PE X (.Call (.Name x p) (e :: es) [] pos) (liE C (dCB f tr)) :=
  PE.to (pe_callTy hr hl hm hv ha hn hdb hs hpl) fun _ _ _ h => cbG hg h

/-! ### slices -/
abbrev DO := R → (Option Int → Prop) → Prop
def liO (C : Ctx) (t : DO) : TO := fun σ H Q => ∃ pn G ρ P, Rep C pn G ρ σ H ∧ t ρ P ∧ ∀ o S' H', P o → Step G H S' H' → Q o H'
def dNo : DO := fun _ P => P none
def dSome (te : DE) : DO := fun ρ P => te ρ fun d => ∃ i, d = .int i ∧ P (some i)
theorem PO.to {X : Cx} {e : Option Expr} {t t' : TO} (h : PO X e t) (k : ∀ σ H Q, t' σ H Q → t σ H Q) : PO X e t' := ⟨fun pins s σ H Q I q => h.run pins s σ H Q I (k σ H Q q)⟩
theorem do_none : PO X none (liO C dNo) := PO.to po_none fun σ H Q ⟨pn, G, ρ, P, rp, tt, k⟩ => k _ _ _ tt (Step.refl rp)
theorem do_some (h : PE X e (liE C te)) : PO X (some e) (liO C (dSome te)) := PO.to (po_some h) fun σ H Q ⟨pn, G, ρ, P, rp, tt, k⟩ => ⟨pn, G, ρ, _, rp, tt, fun d v S' H' ⟨i, e, q⟩ s dv => by
  subst e
  cases dv
  exact ⟨i, rfl, k _ _ _ q s⟩⟩
def dSl (f : D → Option Int → Option Int → Option D) (te : DE) (tl th : DO) : DE := fun ρ P => te ρ fun d => tl ρ fun l => th ρ fun h => oP (f d l h) P
def SlG (C : Ctx) (f : D → Option Int → Option Int → Option D) (r : V → Option Int → Option Int → Hp → VK → Prop) : Prop := ∀ S H x d l h z Q, Ex S H → DV C.ck S x d → f d l h = some z → Post C.ck S H z Q → r x l h H Q
theorem de_slice {p2 : Pos} {lo hi : Option Expr} {tl th : DO} {f : D → Option Int → Option Int → Option D} {r : V → Option Int → Option Int → Hp → VK → Prop} (hr : SlR X r) (hg : SlG C f r) (he : PE X e (liE C te)) (hl : PO X lo (liO C tl)) (hu : PO X hi (liO C th)) :
    PE X (.Subscript e (.Slice lo hi none p2) pos) (liE C (dSl f te tl th)) :=
  PE.to (pe_slice hr he hl hu) fun σ H Q ⟨pn, G, ρ, P, rp, tt, k⟩ => ⟨pn, G, ρ, _, rp, tt, fun d v S1 H1 p1 s1 d1 => ⟨pn, _, ρ, _, rp.step s1, p1, fun l S2 H2 p2 s2 => ⟨pn, _, ρ, _, (rp.step s1).step s2, p2, fun h S3 H3 ⟨z, hz, pz⟩ s3 => by
    have s12 := Step.trans rp s1 s2
    have s123 := Step.trans rp s12 s3
    exact hg S3 H3 v d l h z Q s3.exH ((d1.mono s2.grow).mono s3.grow) hz fun u H4 N n dv => k z u _ H4 pz (New.step2 rp s123 n) dv⟩⟩⟩
end
end WH

set_option Elab.async false
set_option linter.all false
set_option maxRecDepth 100000
set_option maxHeartbeats 4000000
namespace WH
open PySem L2

/-! ### fresh results, to be owned -/
def liF (C : Ctx) (te : DE) : TE := fun σ H Q => ∃ pn G ρ P, Rep C pn G ρ σ H ∧ te ρ P ∧ ∀ d a S' H', P d → Step G H S' H' → S' a = none → H a = none → OwnAt C.ck S' H' a d → Q (.ref a) H'
theorem Step.novol {C : Ctx} {pn : List (V × D)} {G : Gh} {ρ : R} {σ : L2.St} {H : Hp} (r : Rep C pn G ρ σ H) {a : Addr} (h : H a = none) : G.vol a = false := by
  cases e : G.vol a with
  | false => rfl
  | true =>
    obtain ⟨u, h1, _⟩ := r.J.vt e
    rw [h] at h1; cases h1
theorem own_share {C : Ctx} {pn : List (V × D)} {G : Gh} {ρ : R} {σ : L2.St} {H S' H' : Hp} {a : Addr} {d : D} (r : Rep C pn G ρ σ H) (s : Step G H S' H') (hS : S' a = none) (hH : H a = none) (o : OwnAt C.ck S' H' a d) :
    ∃ S2, Step G H S2 H' ∧ DV C.ck S2 (.ref a) d := by
  obtain ⟨u, hu, _⟩ := o.mut
  have hs2 : ∀ b w, (un S' fun b => if b = a then some u else none) b = some w → S' b = some w ∨ (b = a ∧ w = u) := fun b w h => by
    rcases un_some h with z | z
    · exact .inl z
    · by_cases q : b = a
      · rw [if_pos q] at z; cases z; exact .inr ⟨q, rfl⟩
      · rw [if_neg q] at z; cases z
  have hst : Step G H (un S' fun b => if b = a then some u else none) H' := ⟨s.keep, s.grow.trans un_l, fun b w h => by
    rcases hs2 b w h with z | ⟨z1, z2⟩
    · exact s.sub b w z
    · subst z1; subst z2; exact ⟨hu, Step.novol r hH⟩, fun b w h => by
    rcases hs2 b w h with z | ⟨z1, z2⟩
    · exact s.new b w z
    · subst z1; exact .inr (.inl hH), s.J⟩
  refine ⟨_, hst, ?_⟩
  have ha : (un S' fun b => if b = a then some u else none) a = some u := by unfold un; rw [hS]; simp
  cases d <;> first
    | exact o.elim
    | (obtain ⟨vs, h1, h2⟩ := o
       rw [hu] at h1; cases h1
       exact .lst ha (h2.mono un_l))
    | (obtain ⟨vs, h1, h2⟩ := o
       rw [hu] at h1; cases h1
       exact .dct ha (h2.mono un_l))
theorem PE.f {X : Cx} {C : Ctx} {e : Expr} {te : DE} (h : PE X e (liF C te)) : PE X e (liE C te) := PE.to h fun σ H Q ⟨pn, G, ρ, P, r, t, k⟩ => ⟨pn, G, ρ, P, r, t, fun d a S' H' p s h1 h2 o => by
  obtain ⟨S2, s2, dv⟩ := own_share r s h1 h2 o
  exact k d _ S2 H' p s2 dv⟩
section
variable {X : Cx} {C : Ctx} {a b c e : Expr} {ta tb tc te : DE} {pos : Pos} {t u : DT}
theorem df_lst {es : List Expr} {tr : DA} (h : PA X es (liA C tr)) : PE X (.List es pos) (liF C (dLst tr)) :=
  PE.to (pe_lst h) fun σ H Q ⟨pn, G, ρ, P, rp, t, k⟩ => ⟨pn, G, ρ, _, rp, t, fun ds vs S1 H1 ⟨p1, p2⟩ s1 d1 => ⟨by rw [d1.length]; exact sz p1, fun p hp => by
    have hS : S1 p = none := s1.exH.free hp
    refine k _ _ S1 _ p2 ⟨fun a o h1 h2 => Ex.new hp a o (s1.keep a o h1 h2), s1.grow, fun a o h => ⟨Ex.new hp a o (s1.sub a o h).1, (s1.sub a o h).2⟩, s1.new, s1.J.ex (Ex.new hp)⟩ hS ?_ ⟨vs, upd_same, d1⟩
    cases q : H p with
    | none => rfl
    | some o =>
      cases v : G.vol p with
      | false => rw [s1.keep p o v q] at hp; cases hp
      | true =>
        obtain ⟨w, h1, _⟩ := s1.J.vt v
        rw [hp] at h1; cases h1⟩⟩
end

/-! ### the store is changed -/
theorem set_get {α : Type} {l : List (Option α)} {i j : Nat} {x y : α} (h : (l.set i (some x))[j]? = some (some y)) : (i = j ∧ x = y) ∨ (i ≠ j ∧ l[j]? = some (some y)) := by
  by_cases q : i = j
  · subst q
    have hl : i < l.length := by
      have := (List.getElem?_eq_some_iff.mp h).1
      simpa using this
    rw [List.getElem?_set_self hl] at h
    exact .inl ⟨rfl, by simpa using h⟩
  · rw [List.getElem?_set_ne q] at h
    exact .inr ⟨q, h⟩
theorem set_eq {α : Type} {l : List (Option α)} {i : Nat} {x y : Option α} (h : (l.set i x)[i]? = some y) : i < l.length := by
  have := (List.getElem?_eq_some_iff.mp h).1
  simpa using this
section
variable {C : Ctx} {pn : List (V × D)} {G : Gh} {ρ : R} {σ : L2.St} {H : Hp}
theorem Rep.setSh (r : Rep C pn G ρ σ H) {i : Nat} {v : V} {d : D} (h : DV C.ck G.S v d) : Rep C pn G (ρ.set i (some (.sh d))) (σ.set i (some v)) H :=
  { r with
    sh := fun j e q => by
      by_cases z : i = j
      · subst z
        have hl := set_eq q
        rw [List.getElem?_set_self hl] at q
        cases q
        rw [r.len] at hl
        exact ⟨v, by rw [List.getElem?_set_self hl], h⟩
      · rw [List.getElem?_set_ne z] at q
        rw [List.getElem?_set_ne z]
        exact r.sh j e q
    own := fun j e q => by
      rcases set_get q with ⟨_, z⟩ | ⟨z, q⟩
      · cases z
      · rw [List.getElem?_set_ne z]; exact r.own j e q
    inj := fun j k e f a q1 q2 q3 q4 => by
      rcases set_get q1 with ⟨_, z⟩ | ⟨z1, q1⟩
      · cases z
      · rcases set_get q2 with ⟨_, z⟩ | ⟨z2, q2⟩
        · cases z
        · rw [List.getElem?_set_ne z1] at q3
          rw [List.getElem?_set_ne z2] at q4
          exact r.inj j k e f a q1 q2 q3 q4
    town := fun j q => by
      rcases set_get q with ⟨_, z⟩ | ⟨z, q⟩
      · cases z
      · rw [List.getElem?_set_ne z]; exact r.town j q
    len := by rw [List.length_set, List.length_set]; exact r.len }
theorem Rep.setOwn (r : Rep C pn G ρ σ H) {i : Nat} {a : Addr} {d : D} (hS : G.S a = none) (hv : G.vol a = false) (h0 : C.H0 a = none) (ho : OwnAt C.ck G.S H a d) (hn : ∀ (j : Nat) e, ρ[j]? = some (some (Slot.own e)) → σ[j]? ≠ some (some (V.ref a))) :
    Rep C pn G (ρ.set i (some (.own d))) (σ.set i (some (.ref a))) H :=
  { r with
    sh := fun j e q => by
      rcases set_get q with ⟨_, z⟩ | ⟨z, q⟩
      · cases z
      · rw [List.getElem?_set_ne z]; exact r.sh j e q
    own := fun j e q => by
      by_cases z : i = j
      · subst z
        have hl := set_eq q
        rw [List.getElem?_set_self hl] at q
        cases q
        rw [r.len] at hl
        exact ⟨a, by rw [List.getElem?_set_self hl], hS, hv, h0, ho⟩
      · rw [List.getElem?_set_ne z] at q
        rw [List.getElem?_set_ne z]
        exact r.own j e q
    inj := fun j k e f b q1 q2 q3 q4 => by
      by_cases z1 : i = j
      · by_cases z2 : i = k
        · rw [← z1, ← z2]
        · exfalso
          subst z1
          have hl := set_eq q1
          rw [r.len] at hl
          rw [List.getElem?_set_self hl] at q3
          cases q3
          rw [List.getElem?_set_ne z2] at q2 q4
          exact hn k f q2 q4
      · by_cases z2 : i = k
        · exfalso
          subst z2
          have hl := set_eq q2
          rw [r.len] at hl
          rw [List.getElem?_set_self hl] at q4
          cases q4
          rw [List.getElem?_set_ne z1] at q1 q3
          exact hn j e q1 q3
        · rw [List.getElem?_set_ne z1] at q1 q3
          rw [List.getElem?_set_ne z2] at q2 q4
          exact r.inj j k e f b q1 q2 q3 q4
    town := fun j q => by
      rcases set_get q with ⟨_, z⟩ | ⟨z, q⟩
      · cases z
      · rw [List.getElem?_set_ne z]; exact r.town j q
    len := by rw [List.length_set, List.length_set]; exact r.len }
/-- forgetting slots -/
theorem Rep.weak (r : Rep C pn G ρ σ H) {ρ' : R} {σ' : L2.St} (hl : ρ'.length = σ'.length) (hk : ∀ (j : Nat) s, ρ'[j]? = some (some s) → ρ[j]? = some (some s) ∧ σ'[j]? = σ[j]?) : Rep C pn G ρ' σ' H :=
  { r with
    sh := fun j e q => by obtain ⟨q1, q2⟩ := hk j _ q; rw [q2]; exact r.sh j e q1
    own := fun j e q => by obtain ⟨q1, q2⟩ := hk j _ q; rw [q2]; exact r.own j e q1
    inj := fun j k e f b q1 q2 q3 q4 => by
      obtain ⟨w1, w2⟩ := hk j _ q1
      obtain ⟨w3, w4⟩ := hk k _ q2
      rw [w2] at q3
      rw [w4] at q4
      exact r.inj j k e f b w1 w3 q3 q4
    town := fun j q => by obtain ⟨q1, q2⟩ := hk j _ q; rw [q2]; exact r.town j q1
    len := hl }
theorem Rep.unpin {pv : List (V × D)} (r : Rep C (pv ++ pn) G ρ σ H) : Rep C pn G ρ σ H := { r with pn := fun p hp => r.pn p (List.mem_append_right _ hp) }
theorem Rep.pin {pv : List (V × D)} (r : Rep C pn G ρ σ H) (h : ∀ p ∈ pv, DV C.ck G.S p.1 p.2) : Rep C (pv ++ pn) G ρ σ H := { r with pn := fun p hp => (List.mem_append.mp hp).elim (h p) (r.pn p) }
/-- an own object is changed -/
theorem Rep.mut (r : Rep C pn G ρ σ H) {i : Nat} {a : Addr} {d d' : D} {o' u : HO} (hu : H a = some u) (hm : isMut u = true ∨ C.T0 = []) (hi : ρ[i]? = some (some (Slot.own d))) (ha : σ[i]? = some (some (V.ref a))) (ho : OwnAt C.ck G.S (upd H a o') a d') : Rep C pn G (ρ.set i (some (.own d'))) σ (upd H a o') := by
  obtain ⟨a', h1, hS, hv, h0, hO⟩ := r.own i d hi
  rw [ha] at h1
  have e : a' = a := by simpa using h1.symm
  subst e
  have hil : i < ρ.length := (List.getElem?_eq_some_iff.mp hi).1
  have hne : ∀ (j : Nat) e b, j ≠ i → ρ[j]? = some (some (Slot.own e)) → σ[j]? = some (some (V.ref b)) → b ≠ a' := fun j e b hj q1 q2 z => by
    subst z
    exact hj (r.inj j i e d b q1 hi q2 ha)
  exact
  { r with
    sub := fun b w q => ⟨by rw [upd_ne (fun z => by rw [z, hS] at q; cases q)]; exact (r.sub b w q).1, (r.sub b w q).2⟩
    h0 := fun b w q1 q2 => by rw [upd_ne (fun z => by rw [z, h0] at q2; cases q2)]; exact r.h0 b w q1 q2
    J := by
      rcases hm with hm | hm
      · exact r.J.keep fun b w q1 q2 => by
          by_cases z : b = a'
          · exfalso
            subst z
            rw [hu] at q2; cases q2
            rcases q1 with q | q
            · have hv' : volOf G.tb G.T b = false := hv
              rw [hv'] at q; cases q
            · rw [hm] at q; cases q
          · rw [upd_ne z]; exact q2
      · refine ⟨fun t b e => ?_, fun p hp => ?_⟩
        · obtain ⟨c, kvs, t1, t2, t3, t4⟩ := r.J.1 t b e
          have hvt : t ≠ a' := fun z => by
            have hv' : volOf G.tb G.T a' = false := hv
            rw [← z, e] at hv'
            simp [volOf] at hv'
          have hvb : b ≠ a' := fun z => by
            have hv' : volOf G.tb G.T a' = false := hv
            rw [← z, e] at hv'
            simp [volOf] at hv'
          exact ⟨c, kvs, by rw [upd_ne hvt]; exact t1, by rw [upd_ne hvb]; exact t2, t3, t4⟩
        · rw [r.T, hm] at hp; cases hp
    sh := fun j e q => by
      rcases set_get q with ⟨_, z⟩ | ⟨z, q⟩
      · cases z
      · exact r.sh j e q
    own := fun j e q => by
      rcases set_get q with ⟨z1, z⟩ | ⟨z, q⟩
      · cases z; subst z1; exact ⟨a', ha, hS, hv, h0, ho⟩
      · obtain ⟨b, w1, w2, w3, w4, w5⟩ := r.own j e q
        exact ⟨b, w1, w2, w3, w4, w5.mono (Ex.refl _) fun o q' => by rw [upd_ne (hne j e b (Ne.symm z) q w1)]; exact q'⟩
    inj := fun j k e f b q1 q2 q3 q4 => by
      have w1 : ∃ e', ρ[j]? = some (some (Slot.own e')) := by
        rcases set_get q1 with ⟨z1, _⟩ | ⟨_, q⟩
        · subst z1; exact ⟨d, hi⟩
        · exact ⟨e, q⟩
      have w2 : ∃ e', ρ[k]? = some (some (Slot.own e')) := by
        rcases set_get q2 with ⟨z1, _⟩ | ⟨_, q⟩
        · subst z1; exact ⟨d, hi⟩
        · exact ⟨f, q⟩
      obtain ⟨_, w1⟩ := w1
      obtain ⟨_, w2⟩ := w2
      exact r.inj j k _ _ b w1 w2 q3 q4
    town := fun j q => by
      rcases set_get q with ⟨_, z⟩ | ⟨z, q⟩
      · cases z
      · exact r.town j q
    len := by rw [List.length_set]; exact r.len }
/-- an own object is given up: shared from now on -/
theorem Rep.freeze (r : Rep C pn G ρ σ H) {i : Nat} {d : D} (hi : ρ[i]? = some (some (Slot.own d))) : ∃ S', Ex G.S S' ∧ Rep C pn { G with S := S' } (ρ.set i (some (.sh d))) σ H ∧ ∀ a b o, σ[i]? = some (some (V.ref a)) → S' b = some o → b ≠ a → G.S b = some o := by
  obtain ⟨a, ha, hS, hv, h0, hO⟩ := r.own i d hi
  obtain ⟨u, hu, hnt⟩ := hO.mut
  have hil : i < ρ.length := (List.getElem?_eq_some_iff.mp hi).1
  have hs2 : ∀ b w, (un G.S fun b => if b = a then some u else none) b = some w → G.S b = some w ∨ (b = a ∧ w = u) := fun b w h => by
    rcases un_some h with z | z
    · exact .inl z
    · by_cases q : b = a
      · rw [if_pos q] at z; cases z; exact .inr ⟨q, rfl⟩
      · rw [if_neg q] at z; cases z
  have haS : (un G.S fun b => if b = a then some u else none) a = some u := by unfold un; rw [hS]; simp
  have dv : DV C.ck (un G.S fun b => if b = a then some u else none) (.ref a) d := by
    cases d <;> first
      | exact hO.elim
      | (obtain ⟨vs, h1, h2⟩ := hO
         rw [hu] at h1; cases h1
         exact .lst haS (h2.mono un_l))
      | (obtain ⟨vs, h1, h2⟩ := hO
         rw [hu] at h1; cases h1
         exact .dct haS (h2.mono un_l))
  refine ⟨un G.S (fun b => if b = a then some u else none), un_l, ?_, fun a' b o ha' hb hne => ?_⟩
  rotate_left
  · rw [ha] at ha'
    have ea : a = a' := by simpa using ha'
    subst ea
    rcases hs2 b o hb with z | ⟨z, _⟩
    · exact z
    · exact absurd z hne
  exact
  { r with
    sub := fun b w q => by
      rcases hs2 b w q with z | ⟨z1, z2⟩
      · exact r.sub b w z
      · subst z1; subst z2; exact ⟨hu, hv⟩
    pn := fun p hp => (r.pn p hp).mono un_l
    sh := fun j e q => by
      rcases set_get q with ⟨z1, z⟩ | ⟨z, q⟩
      · cases z; subst z1; exact ⟨_, ha, dv⟩
      · obtain ⟨v, w1, w2⟩ := r.sh j e q
        exact ⟨v, w1, w2.mono un_l⟩
    own := fun j e q => by
      rcases set_get q with ⟨_, z⟩ | ⟨z, q⟩
      · cases z
      · obtain ⟨b, w1, w2, w3, w4, w5⟩ := r.own j e q
        refine ⟨b, w1, ?_, w3, w4, w5.mono un_l fun _ q' => q'⟩
        show un G.S (fun b => if b = a then some u else none) b = none
        unfold un
        rw [w2]
        have : b ≠ a := fun z' => by subst z'; exact z (r.inj i j d e b hi q ha w1)
        simp [this]
    inj := fun j k e f b q1 q2 q3 q4 => by
      rcases set_get q1 with ⟨_, z⟩ | ⟨z1, q1⟩
      · cases z
      · rcases set_get q2 with ⟨_, z⟩ | ⟨z2, q2⟩
        · cases z
        · exact r.inj j k e f b q1 q2 q3 q4
    town := fun j q => by
      rcases set_get q with ⟨_, z⟩ | ⟨z, q⟩
      · cases z
      · exact r.town j q
    len := by rw [List.length_set]; exact r.len }
end
end WH

set_option Elab.async false
set_option linter.all false
set_option maxRecDepth 100000
set_option maxHeartbeats 4000000
namespace WH
open PySem L2

/-! ### statements -/
def dNext : DS := fun E ρ => E.nx ρ
def dSeq (t u : DS) : DS := fun E ρ => t { E with nx := u E } ρ
/-- what never changes is handed back; a new list or dict; an own one -/
def dRet (te : DE) : DS := fun E ρ => te ρ fun d => Im d = true ∧ E.rt d
def FrOk : D → Bool
  | .lst ds => Ims ds
  | .dct kvs => kvs.all fun p => Im p.2
  | _ => false
def dRetF (te : DE) : DS := fun E ρ => te ρ fun d => FrOk d = true ∧ E.rt d
def dRetO (i : Nat) : DS := fun E ρ => ∃ d, ρ[i]? = some (some (Slot.own d)) ∧ FrOk d = true ∧ E.rt d
def dIfS (c : DT) (t u : DS) : DS := fun E ρ => c ρ fun b => if b = true then t E ρ else u E ρ
def dSet (i : Nat) (te : DE) : DS := fun E ρ => te ρ fun d => E.nx (ρ.set i (some (.sh d)))
def dOwn (i : Nat) (te : DE) : DS := fun E ρ => te ρ fun d => E.nx (ρ.set i (some (.own d)))
def dDrop (te : DE) : DS := fun E ρ => te ρ fun _ => E.nx ρ
def dBreak : DS := fun E ρ => E.bk ρ
def dCont : DS := fun E ρ => E.ct ρ
def dNever : DS := fun _ _ => False
/-- i is shared from now on -/
def dFrz (i : Nat) (t : DS) : DS := fun E ρ => ∃ d, ρ[i]? = some (some (Slot.own d)) ∧ t E (ρ.set i (some (.sh d)))
section
variable {X : Cx} {C : Ctx} {st : Stmt} {rest : List Stmt} {t u : DS} {e : Expr} {te : DE} {pos : Pos} {c : DT}
theorem EndsOk.nxt {pn : List (V × D)} {E : DEnds} {Z : Ends} {n : R → Prop} {z : L2.St → Hp → Prop} (h : EndsOk C pn E Z) (k : ∀ G ρ σ H, Rep C pn G ρ σ H → n ρ → z σ H) : EndsOk C pn { E with nx := n } { Z with nx := z } := ⟨k, h.bk, h.ct, h.rt⟩
theorem ds_nil : PSs X [] (liS C dNext) := PSs.to pss_nil fun Z σ H ⟨pn, G, ρ, E, r, t, k⟩ => k.nx G ρ σ H r t
theorem ds_cons (h1 : PS X st (liS C t)) (h2 : PSs X rest (liS C u)) : PSs X (st :: rest) (liS C (dSeq t u)) :=
  PSs.to (pss_cons h1 h2) fun Z σ H ⟨pn, G, ρ, E, r, t, k⟩ => ⟨pn, G, ρ, _, r, t, k.nxt fun G' ρ' σ' H' r' n => ⟨pn, G', ρ', E, r', n, k⟩⟩
theorem ds_one (h1 : PS X st (liS C t)) : PSs X [st] (liS C t) := pss_one h1
theorem ds_pass : PS X (.Pass pos) (liS C dNext) := PS.to ps_pass fun Z σ H ⟨pn, G, ρ, E, r, t, k⟩ => k.nx G ρ σ H r t
theorem ds_break : PS X (.Break pos) (liS C dBreak) := PS.to ps_break fun Z σ H ⟨pn, G, ρ, E, r, t, k⟩ => k.bk G ρ σ H r t
theorem ds_continue : PS X (.Continue pos) (liS C dCont) := PS.to ps_continue fun Z σ H ⟨pn, G, ρ, E, r, t, k⟩ => k.ct G ρ σ H r t
theorem ds_never : PS X st (liS C dNever) := PS.to ps_never fun Z σ H ⟨pn, G, ρ, E, r, t, k⟩ => t
theorem ds_ret (he : PE X e (liE C te)) : PS X (.Return (some e) pos) (liS C (dRet te)) :=
  PS.to (ps_ret he) fun Z σ H ⟨pn, G, ρ, E, r, t, k⟩ => ⟨pn, G, ρ, _, r, t, fun d v S' H' ⟨i, p⟩ s dv => k.rt _ ρ σ H' d v (tupsOf (fun _ => false) H') (r.step s) p (fun a o h => ⟨(tupsOf_some.mp h).1, .inr (tupsOf_some.mp h).2.1⟩)
    (dv.im (fun a o ho ha => tupsOf_some.mpr ⟨(s.sub a o ha).1, ho, rfl⟩) i)⟩
theorem dks_im {C : CK} {S S' : Hp} (e : TupEx S S') : ∀ {raw : List (List Key × Addr × Value)} {kvs : List (D × D)}, DKs C S raw kvs → (kvs.all fun p => Im p.2) = true → DKs C S' raw kvs
  | _, _, .nil, _ => .nil
  | _, _, .cons hb hn hv h r, i => by
    rw [List.all_cons, Bool.and_eq_true] at i
    exact .cons (e _ _ rfl hb) hn hv (h.im e i.1) (dks_im e r i.2)
theorem fresh_ret {C : Ctx} {S H : Hp} {a : Addr} {d : D} (o : OwnAt C.ck S H a d) (hS : Ex S H) (f : FrOk d = true) (h0 : C.H0 a = none) : ∃ N, (∀ b u, N b = some u → H b = some u ∧ (C.H0 b = none ∨ isTup u = true)) ∧ DV C.ck N (.ref a) d := by
  obtain ⟨w, hw, hnt⟩ := o.mut
  have hN : ∀ b u, (un (tupsOf (fun _ => false) H) fun b => if b = a then some w else none) b = some u → (H b = some u ∧ isTup u = true) ∨ (b = a ∧ u = w) := fun b u h => by
    rcases un_some h with z | z
    · exact .inl ⟨(tupsOf_some.mp z).1, (tupsOf_some.mp z).2.1⟩
    · by_cases q : b = a
      · rw [if_pos q] at z; cases z; exact .inr ⟨q, rfl⟩
      · rw [if_neg q] at z; cases z
  have hT : TupEx S (un (tupsOf (fun _ => false) H) fun b => if b = a then some w else none) := fun b u hu hb => un_l b u (tupsOf_some.mpr ⟨hS b u hb, hu, rfl⟩)
  have ha : (un (tupsOf (fun _ => false) H) fun b => if b = a then some w else none) a = some w := by
    unfold un
    have : tupsOf (fun _ => false) H a = none := by
      cases q : tupsOf (fun _ => false) H a with
      | none => rfl
      | some u =>
        obtain ⟨z1, z2, _⟩ := tupsOf_some.mp q
        rw [hw] at z1; cases z1
        rw [hnt] at z2; cases z2
    rw [this]
    simp
  refine ⟨un (tupsOf (fun _ => false) H) (fun b => if b = a then some w else none), fun b u h => ?_, ?_⟩
  · rcases hN b u h with ⟨z1, z2⟩ | ⟨z1, z2⟩
    · exact ⟨z1, .inr z2⟩
    · subst z1; subst z2; exact ⟨hw, .inl h0⟩
  · cases d <;> first
      | exact o.elim
      | (obtain ⟨vs, h1, h2⟩ := o
         rw [hw] at h1; cases h1
         exact .lst ha (h2.im hT f))
      | (obtain ⟨vs, h1, h2⟩ := o
         rw [hw] at h1; cases h1
         exact .dct ha (dks_im hT h2 f))
theorem ds_retO {i : Nat} {x : Str} {p : Pos} (hN : X.N[i]? = some x := by rfl) (hv : Vis X.env.scope x := by first | exact Or.inl rfl | exact Or.inr (Or.inl rfl) | exact Or.inr (Or.inr rfl)) (hd : (x == ("__debug__" : Str)) = false := by decide)
    (hcd : (x == ("__classdict__" : Str)) = false := by decide) : PS X (.Return (some (.Name x p)) pos) (liS C (dRetO i)) :=
  PS.to (ps_ret (pe_var hN hv hd hcd)) fun Z σ H ⟨pn, G, ρ, E, r, ⟨d, hd, f, p⟩, k⟩ => by
    obtain ⟨a, h1, h2, h3, h4, h5⟩ := r.own i d hd
    obtain ⟨N, n1, n2⟩ := fresh_ret h5 r.exS f h4
    exact ⟨_, h1, k.rt G ρ σ H d _ N r p n1 n2⟩
theorem ds_if {ce : Expr} {a b : List Stmt} (hc : PT X ce (liT C c)) (ha : PSs X a (liS C t)) (hb : PSs X b (liS C u)) : PS X (.If ce a b pos) (liS C (dIfS c t u)) :=
  PS.to (ps_if hc ha hb) fun Z σ H ⟨pn, G, ρ, E, r, tt, k⟩ => ⟨pn, G, ρ, _, r, tt, fun b S' H' p s => by
    cases b with
    | true => exact ⟨pn, _, ρ, E, r.step s, p, k⟩
    | false => exact ⟨pn, _, ρ, E, r.step s, p, k⟩⟩
theorem ds_expr (he : PE X e (liE C te)) (hs : swapsWith e none pos.line X.env = pure false := by rfl) : PS X (.Expr e pos) (liS C (dDrop te)) :=
  PS.to (ps_expr he hs) fun Z σ H ⟨pn, G, ρ, E, r, tt, k⟩ => ⟨pn, G, ρ, _, r, tt, fun d v S' H' p s dv => k.nx _ ρ σ H' (r.step s) p⟩
theorem ds_set {i : Nat} {x : Str} {pos' : Pos} (hX : Fits C X) (he : PE X e (liE C te)) (hi : X.N[i]? = some x := by rfl) (hx : Loc X.env.scope x := by first | exact Or.inl rfl | exact Or.inr rfl) (hs : swapsWith e (some (.Name x pos')) pos.line X.env = pure false := by rfl)
    (hf : X.fn x = true ∨ X.env.scope.names.lookup x = some .local := by first | exact .inl rfl | exact .inr rfl) : PS X (.Assign [.Name x pos'] e pos) (liS C (dSet i te)) :=
  PS.to (ps_set hX.nd hi hx he hs hf) fun Z σ H ⟨pn, G, ρ, E, r, tt, k⟩ => ⟨pn, G, ρ, _, r, tt, fun d v S' H' p s dv => k.nx _ _ _ H' ((r.step s).setSh dv) p⟩
theorem Rep.newOwn {pn : List (V × D)} {G : Gh} {ρ : R} {σ : L2.St} {H S' H' : Hp} {i : Nat} {d : D} {a : Addr} (r : Rep C pn G ρ σ H) (s : Step G H S' H') (h1 : S' a = none) (h2 : H a = none) (o : OwnAt C.ck S' H' a d) : Rep C pn { G with S := S' } (ρ.set i (some (.own d))) (σ.set i (some (.ref a))) H' := by
  refine (r.step s).setOwn (a := a) h1 (Step.novol r h2) ?_ o fun j e q1 q2 => ?_
  · cases q : C.H0 a with
    | none => rfl
    | some u =>
      cases v : C.vol0 a with
      | false => rw [r.h0 a u v q] at h2; cases h2
      | true =>
        have := Step.novol r h2
        rw [r.v0 a v] at this; cases this
  · obtain ⟨b, w1, w2, w3, w4, w5⟩ := r.own j e q1
    obtain ⟨u, hu, _⟩ := w5.mut
    rw [q2] at w1
    have e : a = b := by simpa using w1
    subst e
    rw [h2] at hu; cases hu
theorem ds_own {i : Nat} {x : Str} {pos' : Pos} (hX : Fits C X) (he : PE X e (liF C te)) (hi : X.N[i]? = some x := by rfl) (hx : Loc X.env.scope x := by first | exact Or.inl rfl | exact Or.inr rfl) (hs : swapsWith e (some (.Name x pos')) pos.line X.env = pure false := by rfl)
    (hf : X.fn x = true ∨ X.env.scope.names.lookup x = some .local := by first | exact .inl rfl | exact .inr rfl) : PS X (.Assign [.Name x pos'] e pos) (liS C (dOwn i te)) :=
  PS.to (ps_set hX.nd hi hx he hs hf) fun Z σ H ⟨pn, G, ρ, E, r, tt, k⟩ => ⟨pn, G, ρ, _, r, tt, fun d a S' H' p s h1 h2 o => k.nx _ _ _ H' (r.newOwn s h1 h2 o) p⟩
theorem ds_retF (he : PE X e (liF C te)) : PS X (.Return (some e) pos) (liS C (dRetF te)) :=
  PS.to (ps_ret he) fun Z σ H ⟨pn, G, ρ, E, r, t, k⟩ => ⟨pn, G, ρ, _, r, t, fun d a S' H' ⟨f, p⟩ s h1 h2 o => by
    have h0 : C.H0 a = none := by
      cases q : C.H0 a with
      | none => rfl
      | some u =>
        cases v : C.vol0 a with
        | false => rw [r.h0 a u v q] at h2; cases h2
        | true =>
          have := Step.novol r h2
          rw [r.v0 a v] at this; cases this
    obtain ⟨N, n1, n2⟩ := fresh_ret o s.exH f h0
    exact k.rt _ ρ σ H' d _ N (r.step s) p n1 n2⟩
theorem ds_frz {i : Nat} (h : PS X st (liS C t)) : PS X st (liS C (dFrz i t)) := PS.to h fun Z σ H ⟨pn, G, ρ, E, r, ⟨d, hd, tt⟩, k⟩ => by
  obtain ⟨S', _, r', _⟩ := r.freeze hd
  exact ⟨pn, _, _, E, r', tt, k⟩
end

/-! ### targets -/
inductive Tg where
  | nm (i : Nat) | tp (is : List Nat)
def setAll : R → List Nat → List D → R
  | ρ, i :: is, d :: ds => setAll (ρ.set i (some (.sh d))) is ds
  | ρ, _, _ => ρ
def dAsg : Tg → D → R → (R → Prop) → Prop
  | .nm i, d, ρ, k => k (ρ.set i (some (.sh d)))
  | .tp is, d, ρ, k => ∃ ds, (d = .tup ds ∨ d = .pr ds) ∧ ds.length = is.length ∧ k (setAll ρ is ds)
def gNames : List Nat → TGs
  | [] => gNil
  | i :: is => gCons (gName i) (gNames is)
def sgOf (K : PySem.W.Frag) : Tg → TG
  | .nm i => gName i
  | .tp is => gTup K is.length (gNames is)
theorem gnames_ok {C : Ctx} {pn : List (V × D)} {G : Gh} {H : Hp} {Q : L2.St → Hp → Prop} : ∀ {is : List Nat} {vs : List V} {ds : List D} {ρ : R} {σ : L2.St}, Rep C pn G ρ σ H → DVs C.ck G.S vs ds → ds.length = is.length →
    (∀ σ', Rep C pn G (setAll ρ is ds) σ' H → Q σ' H) → gNames is vs σ H Q
  | [], _, _, ρ, σ, r, .nil, _, k => ⟨rfl, k σ r⟩
  | i :: is, _, _, ρ, σ, r, .cons h t, hl, k => ⟨_, _, rfl, gnames_ok (is := is) (r.setSh h) t (by simpa using hl) k⟩
theorem asg_ok {C : Ctx} {pn : List (V × D)} {G : Gh} {H : Hp} {Q : L2.St → Hp → Prop} {T : Tg} {v : V} {d : D} {ρ : R} {σ : L2.St} {k : R → Prop} (r : Rep C pn G ρ σ H) (h : DV C.ck G.S v d) (a : dAsg T d ρ k) (q : ∀ ρ' σ', Rep C pn G ρ' σ' H → k ρ' → Q σ' H) : sgOf C.K T v σ H Q := by
  cases T with
  | nm i => exact q _ _ (r.setSh h) a
  | tp is =>
    obtain ⟨ds, e, hl, a⟩ := a
    rcases e with e | e
    · subst e
      cases h with
      | tup h1 hn h2 => exact ⟨_, _, rfl, r.exS.t (frz_t h1), by rw [h2.length]; exact hl, gnames_ok r h2 hl fun σ' r' => q _ σ' r' a⟩
    · subst e
      cases h with
      | pr h1 h2 => exact ⟨_, _, rfl, r.exS.t (.inl (.inl h1)), by rw [h2.length]; exact hl, gnames_ok r h2 hl fun σ' r' => q _ σ' r' a⟩
section
variable {X : Cx} {C : Ctx} {e : Expr} {te : DE} {pos : Pos}
theorem dg_name {i : Nat} {x : Str} (hX : Fits C X) (hi : X.N[i]? = some x := by rfl) (hx : Loc X.env.scope x := by first | exact Or.inl rfl | exact Or.inr rfl) (hf : X.fn x = true ∨ X.env.scope.names.lookup x = some .local := by first | exact .inl rfl | exact .inr rfl) : PG X (.Name x pos) (sgOf C.K (.nm i)) := pg_name hX.nd hi hx hf
theorem dgs_nil : PGs X [] (gNames []) := pgs_nil
theorem dgs_cons {i : Nat} {es : List Expr} {is : List Nat} (h1 : PG X e (gName i)) (h2 : PGs X es (gNames is)) (hs : (assignEach (e :: es) X.env).map (·.2) = assign e X.env :: (assignEach es X.env).map (·.2) := by rfl) : PGs X (e :: es) (gNames (i :: is)) := pgs_cons h1 h2 hs
theorem dg_tup {es : List Expr} {k : Nat} {is : List Nat} (hX : Fits C X) (h : PGs X es (gNames is)) (hn : (assignEach es X.env).length = is.length := by rfl) (hst : (assignEach es X.env).findIdx? (·.1) = none := by rfl) : PG X (.Tuple es k pos) (sgOf C.K (.tp is)) := by
  have := pg_tup (X := X) (pos := pos) (k := k) hX.calm h hn hst
  rw [hX.K] at this
  exact this
def dUnp (T : Tg) (te : DE) : DS := fun E ρ => te ρ fun d => dAsg T d ρ E.nx
theorem ds_unp {tg : Expr} {T : Tg} (he : PE X e (liE C te)) (hg : PG X tg (sgOf C.K T)) (hs : swapsWithSole [tg] e pos.line X.env = pure false := by rfl) (hw : swappedStores [tg] e X.env = pure none := by rfl)
    (h1 : (assignEach [tg] X.env).map (·.2) = [assign tg X.env] := by rfl) : PS X (.Assign [tg] e pos) (liS C (dUnp T te)) :=
  PS.to (ps_asg he hg hs hw h1) fun Z σ H ⟨pn, G, ρ, E, r, tt, k⟩ => ⟨pn, G, ρ, _, r, tt, fun d v S' H' p s dv => asg_ok (r.step s) dv p fun ρ' σ' r' n => k.nx _ _ _ H' r' n⟩
end

/-! ### several values, shared or owned -/
abbrev DK := R → (List Slot → Prop) → Prop
inductive SlOk (C : CK) (S' H H' : Hp) : V → Slot → Prop
  | sh {v : V} {d : D} : DV C S' v d → SlOk C S' H H' v (.sh d)
  | own {a : Addr} {d : D} : S' a = none → H a = none → OwnAt C S' H' a d → SlOk C S' H H' (.ref a) (.own d)
def liK (C : Ctx) (ta : DK) : TA := fun σ H Q => ∃ pn G ρ P, Rep C pn G ρ σ H ∧ ta ρ P ∧ ∀ ks vs S' H', P ks → Step G H S' H' → Paired (SlOk C.ck S' H H') vs ks →
  (∀ (i j : Nat) a d e, ks[i]? = some (Slot.own d) → ks[j]? = some (Slot.own e) → vs[i]? = some (V.ref a) → vs[j]? = some (V.ref a) → i = j) → Q vs H'
def kNil : DK := fun _ P => P []
def kSh (te : DE) (tr : DK) : DK := fun ρ P => te ρ fun d => tr ρ fun ks => P (.sh d :: ks)
def kOwn (te : DE) (tr : DK) : DK := fun ρ P => te ρ fun d => tr ρ fun ks => P (.own d :: ks)
theorem Step.before {C : Ctx} {pn : List (V × D)} {G : Gh} {ρ : R} {σ : L2.St} {H S1 H1 : Hp} (r : Rep C pn G ρ σ H) (s : Step G H S1 H1) {a : Addr} (h : H1 a = none) : H a = none := by
  cases q : H a with
  | none => rfl
  | some o =>
    cases v : G.vol a with
    | false => rw [s.keep a o v q] at h; cases h
    | true =>
      obtain ⟨w, h1, _⟩ := s.J.vt v
      rw [h] at h1; cases h1
/-- an own object stays out of what is shared -/
theorem Step.out {C : Ctx} {G : Gh} {H S' H' : Hp} {a : Addr} {S : Hp} {d : D} (s : Step G H S' H') (hS : G.S a = none) (hv : G.vol a = false) (o : OwnAt C.ck S H a d) : S' a = none := by
  cases q : S' a with
  | none => rfl
  | some u =>
    obtain ⟨o', e1, e3⟩ := o.mut
    have k := s.keep a o' hv e1
    have z := (s.sub a u q).1
    rw [k] at z
    obtain rfl : o' = u := Option.some.inj z
    rcases s.new a _ q with z | z | z
    · rw [hS] at z; cases z
    · rw [e1] at z; cases z
    · rw [e3] at z; cases z
theorem SlOk.before {C : Ctx} {pn : List (V × D)} {G : Gh} {ρ : R} {σ : L2.St} {H S1 H1 S' H' : Hp} (r : Rep C pn G ρ σ H) (s : Step G H S1 H1) {v : V} {k : Slot} (h : SlOk C.ck S' H1 H' v k) : SlOk C.ck S' H H' v k := by
  cases h with
  | sh d => exact .sh d
  | own h1 h2 h3 => exact .own h1 (Step.before r s h2) h3
theorem paired_mono {α β : Type} {F F' : α → β → Prop} (f : ∀ a b, F a b → F' a b) : ∀ {l : List α} {m : List β}, Paired F l m → Paired F' l m
  | _, _, .nil => .nil
  | _, _, .cons h t => .cons (f _ _ h) (paired_mono f t)
theorem paired_get {α β : Type} {F : α → β → Prop} : ∀ {l : List α} {m : List β} {i : Nat} {x : α} {y : β}, Paired F l m → l[i]? = some x → m[i]? = some y → F x y
  | _, _, _, _, _, .nil, e, _ => by simp at e
  | _, _, 0, _, _, .cons h _, e1, e2 => by simp at e1 e2; subst e1; subst e2; exact h
  | _, _, i + 1, x, y, .cons _ t, e1, e2 => paired_get (i := i) t (by simpa using e1) (by simpa using e2)
section
variable {X : Cx} {C : Ctx} {e : Expr} {te : DE} {pos : Pos} {es : List Expr} {tr : DK}
theorem dk_nil : PA X [] (liK C kNil) := PA.to pa_nil fun σ H Q ⟨pn, G, ρ, P, r, p, k⟩ => k [] [] G.S H p (Step.refl r) .nil (fun _ _ _ _ _ h => by simp at h)
theorem dk_sh (ha : PE X e (liE C te)) (hr : PA X es (liK C tr)) (hs : starEach (e :: es) X.env = (false, eval e X.env) :: starEach es X.env := by rfl) : PA X (e :: es) (liK C (kSh te tr)) :=
  PA.to (pa_cons ha hr hs) fun σ H Q ⟨pn, G, ρ, P, rp, t, k⟩ => ⟨pn, G, ρ, _, rp, t, fun x v S1 H1 p1 s1 d1 => ⟨pn, _, ρ, _, rp.step s1, p1, fun ks vs S2 H2 p2 s2 d2 inj => by
    refine k _ _ S2 H2 p2 (Step.trans rp s1 s2) (.cons (.sh (d1.mono s2.grow)) (paired_mono (fun _ _ h => h.before rp s1) d2)) fun i j a d e q1 q2 q3 q4 => ?_
    cases i with
    | zero => simp at q1
    | succ i =>
      cases j with
      | zero => simp at q2
      | succ j => exact congrArg Nat.succ (inj i j a d e (by simpa using q1) (by simpa using q2) (by simpa using q3) (by simpa using q4))⟩⟩
theorem dk_own (ha : PE X e (liF C te)) (hr : PA X es (liK C tr)) (hs : starEach (e :: es) X.env = (false, eval e X.env) :: starEach es X.env := by rfl) : PA X (e :: es) (liK C (kOwn te tr)) :=
  PA.to (pa_cons ha hr hs) fun σ H Q ⟨pn, G, ρ, P, rp, t, k⟩ => ⟨pn, G, ρ, _, rp, t, fun d a S1 H1 p1 s1 h1 h2 o1 => ⟨pn, _, ρ, _, rp.step s1, p1, fun ks vs S2 H2 p2 s2 d2 inj => by
    have hv := Step.novol rp h2
    have hout : S2 a = none := Step.out (C := C) (G := { G with S := S1 }) s2 h1 hv o1
    obtain ⟨w, hw, _⟩ := o1.mut
    have hne : ∀ (j : Nat) e b, ks[j]? = some (Slot.own e) → vs[j]? = some (V.ref b) → b ≠ a := fun j e b q1 q2 z => by
      subst z
      have := paired_get d2 q2 q1
      cases this with
      | own z1 z2 z3 => rw [hw] at z2; cases z2
    refine k _ _ S2 H2 p2 (Step.trans rp s1 s2) (.cons (.own hout h2 (o1.mono s2.grow fun o q => s2.keep a o hv q)) (paired_mono (fun _ _ h => h.before rp s1) d2)) fun i j b d' e q1 q2 q3 q4 => ?_
    cases i with
    | zero =>
      cases j with
      | zero => rfl
      | succ j =>
        have e3 : a = b := by simpa using q3
        exact absurd e3.symm (hne j e b (by simpa using q2) (by simpa using q4))
    | succ i =>
      cases j with
      | zero =>
        have e3 : a = b := by simpa using q4
        exact absurd e3.symm (hne i d' b (by simpa using q1) (by simpa using q3))
      | succ j => exact congrArg Nat.succ (inj i j b d' e (by simpa using q1) (by simpa using q2) (by simpa using q3) (by simpa using q4))⟩⟩
end
end WH

set_option Elab.async false
set_option linter.all false
set_option maxRecDepth 100000
set_option maxHeartbeats 4000000
namespace WH
open PySem L2

/-! ### a, b = x, y -/
theorem Rep.setSl {C : Ctx} {pn : List (V × D)} {G : Gh} {ρ : R} {σ : L2.St} {H Hb : Hp} {i : Nat} {v : V} {k : Slot} (r : Rep C pn G ρ σ H) (h : SlOk C.ck G.S Hb H v k) (hb : ∀ a, Hb a = none → C.H0 a = none ∧ G.vol a = false)
    (hn : ∀ d a, k = .own d → v = .ref a → ∀ (j : Nat) e, ρ[j]? = some (some (Slot.own e)) → σ[j]? ≠ some (some (V.ref a))) : Rep C pn G (ρ.set i (some k)) (σ.set i (some v)) H := by
  cases h with
  | sh d => exact r.setSh d
  | own h1 h2 h3 => exact r.setOwn h1 (hb _ h2).2 (hb _ h2).1 h3 (hn _ _ rfl rfl)
theorem Rep.old {C : Ctx} {pn : List (V × D)} {G : Gh} {ρ : R} {σ : L2.St} {H : Hp} (r : Rep C pn G ρ σ H) {a : Addr} (h : H a = none) : C.H0 a = none ∧ G.vol a = false := by
  refine ⟨?_, Step.novol r h⟩
  cases q : C.H0 a with
  | none => rfl
  | some u =>
    cases v : C.vol0 a with
    | false => rw [r.h0 a u v q] at h; cases h
    | true =>
      have := Step.novol r h
      rw [r.v0 a v] at this; cases this
theorem Rep.oldne {C : Ctx} {pn : List (V × D)} {G : Gh} {ρ : R} {σ : L2.St} {H : Hp} (r : Rep C pn G ρ σ H) {a : Addr} (h : H a = none) (j : Nat) (e : D) (q : ρ[j]? = some (some (Slot.own e))) : σ[j]? ≠ some (some (V.ref a)) := fun q2 => by
  obtain ⟨b, w1, _, _, _, w5⟩ := r.own j e q
  obtain ⟨u, hu, _⟩ := w5.mut
  rw [q2] at w1
  have e : a = b := by simpa using w1
  subst e
  rw [h] at hu; cases hu
def dPar (i j : Nat) (ta : DK) : DS := fun E ρ => ta ρ fun ks => ∃ k1 k2, ks = [k1, k2] ∧ E.nx ((ρ.set i (some k1)).set j (some k2))
def dPar3 (i j l : Nat) (ta : DK) : DS := fun E ρ => ta ρ fun ks => ∃ k1 k2 k3, ks = [k1, k2, k3] ∧ E.nx (((ρ.set i (some k1)).set j (some k2)).set l (some k3))
theorem SlOk.oldne {C : Ctx} {pn : List (V × D)} {G : Gh} {ρ : R} {σ : L2.St} {H S' H' : Hp} {v : V} {k : Slot} {d : D} {a : Addr} (r : Rep C pn G ρ σ H) (h : SlOk C.ck S' H H' v k) (e1 : k = .own d) (e2 : v = .ref a) (j : Nat) (e : D) (q : ρ[j]? = some (some (Slot.own e))) : σ[j]? ≠ some (some (V.ref a)) := by
  subst e1; subst e2
  cases h with
  | own h1 h2 h3 => exact r.oldne h2 j e q
section
variable {X : Cx} {C : Ctx} {a b c e : Expr} {te : DE} {pos : Pos} {ta : DK} {t : DT} {body : List Stmt} {tb : DS}
theorem ds_par {i j : Nat} {x y : Str} {px py pt : Pos} {kt k2 pt2} (hX : Fits C X) (hi : X.N[i]? = some x := by rfl) (hj : X.N[j]? = some y := by rfl) (hij : i ≠ j := by decide) (hx : X.env.scope.names.lookup x = some .local := by rfl) (hy : X.env.scope.names.lookup y = some .local := by rfl) (ha : PA X [a, b] (liK C ta))
    (hw : swappedStores [.Tuple [.Name x px, .Name y py] kt pt] (.Tuple [a, b] k2 pt2) X.env = pure (some [x, y]) := by rfl) (hs : swapsWithSole [.Tuple [.Name x px, .Name y py] kt pt] (.Tuple [a, b] k2 pt2) pos.line X.env = pure false := by rfl) :
    PS X (.Assign [.Tuple [.Name x px, .Name y py] kt pt] (.Tuple [a, b] k2 pt2) pos) (liS C (dPar i j ta)) := by
  refine PS.to (ps_par hX.calm hX.nd hi hj hij hx hy ha hw hs) fun Z σ H ⟨pn, G, ρ, E, r, tt, k⟩ => ⟨pn, G, ρ, _, r, tt, fun ks vs S' H' ⟨k1, k2, ek, p⟩ s sl inj => ?_⟩
  subst ek
  obtain ⟨v1, v2, ev, s1, s2⟩ : ∃ v1 v2, vs = [v1, v2] ∧ SlOk C.ck S' H H' v1 k1 ∧ SlOk C.ck S' H H' v2 k2 := by
    cases sl with
    | cons s1 sl =>
      cases sl with
      | cons s2 sl =>
        cases sl
        exact ⟨_, _, rfl, s1, s2⟩
  subst ev
  refine ⟨v1, v2, rfl, k.nx { G with S := S' } _ _ H' ?_ p⟩
  have r1 := (r.step s).setSl (i := i) s1 (fun a h => r.old h) fun d a e1 e2 j e q => s1.oldne r e1 e2 j e q
  refine r1.setSl (i := j) s2 (fun a h => r.old h) fun d a e1 e2 l e q => ?_
  by_cases z : i = l
  · subst z
    have hl := set_eq q
    rw [List.getElem?_set_self hl] at q
    rw [r.len] at hl
    rw [List.getElem?_set_self hl]
    intro w
    have w' : v1 = V.ref a := by simpa using w
    have e0 : k1 = Slot.own e := by simpa using q
    subst e1; subst e2; subst w'; subst e0
    exact absurd (inj 0 1 a e d rfl rfl rfl rfl) (by decide)
  · rw [List.getElem?_set_ne z] at q
    rw [List.getElem?_set_ne z]
    exact s2.oldne r e1 e2 l e q
theorem ds_par3 {i j l : Nat} {x y z : Str} {px py pz pt : Pos} {kt k2 pt2} (hX : Fits C X) (hi : X.N[i]? = some x := by rfl) (hj : X.N[j]? = some y := by rfl) (hl : X.N[l]? = some z := by rfl) (hij : i ≠ j := by decide) (hil : i ≠ l := by decide) (hjl : j ≠ l := by decide)
    (hx : X.env.scope.names.lookup x = some .local := by rfl) (hy : X.env.scope.names.lookup y = some .local := by rfl) (hz : X.env.scope.names.lookup z = some .local := by rfl) (ha : PA X [a, b, c] (liK C ta))
    (hw : swappedStores [.Tuple [.Name x px, .Name y py, .Name z pz] kt pt] (.Tuple [a, b, c] k2 pt2) X.env = pure (some [x, y, z]) := by rfl) (hs : swapsWithSole [.Tuple [.Name x px, .Name y py, .Name z pz] kt pt] (.Tuple [a, b, c] k2 pt2) pos.line X.env = pure false := by rfl) :
    PS X (.Assign [.Tuple [.Name x px, .Name y py, .Name z pz] kt pt] (.Tuple [a, b, c] k2 pt2) pos) (liS C (dPar3 i j l ta)) := by
  refine PS.to (ps_par3 hX.calm hX.nd hi hj hl hij hil hjl hx hy hz ha hw hs) fun Z σ H ⟨pn, G, ρ, E, r, tt, k⟩ => ⟨pn, G, ρ, _, r, tt, fun ks vs S' H' ⟨k1, k2, k3, ek, p⟩ s sl inj => ?_⟩
  subst ek
  obtain ⟨v1, v2, v3, ev, s1, s2, s3⟩ : ∃ v1 v2 v3, vs = [v1, v2, v3] ∧ SlOk C.ck S' H H' v1 k1 ∧ SlOk C.ck S' H H' v2 k2 ∧ SlOk C.ck S' H H' v3 k3 := by
    cases sl with
    | cons s1 sl =>
      cases sl with
      | cons s2 sl =>
        cases sl with
        | cons s3 sl =>
          cases sl
          exact ⟨_, _, _, rfl, s1, s2, s3⟩
  subst ev
  refine ⟨v1, v2, v3, rfl, k.nx { G with S := S' } _ _ H' ?_ p⟩
  have r1 := (r.step s).setSl (i := i) s1 (fun a h => r.old h) fun d a e1 e2 j e q => s1.oldne r e1 e2 j e q
  have r2 := r1.setSl (i := j) s2 (fun a h => r.old h) (fun d a e1 e2 n e q => by
    by_cases z : i = n
    · subst z
      have hl := set_eq q
      rw [List.getElem?_set_self hl] at q
      rw [r.len] at hl
      rw [List.getElem?_set_self hl]
      intro w
      have w' : v1 = V.ref a := by simpa using w
      have e0 : k1 = Slot.own e := by simpa using q
      subst e1; subst e2; subst w'; subst e0
      exact absurd (inj 0 1 a e d rfl rfl rfl rfl) (by decide)
    · rw [List.getElem?_set_ne z] at q
      rw [List.getElem?_set_ne z]
      exact s2.oldne r e1 e2 n e q)
  refine r2.setSl (i := l) s3 (fun a h => r.old h) fun d a e1 e2 n e q => ?_
  by_cases z2 : j = n
  · subst z2
    have hl := set_eq q
    rw [List.getElem?_set_self hl] at q
    rw [r1.len] at hl
    rw [List.getElem?_set_self hl]
    intro w
    have w' : v2 = V.ref a := by simpa using w
    have e0 : k2 = Slot.own e := by simpa using q
    subst e1; subst e2; subst w'; subst e0
    exact absurd (inj 1 2 a e d rfl rfl rfl rfl) (by decide)
  · rw [List.getElem?_set_ne z2] at q
    rw [List.getElem?_set_ne z2]
    by_cases z : i = n
    · subst z
      have hl := set_eq q
      rw [List.getElem?_set_self hl] at q
      rw [r.len] at hl
      rw [List.getElem?_set_self hl]
      intro w
      have w' : v1 = V.ref a := by simpa using w
      have e0 : k1 = Slot.own e := by simpa using q
      subst e1; subst e2; subst w'; subst e0
      exact absurd (inj 0 2 a e d rfl rfl rfl rfl) (by decide)
    · rw [List.getElem?_set_ne z] at q
      rw [List.getElem?_set_ne z]
      exact s3.oldne r e1 e2 n e q
end

/-! ### while -/
def dWhile (c : DT) (tb : DS) : DS := fun E ρ => ∃ W : Nat → R → Prop, (∃ m, W m ρ) ∧ ∀ m ρ, W m ρ → c ρ fun b => if b = true then tb { E with nx := fun ρ' => ∃ m', m' < m ∧ W m' ρ', ct := fun ρ' => ∃ m', m' < m ∧ W m' ρ', bk := E.nx } ρ else E.nx ρ
theorem ds_while {X : Cx} {C : Ctx} {c : Expr} {body : List Stmt} {tc : DT} {tb : DS} {pos : Pos} (hp : PassesOwn (model X.prog X.w) X.A X.env X.xe) (hc : PT X c (liT C tc)) (hb : PSs X body (liS C tb)) : PS X (.While c body [] pos) (liS C (dWhile tc tb)) := by
  refine PS.to (ps_while hp hc hb) fun Z σ H ⟨pn, G, ρ, E, r, ⟨W, ⟨m0, w0⟩, hW⟩, k⟩ => ?_
  refine ⟨fun m σ H => ∃ G ρ, Rep C pn G ρ σ H ∧ W m ρ, ⟨m0, G, ρ, r, w0⟩, ?_⟩
  rintro m σ1 H1 ⟨G1, ρ1, r1, w1⟩
  refine ⟨pn, G1, ρ1, _, r1, hW m ρ1 w1, fun b S' H' p s => ?_⟩
  cases b with
  | false => exact k.nx _ _ _ _ (r1.step s) p
  | true =>
    refine ⟨fun σ' H' => ∃ m', m' < m ∧ ∃ G ρ, Rep C pn G ρ σ' H' ∧ W m' ρ, fun σ' H' ⟨m', hm, w⟩ => ⟨m', hm, w⟩, pn, _, ρ1, _, r1.step s, p, ?_⟩
    exact ⟨fun G ρ σ H r ⟨m', hm, w⟩ => ⟨m', hm, G, ρ, r, w⟩, k.nx, fun G ρ σ H r ⟨m', hm, w⟩ => ⟨m', hm, G, ρ, r, w⟩, k.rt⟩

/-! ### what is walked -/
abbrev DI := R → (List D → Prop) → Prop
structure ItOk (C : CK) (J : It) (xs : List D) (pv : List (V × D)) : Prop where
  go : ∀ S H i, Ex S H → (∀ p ∈ pv, DV C S p.1 p.2) → i < xs.length → J.go i H
  stop : ∀ S H i, Ex S H → (∀ p ∈ pv, DV C S p.1 p.2) → xs.length ≤ i → J.stop i H
  yld : ∀ S H i v H3, Ex S H → (∀ p ∈ pv, DV C S p.1 p.2) → i < xs.length → J.yld i H v H3 → ∃ N x, New H H3 N ∧ xs[i]? = some x ∧ DV C (un S N) v x
def liI (C : Ctx) (ti : DI) : TI := fun σ H R => ∃ pn G ρ P, Rep C pn G ρ σ H ∧ ti ρ P ∧ ∀ xs J S' H' pv, P xs → Step G H S' H' → (∀ p ∈ pv, DV C.ck S' p.1 p.2) → ItOk C.ck J xs pv → R J H'
def forGo (T : Tg) (tb : DS) (E : DEnds) : List D → R → Prop
  | [], ρ => E.nx ρ
  | x :: xs, ρ => dAsg T x ρ fun ρ' => tb { E with nx := forGo T tb E xs, ct := forGo T tb E xs, bk := E.nx } ρ'
def dFor (ti : DI) (T : Tg) (tb : DS) : DS := fun E ρ => ti ρ fun xs => forGo T tb E xs ρ
theorem ds_for {X : Cx} {C : Ctx} {tg iter : Expr} {body : List Stmt} {ti : DI} {T : Tg} {tb : DS} {pos : Pos} (hX : Fits C X) (hp : PassesOwn (model X.prog X.w) X.A X.env X.xe) (hi : PI X tg iter (liI C ti)) (hg : PG X tg (sgOf C.K T)) (hb : PSs X body (liS C tb))
    (hs : ∀ x, foldedSetIterable iter X.env x = pure x := by intro _; rfl) : PS X (.For tg iter body [] pos) (liS C (dFor ti T tb)) := by
  refine PS.to (ps_for hp hX.calm hi hg hb hs) fun Z σ H ⟨pn, G, ρ, E, r, tt, k⟩ => ⟨pn, G, ρ, _, r, tt, fun xs J S' H' pv p s hv ok => ?_⟩
  refine ⟨fun i m σ H => i ≤ xs.length ∧ m = xs.length - i ∧ ∃ G ρ, Rep C (pv ++ pn) G ρ σ H ∧ forGo T tb E (xs.drop i) ρ, ⟨xs.length, Nat.zero_le _, by simp, _, ρ, (r.step s).pin hv, by simpa using p⟩, ?_⟩
  rintro i m σ1 H1 ⟨hi1, rfl, G1, ρ1, r1, w1⟩
  have hv1 : ∀ p ∈ pv, DV C.ck G1.S p.1 p.2 := fun p hp => r1.pn p (List.mem_append_left _ hp)
  by_cases hlt : i < xs.length
  · refine .inr ⟨ok.go G1.S H1 i r1.exS hv1 hlt, fun σ' H' => ∃ G ρ, Rep C (pv ++ pn) G ρ σ' H' ∧ forGo T tb E (xs.drop (i + 1)) ρ, fun σ' H' w => ⟨_, by omega, hlt, rfl, w⟩, fun v H3 y => ?_⟩
    obtain ⟨N, x, n, hx, dv⟩ := ok.yld G1.S H1 i v H3 r1.exS hv1 hlt y
    have ed : xs.drop i = x :: xs.drop (i + 1) := by
      rw [List.drop_eq_getElem_cons hlt]
      have e : xs[i] = x := by
        have := List.getElem?_eq_getElem hlt
        rw [this] at hx
        exact Option.some.inj hx
      rw [e]
    rw [ed] at w1
    refine asg_ok (r1.step (New.step r1 n)) dv w1 fun ρ' σ' r' q => ⟨pv ++ pn, _, ρ', _, r', q, ?_⟩
    exact ⟨fun G ρ σ H r w => ⟨G, ρ, r, w⟩, fun G ρ σ H r w => k.nx G ρ σ H r.unpin w, fun G ρ σ H r w => ⟨G, ρ, r, w⟩, fun G ρ σ H d v N r w n dv => k.rt G ρ σ H d v N r.unpin w n dv⟩
  · have e : i = xs.length := by omega
    subst e
    rw [List.drop_length] at w1
    exact .inl ⟨ok.stop G1.S H1 _ r1.exS hv1 (Nat.le_refl _), k.nx _ _ _ _ r1.unpin w1⟩

/-! ### comprehensions -/
def dYes : DT := fun _ P => P true
def lcGo (T : Tg) (tt : DT) (te : DE) (ρ0 : R) : List D → List D → (List D → Prop) → Prop
  | [], acc, P => P acc
  | x :: xs, acc, P => dAsg T x ρ0 fun ρ2 => tt ρ2 fun b => if b = true then te ρ2 fun y => acc.length < 100000 ∧ lcGo T tt te ρ0 xs (acc ++ [y]) P else lcGo T tt te ρ0 xs acc P
def wipeR (ρ : R) : List Nat → R
  | [] => ρ
  | v :: vs => (wipeR ρ vs).set v none
def dLc (ti : DI) (T : Tg) (tt : DT) (te : DE) (vs : List Nat) : DE := fun ρ P => ti ρ fun xs => lcGo T tt te (wipeR ρ vs) xs [] fun acc => P (.lst acc)
def Tg.slots : Tg → List Nat
  | .nm i => [i]
  | .tp is => is
theorem wipeR_length (ρ : R) : ∀ vs, (wipeR ρ vs).length = ρ.length
  | [] => rfl
  | v :: vs => by unfold wipeR; rw [List.length_set, wipeR_length ρ vs]
theorem wipeR_get (ρ : R) : ∀ (vs : List Nat) (j : Nat) s, (wipeR ρ vs)[j]? = some (some s) → ρ[j]? = some (some s) ∧ j ∉ vs
  | [], j, s, h => ⟨h, by simp⟩
  | v :: vs, j, s, h => by
    unfold wipeR at h
    by_cases q : v = j
    · subst q
      have hl : v < (wipeR ρ vs).length := by
        have := (List.getElem?_eq_some_iff.mp h).1
        simpa using this
      rw [List.getElem?_set_self hl] at h
      cases h
    · rw [List.getElem?_set_ne q] at h
      obtain ⟨h1, h2⟩ := wipeR_get ρ vs j s h
      exact ⟨h1, by simp [h2, Ne.symm q]⟩
theorem wipe_set {σ : L2.St} {j : Nat} {x : Option V} : ∀ {vs : List Nat}, j ∈ vs → wipe (σ.set j x) vs = wipe σ vs
  | [], h => by cases h
  | v :: vs, h => by
    unfold wipe
    by_cases hm : j ∈ vs
    · rw [wipe_set hm]
    · have e : j = v := by
        rcases List.mem_cons.mp h with z | z
        · exact z
        · exact absurd z hm
      subst e
      have key : ∀ (us : List Nat), j ∉ us → wipe (σ.set j x) us = (wipe σ us).set j x := by
        intro us
        induction us with
        | nil => intro _; rfl
        | cons u us ih =>
          intro hn
          have h1 : j ≠ u := fun z => hn (by simp [z])
          have h2 : j ∉ us := fun z => hn (by simp [z])
          show (wipe (σ.set j x) us).set u none = ((wipe σ us).set u none).set j x
          rw [ih h2, List.set_comm _ _ h1]
      rw [key vs hm, List.set_set]
theorem wipe_wipe {σ : L2.St} : ∀ (us vs : List Nat), (∀ u ∈ us, u ∈ vs) → wipe (wipe σ us) vs = wipe σ vs
  | [], vs, _ => rfl
  | u :: us, vs, h => by
    show wipe ((wipe σ us).set u none) vs = _
    rw [wipe_set (h u (by simp)), wipe_wipe us vs fun w hw => h w (by simp [hw])]
/-- only the target's slots change -/
theorem sgOf_slots {K : PySem.W.Frag} {T : Tg} {v : V} {σ : L2.St} {H : Hp} {vs : List Nat} {Q : L2.St → Hp → Prop} (hT : ∀ i ∈ T.slots, i ∈ vs) (h : sgOf K T v σ H Q) : sgOf K T v σ H fun σ2 H2 => wipe σ2 vs = wipe σ vs ∧ Q σ2 H2 := by
  cases T with
  | nm i => exact ⟨wipe_set (hT i (by simp [Tg.slots])), h⟩
  | tp is =>
    obtain ⟨a, xs, e, hq, hl, h⟩ := h
    refine ⟨a, xs, e, hq, hl, ?_⟩
    have key : ∀ (is : List Nat) (ws : List V) (σ' : L2.St), (∀ i ∈ is, i ∈ vs) → wipe σ' vs = wipe σ vs → gNames is ws σ' H Q → gNames is ws σ' H fun σ2 H2 => wipe σ2 vs = wipe σ vs ∧ Q σ2 H2 := by
      intro is
      induction is with
      | nil => intro ws σ' _ hw h; exact ⟨h.1, hw, h.2⟩
      | cons i is ih =>
        intro ws σ' hi hw h
        obtain ⟨v, r, e, h⟩ := h
        exact ⟨v, r, e, ih r _ (fun j hj => hi j (by simp [hj])) (by rw [wipe_set (hi i (by simp))]; exact hw) h⟩
    exact key is xs σ hT rfl h
theorem Rep.wipe {C : Ctx} {pn : List (V × D)} {G : Gh} {ρ : R} {σ : L2.St} {H : Hp} (r : Rep C pn G ρ σ H) (vs : List Nat) : Rep C pn G (wipeR ρ vs) (wipe σ vs) H :=
  r.weak (by rw [wipeR_length, wipe_length]; exact r.len) fun j s h => by
    obtain ⟨h1, h2⟩ := wipeR_get ρ vs j s h
    exact ⟨h1, wipe_out h2⟩
section
variable {X : Cx} {C : Ctx} {elt tg iter : Expr} {ifs : List Expr} {scope : Scope} {own : List (Str × Nat)} {pos : Pos} {ti : DI} {T : Tg} {tt : DT} {te : DE}
theorem dts_nil : PTs X [] (liT C dYes) := ⟨fun pins s σ H Q I h => by
  obtain ⟨pn, G, ρ, P, r, p, k⟩ := h
  exact pts_nil.run pins s σ H Q I (k _ _ _ p (Step.refl r))⟩
theorem dts_one {c : Expr} {t : DT} (h : PT X c (liT C t)) : PTs X [c] (liT C t) := pts_one h
theorem Step.upd {C : Ctx} {pn : List (V × D)} {G : Gh} {ρ : R} {σ : L2.St} {H S' H' : Hp} {p : Addr} {o : HO} (r : Rep C pn G ρ σ H) (s : Step G H S' H') (h1 : H p = none) (h2 : S' p = none) {w : HO} (hw : H' p = some w) (hm : isMut w = true) : Step G H S' (upd H' p o) where
  keep := fun a u q1 q2 => by
    have : a ≠ p := fun z => by rw [z, h1] at q2; cases q2
    rw [upd_ne this]; exact s.keep a u q1 q2
  grow := s.grow
  sub := fun a u q => by
    have : a ≠ p := fun z => by rw [z, h2] at q; cases q
    rw [upd_ne this]; exact s.sub a u q
  new := s.new
  J := s.J.keep fun a u q1 q2 => by
    by_cases z : a = p
    · exfalso
      subst z
      rw [hw] at q2; cases q2
      rcases q1 with q | q
      · have hv : volOf G.tb G.T a = false := Step.novol r h1
        rw [hv] at q; cases q
      · rw [hm] at q; cases q
    · rw [upd_ne z]; exact q2
theorem lc_main {σ : L2.St} {H : Hp} {Q : VK} {vs : List Nat} (hT : ∀ i ∈ T.slots, i ∈ vs) (h : liF C (dLc ti T tt te vs) σ H Q) : tLc (liI C ti) (sgOf C.K T) (liT C tt) (liE C te) vs σ H Q := by
  obtain ⟨pn, G, ρ, P, r, t0, k⟩ := h
  refine ⟨pn, G, ρ, _, r, t0, fun xs J S1 H1 pv p s1 hv ok Dl hD => ?_⟩
  have r1 := r.step s1
  have hD0 : H Dl = none := Step.before r s1 hD
  refine ⟨fun i m Hc => i ≤ xs.length ∧ m = xs.length - i ∧ ∃ Sc vacc acc, Step { G with S := S1 } H1 Sc Hc ∧ Sc Dl = none ∧ Hc Dl = some (.lst vacc) ∧ DVs C.ck Sc vacc acc ∧ acc.length ≤ i ∧ lcGo T tt te (wipeR ρ vs) (xs.drop i) acc fun acc => P (.lst acc),
    ⟨xs.length, Nat.zero_le _, by simp, S1, [], [], ?_, s1.exH.free hD, upd_same, .nil, by simp, by simpa using p⟩, ?_⟩
  · exact ⟨fun a o q1 q2 => Ex.new hD a o q2, Ex.refl _, fun a o q => ⟨Ex.new hD a o (s1.sub a o q).1, (s1.sub a o q).2⟩, fun a o q => .inl q, s1.J.ex (Ex.new hD)⟩
  rintro i m Hc ⟨hi1, rfl, Sc, vacc, acc, sc, hSD, hHD, hacc, hal, w1⟩
  have rc := r1.step sc
  have hvc : ∀ p ∈ pv, DV C.ck Sc p.1 p.2 := fun p hp => (hv p hp).mono sc.grow
  by_cases hlt : i < xs.length
  · refine .inr ⟨ok.go Sc Hc i sc.exH hvc hlt, fun H' => ∃ Sc vacc acc, Step { G with S := S1 } H1 Sc H' ∧ Sc Dl = none ∧ H' Dl = some (.lst vacc) ∧ DVs C.ck Sc vacc acc ∧ acc.length ≤ i + 1 ∧ lcGo T tt te (wipeR ρ vs) (xs.drop (i + 1)) acc fun acc => P (.lst acc), fun H' w => ⟨_, by omega, hlt, rfl, w⟩, fun v H3 y => ?_⟩
    obtain ⟨N, x, n, hx, dv⟩ := ok.yld Sc Hc i v H3 sc.exH hvc hlt y
    have ed : xs.drop i = x :: xs.drop (i + 1) := by
      rw [List.drop_eq_getElem_cons hlt]
      have e : xs[i] = x := by
        have := List.getElem?_eq_getElem hlt
        rw [this] at hx
        exact Option.some.inj hx
      rw [e]
    rw [ed] at w1
    have sN := New.step rc n
    have rN := rc.step sN
    have ownD : OwnAt C.ck Sc Hc Dl (.lst acc) := ⟨vacc, hHD, hacc⟩
    have hvD : G.vol Dl = false := Step.novol r hD0
    have hN0 : un Sc N Dl = none := Step.out (C := C) (G := { G with S := Sc }) sN hSD hvD ownD
    have key : sgOf C.K T v (wipe σ vs) H3 fun σ2 H2 => liT C tt σ2 H2 fun b H4 => if b = true then liE C te σ2 H4 fun y H5 => ∃ acc, H5 Dl = some (.lst acc) ∧ acc.length < sizeLine ∧ (fun H' => ∃ Sc vacc acc, Step { G with S := S1 } H1 Sc H' ∧ Sc Dl = none ∧ H' Dl = some (.lst vacc) ∧ DVs C.ck Sc vacc acc ∧ acc.length ≤ i + 1 ∧ lcGo T tt te (wipeR ρ vs) (xs.drop (i + 1)) acc fun acc => P (.lst acc)) (upd H5 Dl (.lst (acc ++ [y]))) else (fun H' => ∃ Sc vacc acc, Step { G with S := S1 } H1 Sc H' ∧ Sc Dl = none ∧ H' Dl = some (.lst vacc) ∧ DVs C.ck Sc vacc acc ∧ acc.length ≤ i + 1 ∧ lcGo T tt te (wipeR ρ vs) (xs.drop (i + 1)) acc fun acc => P (.lst acc)) H4 := by
      refine asg_ok (rN.wipe vs) dv w1 fun ρ2 σ2 r2 q => ⟨pn, _, ρ2, _, r2, q, fun b S4 H4 p4 s4 => ?_⟩
      have scN : Step { G with S := S1 } H1 (un Sc N) H3 := Step.trans r1 sc sN
      have s4' : Step { G with S := S1 } H1 S4 H4 := Step.trans r1 scN s4
      have hH3 : H3 Dl = some (.lst vacc) := sN.keep Dl _ hvD hHD
      have own3 : OwnAt C.ck (un Sc N) H3 Dl (.lst acc) := ⟨vacc, hH3, hacc.mono un_l⟩
      have hS4 : S4 Dl = none := Step.out (C := C) (G := { G with S := un Sc N }) s4 hN0 hvD own3
      have hH4 : H4 Dl = some (.lst vacc) := s4.keep Dl _ hvD hH3
      cases b with
      | false => exact ⟨S4, vacc, acc, s4', hS4, hH4, (hacc.mono un_l).mono s4.grow, by omega, p4⟩
      | true =>
        refine ⟨pn, _, ρ2, _, r2.step s4, p4, fun y u S5 H5 ⟨hlen, p5⟩ s5 d5 => ?_⟩
        have s5' : Step { G with S := S1 } H1 S5 H5 := Step.trans r1 s4' s5
        have own4 : OwnAt C.ck S4 H4 Dl (.lst acc) := ⟨vacc, hH4, (hacc.mono un_l).mono s4.grow⟩
        have hS5 : S5 Dl = none := Step.out (C := C) (G := { G with S := S4 }) s5 hS4 hvD own4
        have hH5 : H5 Dl = some (.lst vacc) := s5.keep Dl _ hvD hH4
        have hac5 : DVs C.ck S5 vacc acc := ((hacc.mono un_l).mono s4.grow).mono s5.grow
        refine ⟨vacc, hH5, Nat.lt_of_lt_of_le (by rw [hacc.length]; exact hlen) (by decide), S5, _, _, Step.upd r1 s5' hD hS5 hH5 rfl, hS5, upd_same, hac5.append (.cons d5 .nil), by simp; omega, p5⟩
    refine Eq.mp ?_ (sgOf_slots (vs := vs) hT key)
    congr 1
    funext σ2 H2
    rw [wipe_wipe vs vs fun _ h => h]
  · have e : i = xs.length := by omega
    subst e
    rw [List.drop_length] at w1
    refine .inl ⟨ok.stop Sc Hc _ sc.exH hvc (Nat.le_refl _), ?_⟩
    exact k _ Dl Sc Hc w1 (Step.trans r s1 sc) hSD hD0 ⟨vacc, hHD, hacc⟩
theorem df_lc (hX : Fits C X) (hi : PI X tg iter (liI C ti)) (ok : BlkOk X.N X.env.scope scope own) (hg : ∀ (s : Shared) (H : Hp) (C' : Addr) (cl : List (Str × Addr)) (fp : List Addr), PG (X.blk s H scope (compEnvC scope cl C' X.env) fp) tg (sgOf C.K T))
    (ht : ∀ (s : Shared) (H : Hp) (C' : Addr) (cl : List (Str × Addr)) (fp : List Addr), PTs (X.blk s H scope (compEnvC scope cl C' X.env) fp) ifs (liT C tt)) (he : ∀ (s : Shared) (H : Hp) (C' : Addr) (cl : List (Str × Addr)) (fp : List Addr), PE (X.blk s H scope (compEnvC scope cl C' X.env) fp) elt (liE C te))
    (hT : ∀ i ∈ T.slots, i ∈ own.map (·.2) := by decide) (hs : ∀ x, foldedSetIterable iter X.env x = pure x := by intro _; rfl) : PE X (.ListComp elt [⟨tg, iter, ifs, 0⟩] scope pos) (liF C (dLc ti T tt te (own.map (·.2)))) :=
  PE.to (pe_lc hX.calm hX.nd hi ok hg ht he hs) fun σ H Q h => lc_main hT h
theorem ds_lc {i : Nat} {y : Str} {py spos : Pos} (hX : Fits C X) (hi : PI X tg iter (liI C ti)) (ok : BlkOk X.N X.env.scope scope own) (hg : ∀ (s : Shared) (H : Hp) (C' : Addr) (cl : List (Str × Addr)) (fp : List Addr), PG (X.blk s H scope (compEnvC scope cl C' X.env) fp) tg (sgOf C.K T))
    (ht : ∀ (s : Shared) (H : Hp) (C' : Addr) (cl : List (Str × Addr)) (fp : List Addr), PTs (X.blk s H scope (compEnvC scope cl C' X.env) fp) ifs (liT C tt)) (he : ∀ (s : Shared) (H : Hp) (C' : Addr) (cl : List (Str × Addr)) (fp : List Addr), PE (X.blk s H scope (compEnvC scope cl C' X.env) fp) elt (liE C te))
    (hy : X.N[i]? = some y := by rfl) (hyl : X.env.scope.names.lookup y = some .local := by rfl) (hsw : swapsWith (.ListComp elt [⟨tg, iter, ifs, 0⟩] scope pos) (some (.Name y py)) spos.line X.env = pure true := by exact sw_true rfl rfl rfl (by decide +kernel))
    (hT : ∀ i ∈ T.slots, i ∈ own.map (·.2) := by decide) (hs : ∀ x, foldedSetIterable iter X.env x = pure x := by intro _; rfl) : PS X (.Assign [.Name y py] (.ListComp elt [⟨tg, iter, ifs, 0⟩] scope pos) spos) (liS C (dSet i (dLc ti T tt te (own.map (·.2))))) :=
  PS.to (ps_setLc hX.calm hX.nd hy hyl hsw hi ok hg ht he hs) fun Z σ H ⟨pn, G, ρ, E, r, t0, k⟩ => lc_main hT ⟨pn, G, ρ, _, r, t0, fun d a S' H' p s h1 h2 o => by
    obtain ⟨S2, s2, dv⟩ := own_share r s h1 h2 o
    exact k.nx _ _ _ H' ((r.step s2).setSh dv) p⟩
end
end WH

set_option Elab.async false
set_option linter.all false
set_option maxRecDepth 100000
set_option maxHeartbeats 4000000
namespace WH
open PySem L2 PyProof.Rows

/-! ### own lists are changed -/
section
variable {X : Cx} {C : Ctx} {e : Expr} {te : DE} {pos apos cpos p : Pos}
def dApp (i : Nat) (te : DE) : DS := fun E ρ => te ρ fun d => ∃ ds, ρ[i]? = some (some (Slot.own (.lst ds))) ∧ ds.length < 100000 ∧ E.nx (ρ.set i (some (.own (.lst (ds ++ [d])))))
def dExt (i : Nat) (te : DE) : DS := fun E ρ => te ρ fun d => ∃ ds es, d = .lst es ∧ ρ[i]? = some (some (Slot.own (.lst ds))) ∧ ds.length + es.length < 100000 ∧ E.nx (ρ.set i (some (.own (.lst (ds ++ es)))))
theorem Rep.ownL {pn : List (V × D)} {G : Gh} {ρ : R} {σ : L2.St} {H : Hp} {i : Nat} {ds : List D} (r : Rep C pn G ρ σ H) (h : ρ[i]? = some (some (Slot.own (.lst ds)))) : ∃ a vs, σ[i]? = some (some (V.ref a)) ∧ G.vol a = false ∧ H a = some (.lst vs) ∧ DVs C.ck G.S vs ds := by
  obtain ⟨a, h1, _, h3, _, vs, h5, h6⟩ := r.own i _ h
  exact ⟨a, vs, h1, h3, h5, h6⟩
/-- what is said of the store ahead holds behind an expression's step: so the own list is found first -/
theorem ds_app {i : Nat} {x : Str} (ha : PE X e (liE C te)) (hN : X.N[i]? = some x := by rfl) (hv : Vis X.env.scope x := by first | exact Or.inl rfl | exact Or.inr (Or.inl rfl) | exact Or.inr (Or.inr rfl)) (hd : (x == ("__debug__" : Str)) = false := by decide) (hcd : (x == ("__classdict__" : Str)) = false := by decide)
    (hbase : attributeBase (.Name x p) "append" X.env (eval (.Name x p) X.env) = eval (.Name x p) X.env := by rfl) (hline : (apos.endLine == cpos.line) = true := by rfl) (hs : swapsWith (.Call (.Attribute (.Name x p) "append" apos) [e] [] cpos) none pos.line X.env = pure false := by rfl)
    (hst : starEach [e] X.env = [(false, eval e X.env)] := by rfl)
    (hfew : ((backTo cpos (starEach [e] X.env)).all (fun x => !x.1) && (backToKw cpos (keywordEach [] X.env)).all (fun x => x.1.isSome) && decide ([e].length + ([] : List Keyword).length + (if ([] : List Keyword).isEmpty then 0 else 1) < 30)) = true := by rfl) :
    PS X (.Expr (.Call (.Attribute (.Name x p) "append" apos) [e] [] cpos) pos) (liS C (fun E ρ => (∃ ds, ρ[i]? = some (some (Slot.own (.lst ds)))) ∧ dApp i te E ρ)) := by
  refine PS.to (ps_expr (pe_bm PySem.F.plainAttrs_list PySem.F.slot_list_append PySem.F.type_list_append mt_append (pe_var hN hv hd hcd) (pa_cons ha pa_nil hst) hbase hfew hline hst rfl) hs) fun Z σ H ⟨pn, G, ρ, E, r, ⟨⟨ds0, q0⟩, t⟩, k⟩ => ?_
  obtain ⟨a, vs, h1, h2, h3, h4⟩ := r.ownL q0
  refine ⟨.ref a, h1, .inl ⟨rfl, vs, .inl (.inl h3)⟩, pn, G, ρ, _, r, t, fun d v S' H' ⟨ds, hds, hl, p⟩ s dv => ?_⟩
  rw [q0] at hds
  cases hds
  have h3' := s.keep a _ h2 h3
  refine ⟨a, vs, v, rfl, rfl, h3', Nat.lt_of_lt_of_le (by rw [h4.length]; exact hl) (by decide), ?_⟩
  exact k.nx _ _ _ _ ((r.step s).mut (d' := .lst (ds0 ++ [d])) h3' (.inl rfl) q0 h1 ⟨_, upd_same, (h4.mono s.grow).append (.cons dv .nil)⟩) p
theorem ds_ext {i : Nat} {x : Str} (ha : PE X e (liF C te)) (hN : X.N[i]? = some x := by rfl) (hv : Vis X.env.scope x := by first | exact Or.inl rfl | exact Or.inr (Or.inl rfl) | exact Or.inr (Or.inr rfl)) (hd : (x == ("__debug__" : Str)) = false := by decide) (hcd : (x == ("__classdict__" : Str)) = false := by decide)
    (hbase : attributeBase (.Name x p) "extend" X.env (eval (.Name x p) X.env) = eval (.Name x p) X.env := by rfl) (hline : (apos.endLine == cpos.line) = true := by rfl) (hs : swapsWith (.Call (.Attribute (.Name x p) "extend" apos) [e] [] cpos) none pos.line X.env = pure false := by rfl)
    (hst : starEach [e] X.env = [(false, eval e X.env)] := by rfl)
    (hfew : ((backTo cpos (starEach [e] X.env)).all (fun x => !x.1) && (backToKw cpos (keywordEach [] X.env)).all (fun x => x.1.isSome) && decide ([e].length + ([] : List Keyword).length + (if ([] : List Keyword).isEmpty then 0 else 1) < 30)) = true := by rfl) :
    PS X (.Expr (.Call (.Attribute (.Name x p) "extend" apos) [e] [] cpos) pos) (liS C (fun E ρ => (∃ ds, ρ[i]? = some (some (Slot.own (.lst ds)))) ∧ dExt i te E ρ)) := by
  refine PS.to (ps_expr (pe_bm PySem.F.plainAttrs_list PySem.F.slot_list_extend PySem.F.type_list_extend mt_extend (pe_var hN hv hd hcd) (pa_cons ha pa_nil hst) hbase hfew hline hst rfl) hs) fun Z σ H ⟨pn, G, ρ, E, r, ⟨⟨ds0, q0⟩, t⟩, k⟩ => ?_
  obtain ⟨a, vs, h1, h2, h3, h4⟩ := r.ownL q0
  refine ⟨.ref a, h1, .inl ⟨rfl, vs, .inl (.inl h3)⟩, pn, G, ρ, _, r, t, fun d b S' H' ⟨ds, es, ed, hds, hl, p⟩ s hS hH o => ?_⟩
  rw [q0] at hds
  cases hds
  subst ed
  obtain ⟨ws, hb, hw⟩ := o
  have h3' := s.keep a _ h2 h3
  refine ⟨a, b, vs, ws, rfl, rfl, h3', hb, Nat.le_of_lt (Nat.lt_of_lt_of_le (by rw [h4.length, hw.length]; exact hl) (by decide)), ?_⟩
  exact k.nx _ _ _ _ ((r.step s).mut (d' := .lst (ds0 ++ es)) h3' (.inl rfl) q0 h1 ⟨_, upd_same, (h4.mono s.grow).append hw⟩) p
end

/-! ### what is walked: a list or tuple, a range, zip -/
def itemsOf : D → Option (List D)
  | .lst ds => some ds
  | .tup ds => some ds
  | _ => none
def diSeq (te : DE) : DI := fun ρ P => te ρ fun d => oP (itemsOf d) P
def iSeq (K : PySem.W.Frag) (tl : TE) : TI := fun σ H R => tl σ H fun x H1 => ∃ a, x = .ref a ∧ (((∃ xs, SqL K H1 a xs) ∧ R (Itl K a) H1) ∨ ((∃ xs, SqT K H1 a xs) ∧ R (Itt K a) H1))
section
variable {X : Cx} {C : Ctx} {tg e : Expr} {te : DE} {pos p : Pos}
theorem fp1 {pins : List (Addr × Obj)} {σ : L2.St} {H : Hp} {s : Shared} (I : Inv X pins σ H s) (b : Addr) (hb : b ∈ [s.heap.objs.size]) : FpOk X pins H b := by
  rw [List.mem_singleton] at hb
  rw [hb]
  exact I.fpOk (Nat.le_refl _) (I.hok.fresh (Nat.le_refl _))
theorem pi_seq {tl : TE} (h : PE X e tl) : PI X tg e (iSeq X.K tl) := ⟨fun pins s σ H R I h0 => thn (h.run pins s σ H _ I h0) fun v s1 ⟨x, H1, I1, rx, a, ea, q⟩ => by
  subst ea
  cases rx
  rcases q with ⟨⟨xs, hx⟩, q⟩ | ⟨⟨xs, hx⟩, q⟩
  · obtain ⟨us, _, pl, _⟩ := I1.list hx
    exact wpAny_pyIter_list pl.isList ⟨_, [s1.heap.objs.size], _, _, H1, rfl, I1.kept (t' := s1.toks) fun _ _ z => Heap.get?_push_of_some _ z, turn_list a _, ⟨_, Heap.get?_push_size _ rfl, rfl, rfl⟩, fp1 I1, q⟩
  · obtain ⟨us, _, pt, _⟩ := I1.tuple hx
    have pt' : s1.heap.IsTuple a us.toArray := pt
    exact wpAny_pyIter_tuple pt' ⟨_, [s1.heap.objs.size], _, _, H1, rfl, I1.kept (t' := s1.toks) fun _ _ z => Heap.get?_push_of_some _ z, turn_tuple a _, ⟨_, Heap.get?_push_size _ rfl, rfl, rfl⟩, fp1 I1, q⟩⟩
theorem DV.l {C : CK} {S : Hp} {a : Addr} {ds : List D} (h : DV C S (.ref a) (.lst ds)) : ∃ xs, SqL C.K S a xs ∧ DVs C S xs ds := by
  cases h with
  | lst h1 h2 => exact ⟨_, .inl (.inl h1), h2⟩
theorem DV.t {C : CK} {S : Hp} {a : Addr} {ds : List D} (h : DV C S (.ref a) (.tup ds)) : ∃ xs, SqT C.K S a xs ∧ DVs C S xs ds := by
  cases h with
  | tup h1 hn h2 => exact ⟨_, frz_t h1, h2⟩
theorem itl_ok {C : CK} {a : Addr} {ds : List D} : ItOk C (Itl C.K a) ds [(.ref a, .lst ds)] where
  go := fun S H i e hv hi => by
    obtain ⟨xs, h1, h2⟩ := (hv (V.ref a, D.lst ds) (by simp)).l
    have : i < xs.length := by rw [h2.length]; exact hi
    exact ⟨xs, xs[i], e.l h1, by simp [this]⟩
  stop := fun S H i e hv hi => by
    obtain ⟨xs, h1, h2⟩ := (hv (V.ref a, D.lst ds) (by simp)).l
    exact ⟨xs, e.l h1, by rw [h2.length]; exact hi⟩
  yld := fun S H i v H3 e hv hi y => by
    obtain ⟨xs, h1, h2⟩ := (hv (V.ref a, D.lst ds) (by simp)).l
    obtain ⟨y1, y2⟩ := y
    subst y1
    obtain ⟨d, q1, q2⟩ := h2.get (y2 xs (e.l h1))
    exact ⟨_, d, New.refl _, q1, q2.shr⟩
theorem itt_ok {C : CK} {a : Addr} {ds : List D} : ItOk C (Itt C.K a) ds [(.ref a, .tup ds)] where
  go := fun S H i e hv hi => by
    obtain ⟨xs, h1, h2⟩ := (hv (V.ref a, D.tup ds) (by simp)).t
    have : i < xs.length := by rw [h2.length]; exact hi
    exact ⟨xs, xs[i], e.t h1, by simp [this]⟩
  stop := fun S H i e hv hi => by
    obtain ⟨xs, h1, h2⟩ := (hv (V.ref a, D.tup ds) (by simp)).t
    exact ⟨xs, e.t h1, by rw [h2.length]; exact hi⟩
  yld := fun S H i v H3 e hv hi y => by
    obtain ⟨xs, h1, h2⟩ := (hv (V.ref a, D.tup ds) (by simp)).t
    obtain ⟨y1, y2⟩ := y
    subst y1
    obtain ⟨d, q1, q2⟩ := h2.get (y2 xs (e.t h1))
    exact ⟨_, d, New.refl _, q1, q2.shr⟩
theorem PI.to {X : Cx} {tg e : Expr} {t t' : TI} (h : PI X tg e t) (k : ∀ σ H R, t' σ H R → t σ H R) : PI X tg e t' := ⟨fun pins s σ H Q I q => h.run pins s σ H Q I (k σ H Q q)⟩
theorem di_seq (hX : Fits C X) (h : PE X e (liE C te)) : PI X tg e (liI C (diSeq te)) := PI.to (pi_seq h) fun σ H R ⟨pn, G, ρ, P, r, t, k⟩ => ⟨pn, G, ρ, _, r, t, fun d v S' H' ⟨xs, hx, p⟩ s dv => by
  rw [hX.K]
  cases dv with
  | lst h1 h2 =>
    cases hx
    exact ⟨_, rfl, .inl ⟨⟨_, s.exH.l (SqL.of h1)⟩, k _ _ _ _ [(_, _)] p s (fun q hq => by rw [List.mem_singleton.mp hq]; exact .lst h1 h2) itl_ok⟩⟩
  | tup h1 hn h2 =>
    cases hx
    exact ⟨_, rfl, .inr ⟨⟨_, s.exH.t (frz_t h1)⟩, k _ _ _ _ [(_, _)] p s (fun q hq => by rw [List.mem_singleton.mp hq]; exact .tup h1 hn h2) itt_ok⟩⟩
  | _ => cases hx⟩
/-- range(n) -/
def rangeD (n : Int) : List D := (List.range n.toNat).map fun (i : Nat) => .int (i : Int)
def rangeD2 (lo hi : Int) : List D := (List.range (hi - lo).toNat).map fun (i : Nat) => .int (lo + (i : Int))
def diRange (ta : DA) : DI := fun ρ P => ta ρ fun ds => ∃ n, ds = [.int n] ∧ -1000000 ≤ n ∧ n ≤ 1000000 ∧ P (rangeD n)
theorem itr_ok {C : CK} {n : Nat} : ItOk C (Itr 0 n) ((List.range n).map fun (i : Nat) => .int (i : Int)) [] where
  go := fun S H i e hv hi => by
    show i < n
    simpa using hi
  stop := fun S H i e hv hi => by
    show n ≤ i
    simpa using hi
  yld := fun S H i v H3 e hv hi y => by
    obtain ⟨y1, y2⟩ := y
    subst y1; subst y2
    refine ⟨_, .int i, New.refl _, ?_, ?_⟩
    · have : i < n := by simpa using hi
      simp [this]
    · have e : (0 : Int) + (i : Int) = (i : Int) := Int.zero_add _
      rw [e]
      exact .int _
theorem di_range {ta : DA} (hg : Gl X "range") (hm : X.mg "range" = none) (ha : PA X [e] (liA C ta)) (hs : starEach [e] X.env = [(false, eval e X.env)] := by rfl) : PI X tg (.Call (.Name "range" p) [e] [] pos) (liI C (diRange ta)) :=
  PI.to (pi_range1 hg hm ha hs) fun σ H R ⟨pn, G, ρ, P, r, t, k⟩ => ⟨pn, G, ρ, _, r, t, fun ds vs S' H' ⟨n, e, h1, h2, p⟩ s dv => by
    subst e
    cases dv with
    | cons dv dvs =>
      cases dvs
      cases dv
      exact ⟨n, rfl, by omega, by omega, k _ _ S' H' [] p s (fun _ h => by cases h) itr_ok⟩⟩
end

/-! ### defs -/
abbrev GF := List D → (D → Prop) → (Str → Prop) → Prop
structure NewT (H H' N : Hp) : Prop where
  ex : Ex H H'
  new : ∀ a o, N a = some o → H' a = some o ∧ (H a = none ∨ isTup o = true)
def spD (C : CK) (g : GF) : Sp := fun vs H Q _ => ∃ ds P, DVs C H vs ds ∧ g ds P (fun _ => False) ∧ ∀ d v H' N, P d → NewT H H' N → DV C N v d → Q v H'
theorem NewT.step {C : Ctx} {pn : List (V × D)} {G : Gh} {ρ : R} {σ : L2.St} {H H' N : Hp} (r : Rep C pn G ρ σ H) (n : NewT H H' N) : Step G H (un G.S N) H' where
  keep := fun a o _ h => n.ex a o h
  grow := un_l
  sub := fun a o h => by
    rcases un_some h with z | z
    · exact ⟨n.ex a o (r.sub a o z).1, (r.sub a o z).2⟩
    · refine ⟨(n.new a o z).1, ?_⟩
      cases e : G.vol a with
      | false => rfl
      | true =>
        obtain ⟨u, h1, h2⟩ := (r.J.ex n.ex).vt e
        rw [(n.new a o z).1] at h1; cases h1
        rcases (n.new a _ z).2 with q | q
        · obtain ⟨u, h3, _⟩ := r.J.vt e
          rw [q] at h3; cases h3
        · rw [q] at h2; cases h2
  new := fun a o h => by
    rcases un_some h with z | z
    · exact .inl z
    · exact .inr (n.new a o z).2
  J := r.J.ex n.ex
def dCall (g : GF) (ta : DA) : DE := fun ρ P => ta ρ fun ds => g ds P fun _ => False
section
variable {X : Cx} {C : Ctx} {e : Expr} {es : List Expr} {tr tr2 : DA} {pos p : Pos} {k : Nat} {f : Addr} {fd : FuncData} {ps : List Str} {g : GF} {x : Str}
theorem de_call (hX : Fits C X) (F : FnOk X.prog X.w C.K C.mg X.base CX0 k f fd ps (spD C.ck g)) (hr : Room k X.A) (hm : C.mg x = some (.ref f)) (hk : PySem.W.keepIn C.K (.ref f) = true) (hb : Binds C.K fd ps []) (ha : PA X (e :: es) (liAB C tr)) (hg : Gl X x := by rfl)
    (hdb : (x == ("__debug__" : Str)) = false := by decide) (hs : starEach (e :: es) X.env = (false, eval e X.env) :: starEach es X.env := by rfl) (hpl : (backTo pos (starEach es X.env)).any (·.1) = false := by rfl) :
    PE X (.Call (.Name x p) (e :: es) [] pos) (liE C (dCall g tr)) := by
  rw [← hX.K] at hk hb
  rw [← hX.K, ← hX.mg] at F
  rw [← hX.mg] at hm
  refine PE.to (pe_call F hr hg hm hk hb (Paired.nil) pass0 ha hdb hs hpl) fun σ H Q ⟨pn, G, ρ, P, rp, t, q⟩ => ⟨pn, G, ρ, _, rp, t, fun ds vs S' H' p s dv => ?_⟩
  show spD C.ck g (vs ++ []) H' Q E0
  rw [List.append_nil]
  exact ⟨ds, P, dv.mono hid_le, p, fun d v H2 N pd n dn => q d v _ H2 pd (Step.trans rp s (NewT.step (rp.step s) n)) (dn.mono (un_r (H := H2) (s.exH.trans n.ex) fun a o z => (n.new a o z).1))⟩
end
def startD (N : List Str) (ds : List D) : R := ds.map (fun d => some (.sh d)) ++ List.replicate (N.length - ds.length) none
theorem start_rep {C : CK} {H : Hp} {N : List Str} {vs : List V} {ds : List D} (h : DVs C H vs ds) : Rep { toCK := C, H0 := H, tb0 := none, T0 := [] } [] { S := H, tb := none, T := [] } (startD N ds) (L2.start N vs) H where
  sub := fun a o h => ⟨h, rfl⟩
  h0 := fun a o _ h => h
  v0 := fun a h => by cases h
  v1 := fun a h => by cases h
  tb := fun h => absurd rfl h
  T := rfl
  J := ⟨fun t b h => (by cases h), fun p hp => (by cases hp)⟩
  pn := fun p hp => by cases hp
  sh := fun i d q => by
    unfold startD at q
    unfold L2.start
    by_cases hi : i < ds.length
    · rw [List.getElem?_append_left (by simpa using hi)] at q
      rw [List.getElem?_append_left (by simp; rw [h.length]; exact hi)]
      have q2 : ds[i]? = some d := by
        rw [List.getElem?_map] at q
        cases e : ds[i]? with
        | none => rw [e] at q; cases q
        | some d' => rw [e] at q; simp at q; rw [q]
      obtain ⟨v, h1, h2⟩ := h.getD q2
      exact ⟨v, by rw [List.getElem?_map, h1]; rfl, h2⟩
    · rw [List.getElem?_append_right (by simpa using hi)] at q
      rw [List.getElem?_replicate] at q
      split at q <;> cases q
  own := fun i d q => by
    exfalso
    unfold startD at q
    by_cases hi : i < ds.length
    · rw [List.getElem?_append_left (by simpa using hi), List.getElem?_map] at q
      cases e : ds[i]? with
      | none => rw [e] at q; cases q
      | some d' => rw [e] at q; simp at q
    · rw [List.getElem?_append_right (by simpa using hi), List.getElem?_replicate] at q
      split at q <;> cases q
  inj := fun i j d e a q _ _ _ => by
    exfalso
    unfold startD at q
    by_cases hi : i < ds.length
    · rw [List.getElem?_append_left (by simpa using hi), List.getElem?_map] at q
      cases e : ds[i]? with
      | none => rw [e] at q; cases q
      | some d' => rw [e] at q; simp at q
    · rw [List.getElem?_append_right (by simpa using hi), List.getElem?_replicate] at q
      split at q <;> cases q
  town := fun i q => by
    exfalso
    unfold startD at q
    by_cases hi : i < ds.length
    · rw [List.getElem?_append_left (by simpa using hi), List.getElem?_map] at q
      cases e : ds[i]? with
      | none => rw [e] at q; cases q
      | some d' => rw [e] at q; simp at q
    · rw [List.getElem?_append_right (by simpa using hi), List.getElem?_replicate] at q
      split at q <;> cases q
  len := by
    unfold startD L2.start
    rw [List.length_append, List.length_append, List.length_map, List.length_map, List.length_replicate, List.length_replicate, h.length]
end WH

set_option Elab.async false
set_option linter.all false
set_option maxRecDepth 100000
set_option maxHeartbeats 4000000
namespace WH
open PySem L2 PyProof.Rows

/-! ### plain data, as == takes it -/
mutual
def toPy : D → PyData
  | .non => .none
  | .bl b => .bool b
  | .int i => .int i
  | .str s => .str s
  | .tup ds => .tuple (toPys ds)
  | .lst ds => .list (toPys ds)
  | .dct _ => .none
  | .fn _ => .none
  | .scr _ => .none
  | .cell _ => .none
  | .pr _ => .none
def toPys : List D → List PyData
  | [] => []
  | d :: ds => toPy d :: toPys ds
end
theorem toPys_map : ∀ ds : List D, toPys ds = ds.map toPy
  | [] => rfl
  | d :: ds => by rw [toPys, toPys_map ds]; rfl
/-- plain, at most so deep -/
def plN : Nat → D → Bool
  | _, .non => true
  | _, .bl _ => true
  | _, .int _ => true
  | _, .str s => PyData.strOk s
  | n + 1, .tup ds => ds.all (plN n)
  | n + 1, .lst ds => ds.all (plN n)
  | _, _ => false
def eqB (d e : D) : Bool := PyData.eqv (toPy d) (toPy e)
def eqD (d e : D) : Option Bool := if plN 6 d = true ∧ plN 6 e = true then some (eqB d e) else none
def neD (d e : D) : Option Bool := if plN 6 d = true ∧ plN 6 e = true then some (!eqB d e) else none
theorem canLayAll_map : ∀ ps : List PyData, PyData.canLayAll0 ps = ps.all PyData.canLay0
  | [] => by rw [PyData.canLayAll0]; rfl
  | p :: ps => by rw [PyData.canLayAll0, canLayAll_map ps]; rfl
theorem depthAll_le {n : Nat} : ∀ ps : List PyData, (∀ p ∈ ps, PyData.depth p ≤ n) → PyData.depthAll ps ≤ n
  | [], _ => by rw [PyData.depthAll]; exact Nat.zero_le _
  | p :: ps, h => by
    rw [PyData.depthAll]
    exact Nat.max_le.mpr ⟨h p (by simp), depthAll_le ps fun q hq => h q (by simp [hq])⟩
theorem plN_ok : ∀ (n : Nat) (d : D), plN n d = true → PyData.canLay0 (toPy d) = true ∧ PyData.depth (toPy d) ≤ n
  | n, .non, _ => by simp [toPy, PyData.canLay0, PyData.depth]
  | n, .bl _, _ => by simp [toPy, PyData.canLay0, PyData.depth]
  | n, .int _, _ => by simp [toPy, PyData.canLay0, PyData.depth]
  | n, .str s, h => by
    have h' : PyData.strOk s = true := by cases n <;> exact h
    simp [toPy, PyData.canLay0, PyData.depth, h']
  | 0, .tup _, h => by simp [plN] at h
  | 0, .lst _, h => by simp [plN] at h
  | n + 1, .tup ds, h => by
    have hall : ∀ d ∈ ds, plN n d = true := by simpa [plN] using h
    rw [toPy, PyData.canLay0, PyData.depth, toPys_map, canLayAll_map, List.all_map]
    refine ⟨List.all_eq_true.mpr fun d hd => (plN_ok n d (hall d hd)).1, Nat.succ_le_succ (depthAll_le _ fun p hp => ?_)⟩
    obtain ⟨d, hd, rfl⟩ := List.mem_map.mp hp
    exact (plN_ok n d (hall d hd)).2
  | n + 1, .lst ds, h => by
    have hall : ∀ d ∈ ds, plN n d = true := by simpa [plN] using h
    rw [toPy, PyData.canLay0, PyData.depth, toPys_map, canLayAll_map, List.all_map]
    refine ⟨List.all_eq_true.mpr fun d hd => (plN_ok n d (hall d hd)).1, Nat.succ_le_succ (depthAll_le _ fun p hp => ?_)⟩
    obtain ⟨d, hd, rfl⟩ := List.mem_map.mp hp
    exact (plN_ok n d (hall d hd)).2
  | n, .dct _, h => by cases n <;> simp [plN] at h
  | n, .fn _, h => by cases n <;> simp [plN] at h
  | n, .scr _, h => by cases n <;> simp [plN] at h
  | n, .cell _, h => by cases n <;> simp [plN] at h
  | n, .pr _, h => by cases n <;> simp [plN] at h
theorem plN_shaped {d : D} (h : plN 6 d = true) : SeqAt.shaped (toPy d) = true := by
  obtain ⟨h1, h2⟩ := plN_ok 6 d h
  unfold SeqAt.shaped
  rw [h1, Bool.true_and]
  exact decide_eq_true (Nat.le_trans h2 (by decide))
mutual
theorem DV.dp {C : CK} {S : Hp} : ∀ {n : Nat} {v : V} {d : D}, DV C S v d → plN n d = true → Dp C.K S v (toPy d)
  | _, _, _, .non, _ => by rw [toPy]; exact .non
  | _, _, _, .bl b, _ => by rw [toPy]; exact .bl b
  | _, _, _, .int i, _ => by rw [toPy]; exact .int i
  | _, _, _, .str x, _ => by rw [toPy]; exact .str x
  | 0, _, _, .tup _ _ _, p => by simp [plN] at p
  | n + 1, _, _, .tup h _ r, p => by rw [toPy]; exact .tup (frz_t h) (DVs.dp (n := n) r (by simpa [plN] using p))
  | 0, _, _, .lst _ _, p => by simp [plN] at p
  | n + 1, _, _, .lst h r, p => by rw [toPy]; exact .lst (SqL.of h) (DVs.dp (n := n) r (by simpa [plN] using p))
  | n, _, _, .dct _ _, p => by cases n <;> simp [plN] at p
  | n, _, _, .fn _, p => by cases n <;> simp [plN] at p
  | n, _, _, .scr _, p => by cases n <;> simp [plN] at p
  | n, _, _, .cell _, p => by cases n <;> simp [plN] at p
  | n, _, _, .pr _ _, p => by cases n <;> simp [plN] at p
theorem DVs.dp {C : CK} {S : Hp} : ∀ {n : Nat} {vs : List V} {ds : List D}, DVs C S vs ds → (∀ d ∈ ds, plN n d = true) → DpAll C.K S vs (toPys ds)
  | _, _, _, .nil, _ => by rw [toPys]; exact .nil
  | n, _, _, .cons h r, p => by rw [toPys]; exact .cons (DV.dp h (p _ (by simp))) (DVs.dp r fun d hd => p d (by simp [hd]))
end

section
variable {X : Cx} {C : Ctx}
theorem cg_eq (hX : Fits C X) : CmpG C eqD (rEqD X.K) := fun H x y d e z Q h1 h2 hz q => by
  unfold eqD at hz
  split at hz
  · rename_i hp
    cases hz
    rw [hX.K]
    exact ⟨_, _, h1.dp hp.1, h2.dp hp.2, plN_shaped hp.1, plN_shaped hp.2, q⟩
  · cases hz
theorem cg_ne (hX : Fits C X) : CmpG C neD (rNeD X.K) := fun H x y d e z Q h1 h2 hz q => by
  unfold neD at hz
  split at hz
  · rename_i hp
    cases hz
    rw [hX.K]
    exact ⟨_, _, h1.dp hp.1, h2.dp hp.2, plN_shaped hp.1, plN_shaped hp.2, q⟩
  · cases hz
theorem or_eq (hX : Fits C X) : OpR X (compareOp .Eq) (rEqD X.K) := op_eqD (by have := hX.units; omega)
theorem or_ne (hX : Fits C X) : OpR X (compareOp .NotEq) (rNeD X.K) := op_neD (by have := hX.units; omega)

/-! ### ints compared -/
def cmpI (f : Int → Int → Bool) : D → D → Option Bool
  | .int i, .int j => some (f i j)
  | _, _ => none
theorem cg_int {f : Int → Int → Bool} : CmpG C (cmpI f) (rI0 fun i j => .bl (f i j)) := fun H x y d e z Q h1 h2 hz q => by
  cases h1 <;> cases h2 <;> first
    | (cases hz; exact ⟨_, _, rfl, rfl, q⟩)
    | (cases hz)
abbrev leD := cmpI fun i j => decide (i ≤ j)
abbrev ltD := cmpI fun i j => decide (i < j)
abbrev gtD := cmpI fun i j => decide (j < i)
abbrev geD := cmpI fun i j => decide (j ≤ i)
/-- is None -/
def isN : D → D → Option Bool
  | .non, .non => some true
  | _, .non => some false
  | _, _ => none
def notN : D → D → Option Bool
  | .non, .non => some false
  | _, .non => some true
  | _, _ => none
theorem cg_isN : CmpG C isN (fun x y H Q => y = .non ∧ Q (.bl (decide (x = .non))) H) := fun H x y d e z Q h1 h2 hz q => by
  cases h2 <;> first
    | (refine ⟨rfl, ?_⟩
       cases h1 <;> (cases hz; simpa using q))
    | (cases d <;> cases hz)
theorem cg_notN : CmpG C notN (fun x y H Q => y = .non ∧ Q (.bl (!decide (x = .non))) H) := fun H x y d e z Q h1 h2 hz q => by
  cases h2 <;> first
    | (refine ⟨rfl, ?_⟩
       cases h1 <;> (cases hz; simpa using q))
    | (cases d <;> cases hz)

/-! ### in -/
def inDD : D → D → Option Bool
  | d, .lst ds => if plN 6 d = true ∧ ds.all (plN 5) = true then some (ds.any fun z => eqB z d) else none
  | d, .tup ds => if plN 6 d = true ∧ ds.all (plN 5) = true then some (ds.any fun z => eqB z d) else none
  | _, _ => none
def notInDD (d e : D) : Option Bool := (inDD d e).map (!·)
def rInSq (K : PySem.W.Frag) (neg : Bool) : R2 := fun x y H Q => ∃ d ds, Dp K H x d ∧ (Dp K H y (.list ds) ∨ Dp K H y (.tuple ds)) ∧ SeqAt.shaped d = true ∧ SeqAt.shaped (.list ds) = true ∧ Q (.bl (if neg then !(ds.any fun z => PyData.eqv z d) else ds.any fun z => PyData.eqv z d)) H
theorem or_in (hX : Fits C X) : OpR X (compareOp .In) (rInSq X.K false) := fun pins s σ H x y v u Q I rx ry ⟨d, ds, hd, he, sd, se, q⟩ => by
  obtain ⟨as, r1⟩ := Dp.reads I d x v hd rx
  have hu := room_in_shaped (A := X.A) (xs := ds) sd hX.units
  rcases he with he | he
  · obtain ⟨bs, r2⟩ := Dp.reads I _ y u he ry
    exact SeqAt.in_list_reads r2 r1 (SeqAt.canLay_of_shaped se) (SeqAt.canLay_of_shaped sd) hu ⟨.bl _, H, I, rfl, q⟩
  · obtain ⟨bs, r2⟩ := Dp.reads I _ y u he ry
    exact SeqAt.in_tuple_reads r2 r1 (SeqAt.canLay_of_shaped se) (SeqAt.canLay_of_shaped sd) hu ⟨.bl _, H, I, rfl, q⟩
theorem or_notIn (hX : Fits C X) : OpR X (compareOp .NotIn) (rInSq X.K true) := fun pins s σ H x y v u Q I rx ry ⟨d, ds, hd, he, sd, se, q⟩ => by
  obtain ⟨as, r1⟩ := Dp.reads I d x v hd rx
  have hu := room_in_shaped (A := X.A) (xs := ds) sd hX.units
  rcases he with he | he
  · obtain ⟨bs, r2⟩ := Dp.reads I _ y u he ry
    exact SeqAt.notIn_list_reads r2 r1 (SeqAt.canLay_of_shaped se) (SeqAt.canLay_of_shaped sd) hu ⟨.bl _, H, I, rfl, q⟩
  · obtain ⟨bs, r2⟩ := Dp.reads I _ y u he ry
    exact SeqAt.notIn_tuple_reads r2 r1 (SeqAt.canLay_of_shaped se) (SeqAt.canLay_of_shaped sd) hu ⟨.bl _, H, I, rfl, q⟩
theorem plN_list {ds : List D} (h : ds.all (plN 5) = true) : SeqAt.shaped (.list (toPys ds)) = true := by
  have := plN_shaped (d := .lst ds) (by simpa [plN] using h)
  rw [toPy] at this
  exact this
theorem any_eqB (ds : List D) (d : D) : ((toPys ds).any fun z => PyData.eqv z (toPy d)) = ds.any fun z => eqB z d := by
  rw [toPys_map, List.any_map]
  rfl
theorem DV.seq {C : CK} {S : Hp} {v : V} {ds : List D} (h : DV C S v (.lst ds) ∨ DV C S v (.tup ds)) (p : ds.all (plN 5) = true) : Dp C.K S v (.list (toPys ds)) ∨ Dp C.K S v (.tuple (toPys ds)) := by
  rcases h with h | h
  · left
    have := h.dp (n := 6) (by simpa [plN] using p)
    rw [toPy] at this
    exact this
  · right
    have := h.dp (n := 6) (by simpa [plN] using p)
    rw [toPy] at this
    exact this
theorem cg_in (hX : Fits C X) : CmpG C inDD (rInSq X.K false) := fun H x y d e z Q h1 h2 hz q => by
  rw [hX.K]
  have key : ∀ ds, (DV C.ck H y (.lst ds) ∨ DV C.ck H y (.tup ds)) → (if plN 6 d = true ∧ ds.all (plN 5) = true then some (ds.any fun z => eqB z d) else none) = some z → rInSq C.K false x y H Q := fun ds hds hz => by
    split at hz
    · rename_i hp
      cases hz
      exact ⟨_, _, h1.dp hp.1, DV.seq hds hp.2, plN_shaped hp.1, plN_list hp.2, by rw [any_eqB]; exact q⟩
    · cases hz
  cases e <;> first
    | exact key _ (.inl h2) hz
    | exact key _ (.inr h2) hz
    | (cases hz)
theorem cg_notIn (hX : Fits C X) : CmpG C notInDD (rInSq X.K true) := fun H x y d e z Q h1 h2 hz q => by
  rw [hX.K]
  have key : ∀ ds, (DV C.ck H y (.lst ds) ∨ DV C.ck H y (.tup ds)) → ((if plN 6 d = true ∧ ds.all (plN 5) = true then some (ds.any fun z => eqB z d) else none).map (!·)) = some z → rInSq C.K true x y H Q := fun ds hds hz => by
    split at hz
    · rename_i hp
      cases hz
      exact ⟨_, _, h1.dp hp.1, DV.seq hds hp.2, plN_shaped hp.1, plN_list hp.2, by rw [any_eqB]; exact q⟩
    · cases hz
  unfold notInDD at hz
  cases e <;> first
    | exact key _ (.inl h2) hz
    | exact key _ (.inr h2) hz
    | (cases hz)

/-! ### isinstance of a built-in class -/
def isiD (T : String) : D → Option Bool
  | .non => some false
  | .bl _ => some (T == "int" || T == "bool")
  | .int _ => some (T == "int")
  | .str _ => some (T == "str")
  | .tup _ => some (T == "tuple")
  | .lst _ => some (T == "list")
  | .dct _ => none
  | .fn _ => none
  | .scr _ => none
  | .cell _ => none
  | .pr _ => none
def dIsi (T : String) (te : DE) : DE := fun ρ P => te ρ fun d => oP (isiD T d) fun b => P (.bl b)
theorem isi_ty {T : String} (hT : T = "int" ∨ T = "bool" ∨ T = "str" ∨ T = "tuple") {K : PySem.W.Frag} {mg : Str → Option Value} {H : Hp} {v : V} {d : D} {b : Bool} {P : Program} {w : World} (h : DV ⟨K, mg, P, w⟩ H v d) (e : isiD T d = some b) : ∃ t, TyX K H v t ∧ PySem.W.kitOne K t (.type T) = some b := by
  have fin : ∀ (t : String) (c : Bool), TyX K H v (.type t) → kitB t T = some c → some c = some b → ∃ t, TyX K H v t ∧ PySem.W.kitOne K t (.type T) = some b := fun t c h1 h2 h3 => by
    cases h3
    exact ⟨_, h1, kit_ty h2⟩
  rcases hT with rfl | rfl | rfl | rfl
  all_goals
    cases h with
    | non => exact fin "NoneType" false (.base .non) (by decide +kernel) e
    | bl x => exact fin "bool" _ (.base (.bl x)) (by decide +kernel) e
    | int x => exact fin "int" _ (.base (.int x)) (by decide +kernel) e
    | str x => exact fin "str" _ (.base (.str x)) (by decide +kernel) e
    | tup h1 _ _ => exact fin "tuple" _ (.fTuple h1) (by decide +kernel) e
    | lst h1 _ => exact fin "list" _ (.base (.lst h1)) (by decide +kernel) e
    | dct h1 _ => cases e
    | fn _ => cases e
    | scr _ => cases e
    | cell _ => cases e
    | pr _ _ => cases e
theorem de_isi {T : String} {y : Str} {e : Expr} {te : DE} {p q pos : Pos} (hX : Fits C X) (hT : T = "int" ∨ T = "bool" ∨ T = "str" ∨ T = "tuple") (he : PE X e (liB C te)) (hm : X.mg "isinstance" = none) (hmy : X.mg y = none) (hv : bootBuiltins y = some (.type T)) (hg : Gl X "isinstance" := by rfl) (hgy : Gl X y := by rfl) (hn : y ≠ "__name__" := by decide) (hdb : (y == ("__debug__" : Str)) = false := by decide)
    (hs : starEach [e, .Name y q] X.env = (false, eval e X.env) :: starEach [.Name y q] X.env := by rfl) (hs2 : starEach [.Name y q] X.env = (false, eval (.Name y q) X.env) :: starEach [] X.env := by rfl) (hpl : (backTo pos (starEach [.Name y q] X.env)).any (·.1) = false := by rfl) :
    PE X (.Call (.Name "isinstance" p) [e, .Name y q] [] pos) (liE C (dIsi T te)) := by
  refine PE.to (pe_callB call_isi hg hm (by decide +kernel) (pa_cons he (pa_cons (pe_bltn hgy hmy hv (show RelV (.ty T) _ from rfl) hn hdb) pa_nil hs2) hs) (by decide) (by decide) hs hpl) fun σ H Q ⟨pn, G, ρ, P, rp, t, k⟩ => ⟨pn, G, ρ, _, rp, t, fun d v S' H' ⟨b, hb, pb⟩ s dv => ?_⟩
  obtain ⟨ty, h1, h2⟩ := isi_ty hT (dv.mono hid_le) hb
  show rIsi X.K [v, .ty T] H' Q
  rw [hX.K]
  exact ⟨v, .ty T, ty, .type T, b, rfl, .ty T, h1, h2, k _ _ _ _ pb s (.bl b)⟩
end
end WH

set_option Elab.async false
set_option linter.all false
set_option maxRecDepth 100000
set_option maxHeartbeats 4000000
namespace WH
open PySem L2 PyProof.Rows
section
variable {X : Cx} {C : Ctx}
theorem DV.tX (hX : Fits C X) {S H : Hp} {v : V} {ds : List D} (e : Ex S H) (h : DV C.ck S v (.tup ds)) : ∃ a xs, v = .ref a ∧ SqT X.K H a xs ∧ DVs C.ck S xs ds := by
  cases h with
  | tup h1 hn h2 => exact ⟨_, _, rfl, e.t (frz_t h1), h2⟩
theorem DV.lX {S H : Hp} {v : V} {ds : List D} (e : Ex S H) (h : DV C.ck S v (.lst ds)) : ∃ a xs, v = .ref a ∧ H a = some (.lst xs) ∧ DVs C.ck S xs ds := by
  cases h with
  | lst h1 h2 => exact ⟨_, _, rfl, e _ _ h1, h2⟩
theorem DVs.nil_iff {C : CK} {S : Hp} {xs : List V} {ds : List D} (h : DVs C S xs ds) : xs = [] ↔ ds = [] := by
  cases h <;> simp

/-! ### + -/
def addD : D → D → Option D
  | .int i, .int j => some (.int (i + j))
  | .tup a, .tup b => if a.length + b.length ≤ 100000 then some (.tup (a ++ b)) else none
  | .lst a, .lst b => if a.length + b.length ≤ 100000 then some (.lst (a ++ b)) else none
  | .str a, .str b => if a.length + b.length ≤ 100000 then some (.str (a ++ b)) else none
  | _, _ => none
def rCatF (K : PySem.W.Frag) : R2 := fun x y H Q => ∃ a b xs ys, x = .ref a ∧ y = .ref b ∧ SqT K H a xs ∧ SqT K H b ys ∧ xs.length + ys.length ≤ sizeLine ∧
  (xs = [] → Q (.ref b) H) ∧ (xs ≠ [] → ys = [] → Q (.ref a) H) ∧ (xs ≠ [] → ys ≠ [] → ∀ p u, H p = none → u.dict = none → Q (.ref p) (upd H p (.frz u (.tup (xs ++ ys)))))
theorem op_catF : OpR X (binaryOp .Add) (rCatF X.K) := fun pins s σ H x y v u Q I rx ry ⟨a, b, xs, ys, ex, ey, ha, hb, hz, q0, q1, q2⟩ => by
  subst ex; subst ey
  cases rx
  cases ry
  obtain ⟨us, r1, p1, _⟩ := I.tuple ha
  obtain ⟨ws, r2, p2, _⟩ := I.tuple hb
  by_cases hx : xs = []
  · subst hx
    cases r1
    exact cat_tup0 p1 p2 ⟨.ref b, H, I, rfl, q0 rfl⟩
  · exact HT.cat_tup p1 p2 (fun z => hx (r1.nil_iff.mp z)) (fun z => ⟨.ref a, H, I, rfl, q1 hx (r2.nil_iff.mp z)⟩) (fun z => lay_tup I (r1.append r2) (by rw [List.length_append]; exact hz) (q2 hx fun w => z (r2.nil_iff.mpr w))) (by rw [← r1.length, ← r2.length]; exact hz)
def rAddA (K : PySem.W.Frag) : R2 := fun x y H Q => rI0 (fun i j => .int (i + j)) x y H Q ∨ rCatF K x y H Q ∨ rCat x y H Q ∨ (∃ i j, x = .str i ∧ y = .str j ∧ i.length + j.length ≤ sizeLine ∧ Q (.str (i ++ j)) H)
theorem or_add : OpR X (binaryOp .Add) (rAddA X.K) := op_add.or (op_catF.or (op_cat.or op_add_str))
theorem sz5 {n : Nat} (h : n ≤ 100000) : n ≤ sizeLine := Nat.le_trans h (by decide)
theorem og_add (hX : Fits C X) : OpG C addD (rAddA X.K) := fun S H x y d e z Q eS h1 h2 hz q => by
  cases d <;> cases e <;> try (exfalso; revert hz; simp [addD]; done)
  · cases hz
    cases h1; cases h2
    exact .inl ⟨_, _, rfl, rfl, q.sc (.int _)⟩
  · simp only [addD] at hz
    split at hz
    · cases hz
      cases h1; cases h2
      exact .inr (.inr (.inr ⟨_, _, rfl, rfl, sz5 (by assumption), q.sc (.str _)⟩))
    · cases hz
  · rename_i da db
    simp only [addD] at hz
    split at hz
    · rename_i hl
      cases hz
      obtain ⟨a, xs, rfl, t1, d1⟩ := h1.tX hX eS
      obtain ⟨b, ys, rfl, t2, d2⟩ := h2.tX hX eS
      refine .inr (.inl ⟨a, b, xs, ys, rfl, rfl, t1, t2, by rw [d1.length, d2.length]; exact sz5 hl, fun hx => ?_, fun _ hy => ?_, fun _ _ => q.tup (d1.append d2) eS⟩)
      · have e := d1.nil_iff.mp hx
        subst e
        exact q.same h2
      · have e := d2.nil_iff.mp hy
        subst e
        rw [List.append_nil] at q
        exact q.same h1
    · cases hz
  · rename_i da db
    simp only [addD] at hz
    split at hz
    · rename_i hl
      cases hz
      obtain ⟨a, xs, rfl, t1, d1⟩ := h1.lX eS
      obtain ⟨b, ys, rfl, t2, d2⟩ := h2.lX eS
      exact .inr (.inr (.inl ⟨a, b, xs, ys, rfl, rfl, t1, t2, by rw [d1.length, d2.length]; exact sz5 hl, q.lst (d1.append d2) eS⟩))
    · cases hz

/-! ### -, *, //, % -/
def subD : D → D → Option D
  | .int i, .int j => some (.int (i - j))
  | _, _ => none
theorem og_sub : OpG C subD (rI0 fun i j => .int (i - j)) := fun S H x y d e z Q eS h1 h2 hz q => by
  cases d <;> cases e <;> first
    | (cases hz; cases h1; cases h2; exact ⟨_, _, rfl, rfl, q.sc (.int _)⟩)
    | (cases hz)
def mulD : D → D → Option D
  | .int i, .int j => if -1000000000000 < i ∧ i < 1000000000000 then some (.int (i * j)) else none
  | .tup a, .int k => if a ≠ [] ∧ 2 ≤ k ∧ k ≤ 1000 ∧ a.length ≤ 1000 then some (.tup (List.replicate k.toNat a).flatten) else none
  | .lst a, .int k => if 0 ≤ k ∧ k ≤ 1000 ∧ a.length ≤ 1000 then some (.lst (List.replicate k.toNat a).flatten) else none
  | _, _ => none
def rRepF (K : PySem.W.Frag) : R2 := fun x y H Q => ∃ l k xs, x = .ref l ∧ y = .int k ∧ SqT K H l xs ∧ xs ≠ [] ∧ 2 ≤ k ∧ k ≤ 1000 ∧ xs.length ≤ 1000 ∧ ∀ p u, H p = none → u.dict = none → Q (.ref p) (upd H p (.frz u (.tup (List.replicate k.toNat xs).flatten)))
theorem rep_len {α : Type} (xs : List α) (k : Nat) : (List.replicate k xs).flatten.length = k * xs.length := by
  induction k with
  | zero => simp
  | succ k ih => rw [List.replicate_succ, List.flatten_cons, List.length_append, ih, Nat.succ_mul]; omega
theorem op_repF : OpR X (binaryOp .Mult) (rRepF X.K) := fun pins s σ H x y v u Q I rx ry ⟨l, k, xs, ex, ey, hT, hne, h1, h2, hz, q⟩ => by
  subst ex; subst ey
  cases rx
  obtain ⟨t, rfl⟩ := ry
  obtain ⟨us, r, ⟨⟨cl, dd, dt, sl⟩, ho, hc, n, hd⟩, _⟩ := I.tuple hT
  simp only at hc hd
  subst hc hd
  have hle : us.length = xs.length := r.length.symm
  have hi : us.toArray.isEmpty = false := by
    cases us with
    | nil => exact absurd (List.eq_nil_of_length_eq_zero hle.symm) hne
    | cons a b => rfl
  have hs0 : us.toArray.size = xs.length := by rw [List.size_toArray, hle]
  have hmul : k.toNat * xs.length ≤ 1000 * 1000 := Nat.mul_le_mul (by omega) hz
  have hm : ((us.toArray.size : Nat) : Int) * k ≤ 1000000 := by
    rw [hs0]
    have a1 : ((xs.length : Nat) : Int) * k ≤ 1000 * k := Int.mul_le_mul_of_nonneg_right (by omega) (by omega)
    omega
  have c0 : (decide (k < -(2 ^ 63)) || decide (k ≥ 2 ^ 63)) = false := by
    rw [decide_eq_false (by omega), decide_eq_false (by omega)] <;> rfl
  have c1 : (us.toArray.isEmpty || k == 1) = false := by rw [hi, Bool.false_or]; exact beq_eq_false_iff_ne.mpr (by omega)
  have c2 : (decide (k ≤ 0) || us.toArray.isEmpty) = false := by rw [hi, Bool.or_false]; exact decide_eq_false (by omega)
  have c4 : Builtin.Tuple.tupleTooMany (((us.toArray.size : Nat) : Int) * k) = false := by
    unfold Builtin.Tuple.tupleTooMany
    rw [sizeLine_eq]
    exact decide_eq_false (by omega)
  have fl : (List.replicate k.toNat us).flatten.length ≤ sizeLine := by rw [rep_len, hle, sizeLine_eq]; omega
  have go := call_meets (prog := X.prog) (w := X.w) (A := X.A) (E := X.xe) (s := s) (Q := EP X pins σ Q) F.slot_tuple_mul (show s.TypeIs (.ref l) "tuple" from ⟨_, ho, rfl⟩) F.entry_tuple_mul (F.args_tuple_mul_2 _ _) (tuple_mulW l us.toArray n dd sl k t c0 c1 c2 (by omega) c4 (by rw [size_rep, List.size_toArray]; exact fl)) ⟨ho, by
    rw [size_rep]
    exact lay_tup I (r.rep k.toNat) (by rw [rep_len, sizeLine_eq]; omega) q⟩
  exact wpAny_binaryOp_repeat_ref (T := "tuple") (U := "int") (by decide) ⟨_, ho, rfl⟩ (fun s' => typeIs_int s' k t) noFill_tuple_mul F.fills_int_mul F.slot_int_rmul repeat_tuple F.slot_int_index.lookup
    (call_meets F.slot_int_rmul (typeIs_int s k t) F.entry_int_rmul (F.args_int_rmul_2 _ _) (int_rmul_tuple k t l us.toArray n dd sl) ⟨ho, rfl, ⟨_, ho, rfl⟩, go⟩)
def rMulA (K : PySem.W.Frag) : R2 := fun x y H Q => rI CMul (fun i j => .int (i * j)) x y H Q ∨ rRepF K x y H Q ∨ rRep x y H Q
theorem or_mul : OpR X (binaryOp .Mult) (rMulA X.K) := op_mul.or (op_repF.or op_rep)
theorem DVs.rep {C : CK} {S : Hp} {xs : List V} {ds : List D} (h : DVs C S xs ds) : ∀ k : Nat, DVs C S (List.replicate k xs).flatten (List.replicate k ds).flatten
  | 0 => .nil
  | k + 1 => by
    rw [List.replicate_succ, List.replicate_succ, List.flatten_cons, List.flatten_cons]
    exact h.append (DVs.rep h k)
theorem og_mul (hX : Fits C X) : OpG C mulD (rMulA X.K) := fun S H x y d e z Q eS h1 h2 hz q => by
  cases d <;> cases e <;> try (exfalso; revert hz; simp [mulD]; done)
  · simp only [mulD] at hz
    split at hz
    · rename_i hl
      cases hz
      cases h1; cases h2
      exact .inl ⟨_, _, rfl, rfl, .inl ⟨by omega, by omega⟩, q.sc (.int _)⟩
    · cases hz
  · simp only [mulD] at hz
    split at hz
    · rename_i hl
      cases hz
      cases h2
      obtain ⟨a, xs, rfl, t1, d1⟩ := h1.tX hX eS
      exact .inr (.inl ⟨a, _, xs, rfl, rfl, t1, fun z => hl.1 (d1.nil_iff.mp z), hl.2.1, hl.2.2.1, by rw [d1.length]; exact hl.2.2.2, q.tup (d1.rep _) eS⟩)
    · cases hz
  · rename_i da kk
    simp only [mulD] at hz
    split at hz
    · rename_i hl
      cases hz
      cases h2
      obtain ⟨a, xs, rfl, t1, d1⟩ := h1.lX eS
      have hmul : xs.length * kk.toNat ≤ 1000 * 1000 := Nat.mul_le_mul (by rw [d1.length]; exact hl.2.2) (by omega)
      exact .inr (.inr ⟨a, _, xs, rfl, rfl, t1, by omega, by omega, by rw [sizeLine_eq]; omega, q.lst (d1.rep _) eS⟩)
    · cases hz
def modD : D → D → Option D
  | .int i, .int j => if 0 < j then some (.int (i % j)) else none
  | _, _ => none
theorem og_mod : OpG C modD (rI (fun _ j => 0 < j) fun i j => .int (i % j)) := fun S H x y d e z Q eS h1 h2 hz q => by
  cases d <;> cases e <;> try (exfalso; revert hz; simp [modD]; done)
  simp only [modD] at hz
  split at hz
  · cases hz
    cases h1; cases h2
    exact ⟨_, _, rfl, rfl, by assumption, q.sc (.int _)⟩
  · cases hz
def negD : D → Option D
  | .int i => some (.int (-i))
  | _ => none
theorem ug_neg : ∀ S H x d z Q, Ex S H → DV C.ck S x d → negD d = some z → Post C.ck S H z Q → (rU fun i => .int (-i)) x H Q := fun S H x d z Q eS h1 hz q => by
  cases d <;> first
    | (cases hz; cases h1; exact ⟨_, rfl, q.sc (.int _)⟩)
    | (cases hz)

/-! ### indices, slices -/
def ixD : D → D → Option D
  | .tup ds, .int i => atI ds i
  | .lst ds, .int i => atI ds i
  | .str s, .int i => if s.length ≤ 100000 then (atI s.cps.toList i).map fun c => .str ⟨#[c]⟩ else none
  | _, _ => none
theorem DVs.atI {C : CK} {S : Hp} {xs : List V} {ds : List D} {i : Int} {d : D} (h : DVs C S xs ds) (e : L2.atI ds i = some d) : ∃ v, L2.atI xs i = some v ∧ DV C S v d := by
  unfold L2.atI at e ⊢
  rw [h.length]
  cases q : ixN ds.length i with
  | none => rw [q] at e; cases e
  | some j =>
    rw [q] at e
    exact h.getD e
theorem og_ix (hX : Fits C X) : OpG C ixD (rIx X.K) := fun S H x y d e z Q eS h1 h2 hz q => by
  cases d <;> cases e <;> try (exfalso; revert hz; simp [ixD]; done)
  · simp only [ixD] at hz
    split at hz
    · cases h1; cases h2
      obtain ⟨c, e1, e2⟩ := Option.map_eq_some_iff.mp hz
      subst e2
      exact .inr (.inr ⟨_, _, c, rfl, rfl, sz5 (by assumption), e1, q.sc (.str _)⟩)
    · cases hz
  · obtain ⟨a, xs, rfl, t1, d1⟩ := h1.tX hX eS
    cases h2
    obtain ⟨v, e1, e2⟩ := d1.atI hz
    exact .inr (.inl ⟨_, _, _, _, rfl, rfl, t1, e1, q.same e2⟩)
  · obtain ⟨a, xs, rfl, t1, d1⟩ := h1.lX eS
    cases h2
    obtain ⟨v, e1, e2⟩ := d1.atI hz
    exact .inl ⟨_, _, _, _, rfl, rfl, SqL.of t1, e1, q.same e2⟩
def cutL {α : Type} (xs : List α) (lo hi : Option Int) : List α := (xs.drop (HT.sIx xs.length 0 lo)).take (HT.sIx xs.length xs.length hi - HT.sIx xs.length 0 lo)
def slD : D → Option Int → Option Int → Option D
  | .tup ds, lo, hi => some (.tup (cutL ds lo hi))
  | .lst ds, lo, hi => some (.lst (cutL ds lo hi))
  | .str s, lo, hi => if s.length ≤ 100000 then some (.str (cutS s lo hi)) else none
  | _, _, _ => none
theorem DVs.cut {C : CK} {S : Hp} {xs : List V} {ds : List D} (h : DVs C S xs ds) (lo hi : Option Int) : DVs C S (cutV xs lo hi) (cutL ds lo hi) := by
  unfold cutV cutL
  rw [h.length]
  exact (h.drop _).take _
def rSlF (K : PySem.W.Frag) : V → Option Int → Option Int → Hp → VK → Prop := fun x lo hi H Q => ∃ a xs, x = .ref a ∧ SqT K H a xs ∧
  (HT.sIx xs.length 0 lo = 0 ∧ HT.sIx xs.length xs.length hi = xs.length → Q (.ref a) H) ∧ (∀ p u, H p = none → u.dict = none → Q (.ref p) (upd H p (.frz u (.tup (cutV xs lo hi)))))
theorem sl_tupF : SlR X (rSlF X.K) := fun pins s σ H x v vl vu lo hi sl Q I rx hs pl pu ⟨a, xs, ex, hx, q1, q2⟩ => by
  subst ex
  cases rx
  obtain ⟨us, r, pt, hz⟩ := I.tuple hx
  have hl : us.toArray.size = xs.length := by rw [List.size_toArray]; exact r.length.symm
  refine ⟨"tuple", _, slot_tuple_getitem.lookup, pt.typeIs, ?_⟩
  by_cases hw : HT.sIx xs.length 0 lo = 0 ∧ HT.sIx xs.length xs.length hi = xs.length
  · exact getItem_tuple_whole pt hs pl pu (by rw [hl]; exact hw) ⟨.ref a, H, I, rfl, q1 hw⟩
  · refine HT.getItem_tuple_cut pt hs pl pu (by rw [hl]; exact hw) ?_ (by rw [hl]; exact hz)
    rw [hl]
    exact lay_tup I ((r.drop (HT.sIx xs.length 0 lo)).take (HT.sIx xs.length xs.length hi - HT.sIx xs.length 0 lo)) (Nat.le_trans (cutV_length xs lo hi) hz) q2
def rSlX (K : PySem.W.Frag) : V → Option Int → Option Int → Hp → VK → Prop := fun x lo hi H Q => rSlF K x lo hi H Q ∨ rSlL K x lo hi H Q ∨ rSlS x lo hi H Q
theorem sr_all : SlR X (rSlX X.K) := sl_tupF.or (sl_list.or sl_str)
theorem cutL_all {α : Type} {xs : List α} {lo hi : Option Int} (h : HT.sIx xs.length 0 lo = 0 ∧ HT.sIx xs.length xs.length hi = xs.length) : cutL xs lo hi = xs := by
  unfold cutL
  rw [h.1, h.2]
  simp
theorem sg_all (hX : Fits C X) : SlG C slD (rSlX X.K) := fun S H x d l h z Q eS h1 hz q => by
  cases d <;> try (exfalso; revert hz; simp [slD]; done)
  · simp only [slD] at hz
    split at hz
    · cases hz
      cases h1
      exact .inr (.inr ⟨_, rfl, sz5 (by assumption), q.sc (.str _)⟩)
    · cases hz
  · cases hz
    obtain ⟨a, xs, rfl, t1, d1⟩ := h1.tX hX eS
    refine .inl ⟨a, xs, rfl, t1, fun hw => ?_, q.tup (d1.cut l h) eS⟩
    rw [d1.length] at hw
    rw [cutL_all hw] at q
    exact q.same h1
  · cases hz
    obtain ⟨a, xs, rfl, t1, d1⟩ := h1.lX eS
    exact .inr (.inl ⟨a, xs, rfl, SqL.of t1, q.lst (d1.cut l h) eS⟩)

/-! ### len, all, any, max, min, abs, tuple, list -/
def lenD : List D → Option D
  | [.lst ds] => some (.int ds.length)
  | [.tup ds] => some (.int ds.length)
  | [.str s] => if s.length ≤ 100000 then some (.int s.length) else none
  | _ => none
def rLenA (K : PySem.W.Frag) : List V → Hp → VK → Prop := fun xs H Q => (∃ p ys, xs = [.ref p] ∧ (SqL K H p ys ∨ SqT K H p ys) ∧ Q (.int ys.length) H) ∨ ∃ z, xs = [.str z] ∧ z.length ≤ sizeLine ∧ Q (.int z.length) H
theorem cr_len : CallR X (.builtin "len") (rLenA X.K) := call_len_seq.or call_len_str
theorem dvs1 {C : CK} {S : Hp} {vs : List V} {d : D} (h : DVs C S vs [d]) : ∃ v, vs = [v] ∧ DV C S v d := by
  cases h with
  | cons h t => cases t; exact ⟨_, rfl, h⟩
theorem dvs2 {C : CK} {S : Hp} {vs : List V} {d e : D} (h : DVs C S vs [d, e]) : ∃ v w, vs = [v, w] ∧ DV C S v d ∧ DV C S w e := by
  cases h with
  | cons h t => obtain ⟨w, rfl, t1⟩ := dvs1 t; exact ⟨_, _, rfl, h, t1⟩
theorem dvs3 {C : CK} {S : Hp} {vs : List V} {d e f : D} (h : DVs C S vs [d, e, f]) : ∃ v w u, vs = [v, w, u] ∧ DV C S v d ∧ DV C S w e ∧ DV C S u f := by
  cases h with
  | cons h t => obtain ⟨w, u, rfl, t1, t2⟩ := dvs2 t; exact ⟨_, _, _, rfl, h, t1, t2⟩
theorem cs_len (hX : Fits C X) : CallS C lenD (rLenA X.K) := fun H vs ds z Q h hz => by
  unfold lenD at hz
  split at hz
  · cases hz
    obtain ⟨v, rfl, h1⟩ := dvs1 h
    obtain ⟨a, xs, rfl, t1, d1⟩ := h1.lX (Ex.refl _)
    exact ⟨rfl, fun q => .inl ⟨a, xs, rfl, .inl (SqL.of t1), by rw [d1.length]; exact q _ (.int _)⟩⟩
  · cases hz
    obtain ⟨v, rfl, h1⟩ := dvs1 h
    obtain ⟨a, xs, rfl, t1, d1⟩ := h1.tX hX (Ex.refl _)
    exact ⟨rfl, fun q => .inl ⟨a, xs, rfl, .inr t1, by rw [d1.length]; exact q _ (.int _)⟩⟩
  · split at hz
    · cases hz
      obtain ⟨v, rfl, h1⟩ := dvs1 h
      cases h1
      exact ⟨rfl, fun q => .inr ⟨_, rfl, sz5 (by assumption), q _ (.int _)⟩⟩
    · cases hz
  · cases hz
def asBs : List D → Option (List Bool)
  | [] => some []
  | .bl b :: ds => (asBs ds).map (b :: ·)
  | _ => none
theorem DVs.bls {C : CK} {S : Hp} : ∀ {vs : List V} {ds : List D} {bs : List Bool}, DVs C S vs ds → asBs ds = some bs → vs = bs.map V.bl
  | _, _, _, .nil, e => by cases e; rfl
  | _, _, _, .cons (d := d) h t, e => by
    cases d <;> try (exfalso; revert e; simp [asBs]; done)
    cases h
    simp only [asBs] at e
    obtain ⟨bs, e1, e2⟩ := Option.map_eq_some_iff.mp e
    subst e2
    rw [DVs.bls t e1]
    rfl
def allD : List D → Option D
  | [.lst ds] => (asBs ds).map fun bs => .bl (bs.all id)
  | _ => none
def anyD : List D → Option D
  | [.lst ds] => (asBs ds).map fun bs => .bl (bs.any id)
  | _ => none
theorem cs_all (hX : Fits C X) : CallS C allD (rAll X.K) := fun H vs ds z Q h hz => by
  unfold allD at hz
  split at hz
  · obtain ⟨bs, e1, e2⟩ := Option.map_eq_some_iff.mp hz
    subst e2
    obtain ⟨v, rfl, h1⟩ := dvs1 h
    obtain ⟨a, xs, rfl, t1, d1⟩ := h1.lX (Ex.refl _)
    rw [d1.bls e1] at t1
    exact ⟨rfl, fun q => ⟨a, bs, rfl, SqL.of t1, q _ (.bl _)⟩⟩
  · cases hz
theorem cs_any (hX : Fits C X) : CallS C anyD (rAny X.K) := fun H vs ds z Q h hz => by
  unfold anyD at hz
  split at hz
  · obtain ⟨bs, e1, e2⟩ := Option.map_eq_some_iff.mp hz
    subst e2
    obtain ⟨v, rfl, h1⟩ := dvs1 h
    obtain ⟨a, xs, rfl, t1, d1⟩ := h1.lX (Ex.refl _)
    rw [d1.bls e1] at t1
    exact ⟨rfl, fun q => ⟨a, bs, rfl, SqL.of t1, q _ (.bl _)⟩⟩
  · cases hz
def absD : List D → Option D
  | [.int i] => some (.int (if i < 0 then -i else i))
  | _ => none
theorem cs_abs : CallS C absD (fun xs H Q => ∃ i, xs = [.int i] ∧ Q (.int (if i < 0 then -i else i)) H) := fun H vs ds z Q h hz => by
  unfold absD at hz
  split at hz
  · cases hz
    obtain ⟨v, rfl, h1⟩ := dvs1 h
    cases h1
    exact ⟨rfl, fun q => ⟨_, rfl, q _ (.int _)⟩⟩
  · cases hz
def max2D : List D → Option D
  | [.int i, .int j] => some (.int (if j > i then j else i))
  | _ => none
def min2D : List D → Option D
  | [.int i, .int j] => some (.int (if j < i then j else i))
  | _ => none
theorem cs_max2 : CallS C max2D (fun xs H Q => ∃ i j, xs = [.int i, .int j] ∧ Q (.int (if j > i then j else i)) H) := fun H vs ds z Q h hz => by
  unfold max2D at hz
  split at hz
  · cases hz
    obtain ⟨v, w, rfl, h1, h2⟩ := dvs2 h
    cases h1; cases h2
    exact ⟨rfl, fun q => ⟨_, _, rfl, q _ (.int _)⟩⟩
  · cases hz
theorem cs_min2 : CallS C min2D (fun xs H Q => ∃ i j, xs = [.int i, .int j] ∧ Q (.int (if j < i then j else i)) H) := fun H vs ds z Q h hz => by
  unfold min2D at hz
  split at hz
  · cases hz
    obtain ⟨v, w, rfl, h1, h2⟩ := dvs2 h
    cases h1; cases h2
    exact ⟨rfl, fun q => ⟨_, _, rfl, q _ (.int _)⟩⟩
  · cases hz
def max3D : List D → Option D
  | [.int i, .int j, .int k] => some (.int (max (max i j) k))
  | _ => none
theorem cs_max3 : CallS C max3D (rNuC3 nuMax3) := fun H vs ds z Q h hz => by
  unfold max3D at hz
  split at hz
  · rename_i i j k
    cases hz
    obtain ⟨v, w, u, rfl, h1, h2, h3⟩ := dvs3 h
    cases h1; cases h2; cases h3
    refine ⟨rfl, fun q => ⟨_, _, _, .int (max (max i j) k), rfl, ?_, q _ (.int _)⟩⟩
    have key : ∀ a b : Int, nuMax2 (.int a) (.int b) = some (.int (max a b)) := fun a b => by
      show some (if decide (a < b) = true then V.int b else V.int a) = some (V.int (max a b))
      by_cases hab : a < b
      · rw [if_pos (decide_eq_true hab), Int.max_eq_right (by omega)]
      · rw [if_neg (by simpa using hab), Int.max_eq_left (by omega)]
    unfold nuMax3
    rw [key]
    exact key _ _
  · cases hz
def tupleD : List D → Option D
  | [.lst ds] => some (.tup ds)
  | [.tup ds] => some (.tup ds)
  | _ => none
def rTupF (K : PySem.W.Frag) : List V → Hp → VK → Prop := fun xs H Q => ∃ p ys, xs = [.ref p] ∧ ((SqL K H p ys ∧ ∀ l u, H l = none → u.dict = none → Q (.ref l) (upd H l (.frz u (.tup ys)))) ∨ (SqT K H p ys ∧ Q (.ref p) H))
theorem cr_tupF : CallR X (.type "tuple") (rTupF X.K) := fun pins s σ H xs us Q I r ⟨p, ys, ex, h⟩ => by
  subst ex
  obtain ⟨u, rfl, rx⟩ := vals1 r
  cases rx
  rcases h with ⟨hq, q⟩ | ⟨hq, q⟩
  · obtain ⟨ws, r2, pl, hz⟩ := I.list hq
    have hlen := r2.length
    refine call_tuple_list pl.isList (fun h' kp => ?_) (by rw [List.size_toArray]; omega)
    have I1 : L2.Inv X pins σ H { s with heap := h' } := I.kept (t' := s.toks) kp
    exact lay_tup I1 r2 hz q
  · obtain ⟨ws, _, pt, _⟩ := I.tuple hq
    exact call_tuple_same pt ⟨.ref p, H, I, rfl, q⟩
theorem cg_tup (hX : Fits C X) : CallG C tupleD (rTupF X.K) := fun S H vs ds z Q eS h hz q => by
  unfold tupleD at hz
  split at hz
  · cases hz
    obtain ⟨v, rfl, h1⟩ := dvs1 h
    obtain ⟨a, xs, rfl, t1, d1⟩ := h1.lX eS
    exact ⟨a, xs, rfl, .inl ⟨SqL.of t1, q.tup d1 eS⟩⟩
  · cases hz
    obtain ⟨v, rfl, h1⟩ := dvs1 h
    obtain ⟨a, xs, rfl, t1, d1⟩ := h1.tX hX eS
    exact ⟨a, xs, rfl, .inr ⟨t1, q.same h1⟩⟩
  · cases hz
def listD : List D → Option D
  | [.lst ds] => some (.lst ds)
  | [.tup ds] => some (.lst ds)
  | _ => none
theorem cg_list (hX : Fits C X) : CallG C listD (fun xs H Q => ∃ p ys, xs = [.ref p] ∧ (SqL X.K H p ys ∨ SqT X.K H p ys) ∧ ∀ l, H l = none → Q (.ref l) (upd H l (.lst ys))) := fun S H vs ds z Q eS h hz q => by
  unfold listD at hz
  split at hz
  · cases hz
    obtain ⟨v, rfl, h1⟩ := dvs1 h
    obtain ⟨a, xs, rfl, t1, d1⟩ := h1.lX eS
    exact ⟨a, xs, rfl, .inl (SqL.of t1), q.lst d1 eS⟩
  · cases hz
    obtain ⟨v, rfl, h1⟩ := dvs1 h
    obtain ⟨a, xs, rfl, t1, d1⟩ := h1.tX hX eS
    exact ⟨a, xs, rfl, .inr t1, q.lst d1 eS⟩
  · cases hz
end
end WH

set_option Elab.async false
set_option linter.all false
set_option maxRecDepth 100000
set_option maxHeartbeats 4000000
namespace WH
open PySem L2 PyProof.Rows

/-! ### t.count(x) -/
def countD : D → D → Option D
  | .tup ds, e => if plN 6 e = true ∧ ds.all (plN 5) = true then some (.int (ds.countP fun z => eqB z e : Nat)) else none
  | _, _ => none
def dCount (to te : DE) : DE := fun ρ P => to ρ fun d => ∃ ds, d = .tup ds ∧ te ρ fun e => oP (countD d e) P
section
variable {X : Cx} {C : Ctx} {o e : Expr} {to te : DE} {pos apos cpos p : Pos}
theorem de_count (hX : Fits C X) (ho : PE X o (liE C to)) (ha : PE X e (liE C te)) (hbase : attributeBase o "count" X.env (eval o X.env) = eval o X.env := by rfl)
    (hfew : ((backTo cpos (starEach [e] X.env)).all (fun x => !x.1) && (backToKw cpos (keywordEach [] X.env)).all (fun x => x.1.isSome) && decide ([e].length + ([] : List Keyword).length + (if ([] : List Keyword).isEmpty then 0 else 1) < 30)) = true := by rfl)
    (hline : (apos.endLine == cpos.line) = true := by rfl) (hst : starEach [e] X.env = (false, eval e X.env) :: starEach [] X.env := by rfl) : PE X (.Call (.Attribute o "count" apos) [e] [] cpos) (liE C (dCount to te)) := by
  refine ⟨fun pins s σ H Q I ⟨pn, G, ρ, P, rp, t, k⟩ => ?_⟩
  refine wpAny_Call_method_late hbase hfew hline rfl (thn (ho.run pins s σ H (fun v H1 => ∃ d S1, Step G H S1 H1 ∧ DV C.ck S1 v d ∧ ∃ ds, d = .tup ds ∧ te ρ fun e => oP (countD d e) P) I ⟨pn, G, ρ, _, rp, t, fun d v S' H' p s dv => ⟨d, S', s, dv, p⟩⟩) fun v s1 ⟨x, H1, I1, r1, d, S1, st1, dv, ds0, ed0, q⟩ => ?_)
  have key : ∀ (a : Addr) (u : Obj) (xs : List V) (ds : List D), x = .ref a → d = .tup ds → S1 a = some (.frz u (.tup xs)) → u.dict = none → DVs C.ck S1 xs ds → MethodOn X.prog X.w X.A "count" cpos v (backTo cpos (starEach [e] X.env)) (EP X pins σ Q) X.xe s1 := by
    intro a u xs ds ex ed hS hu dvs
    subst ex; subst ed
    cases r1
    obtain ⟨hget, hz, its, rv, hT⟩ := I1.hok a _ (st1.exH a _ hS)
    have hty : s1.TypeIs (.ref a) "tuple" := by
      obtain ⟨w, h1, h2, _⟩ := hT
      exact ⟨w, h1, h2⟩
    refine ⟨"tuple", _, F.plainAttrs_tuple, F.slot_tuple_count, F.type_tuple_count, hty, fun b eb => by cases eb; exact ⟨u, hget, hu⟩, ?_⟩
    rw [hst]
    refine Calls.callWith_builtin rfl (Calls.evalArgs_plain ?_)
    have hA := (pa_cons ha pa_nil hst).run cpos pins s1 σ H1 (fun vs H2 => ∃ e v S2, vs = [v] ∧ Step { G with S := S1 } H1 S2 H2 ∧ DV C.ck S2 v e ∧ oP (countD (.tup ds) e) P) I1 ⟨pn, { G with S := S1 }, ρ, _, rp.step st1, q, fun e v S' H' p s dv => ⟨e, v, S', rfl, s, dv, p⟩⟩
    rw [hst] at hA
    refine thn hA fun us s2 ⟨vs, H2, I2, r2, e', v', S2, ev, st2, dv2, z, hz2, pz⟩ => ?_
    subst ev
    obtain ⟨u2, rfl, ru⟩ := vals1 r2
    simp only [countD] at hz2
    split at hz2
    · rename_i hp
      cases hz2
      have dT : DV C.ck S2 (.ref a) (.tup ds) := (DV.tup hS hu dvs).mono st2.grow
      have p1 : plN 6 (.tup ds) = true := by simpa [plN] using hp.2
      have q1 := (dT.mono st2.exH).dp p1
      rw [toPy, ← hX.K] at q1
      have q2 := (dv2.mono st2.exH).dp hp.1
      rw [← hX.K] at q2
      obtain ⟨as, rd1⟩ := Dp.reads I2 _ _ _ q1 (show L2.RelV (.ref a) (.ref a) from rfl)
      obtain ⟨bs, rd2⟩ := Dp.reads I2 _ _ _ q2 ru
      have sh1 := plN_shaped p1
      rw [toPy] at sh1
      cases rd1 with
      | tuple g1 g2 g3 g4 =>
        refine PySem.SeqAt.count_tuple_data ⟨_, g1, g2, _, g3⟩ g4 rd2 ?_ (PyData.plain_of_canLay0 _ (plN_ok 6 _ hp.1).1) (room_in_shaped (plN_shaped hp.1) hX.units) ⟨.int _, H2, I2.tok _, ⟨_, rfl⟩, ?_⟩
        · have := PyData.plain_of_canLay0 _ (SeqAt.canLay_of_shaped sh1)
          simpa [PyData.plain] using this
        · have ec : (toPys ds).countP (fun y => PyData.eqv y (toPy e')) = ds.countP fun z => eqB z e' := by
            rw [toPys_map, List.countP_map]
            rfl
          rw [ec]
          exact k _ _ _ _ pz (Step.trans rp st1 st2) (.int _)
    · cases hz2
  subst ed0
  cases dv with
  | tup hS hu dvs => exact key _ _ _ _ rfl rfl hS hu dvs

/-! ### len(set(xs)), xs a list of tuples of ints -/
def asI : List D → Option (List Int)
  | [] => some []
  | .int i :: ds => (asI ds).map (i :: ·)
  | _ => none
def asT : List D → Option (List (List Int))
  | [] => some []
  | .tup ds :: r => (asI ds).bind fun k => (asT r).map (k :: ·)
  | _ => none
def dedup {α : Type} [DecidableEq α] : List α → List α
  | [] => []
  | x :: xs => if x ∈ xs then dedup xs else x :: dedup xs
theorem mem_dedup {α : Type} [DecidableEq α] {y : α} : ∀ {l : List α}, y ∈ dedup l ↔ y ∈ l
  | [] => by simp [dedup]
  | x :: xs => by
    unfold dedup
    by_cases h : x ∈ xs
    · rw [if_pos h, mem_dedup]
      constructor
      · intro z; simp [z]
      · intro z
        rcases List.mem_cons.mp z with z | z
        · rw [z]; exact h
        · exact z
    · rw [if_neg h, List.mem_cons, List.mem_cons, mem_dedup]
theorem nodup_dedup {α : Type} [DecidableEq α] : ∀ l : List α, (dedup l).Nodup
  | [] => by simp [dedup]
  | x :: xs => by
    unfold dedup
    by_cases h : x ∈ xs
    · rw [if_pos h]; exact nodup_dedup xs
    · rw [if_neg h]; exact List.nodup_cons.mpr ⟨fun z => h (mem_dedup.mp z), nodup_dedup xs⟩
def lenSetD : D → Option D
  | .lst ds => (asT ds).bind fun ks => if ks.length < 64 then some (.int ((dedup ks).length : Nat)) else none
  | _ => none
theorem DVs.ints {C : CK} {S : Hp} : ∀ {vs : List V} {ds : List D} {ns : List Int}, DVs C S vs ds → asI ds = some ns → vs = ns.map V.int
  | _, _, _, .nil, e => by cases e; rfl
  | _, _, _, .cons (d := d) h t, e => by
    cases d <;> try (exfalso; revert e; simp [asI]; done)
    cases h
    simp only [asI] at e
    obtain ⟨bs, e1, e2⟩ := Option.map_eq_some_iff.mp e
    subst e2
    rw [DVs.ints t e1]
    rfl
theorem DVs.tups {C : CK} {S : Hp} : ∀ {vs : List V} {ds : List D} {ks : List (List Int)}, DVs C S vs ds → asT ds = some ks → ∃ ps : List (Addr × List Int), ps.map (·.2) = ks ∧ vs = ps.map (fun p => V.ref p.1) ∧ ∀ p ∈ ps, SqT C.K S p.1 (p.2.map V.int)
  | _, _, _, .nil, e => by cases e; exact ⟨[], rfl, rfl, fun _ h => by cases h⟩
  | _, _, _, .cons (d := d) h t, e => by
    cases d <;> try (exfalso; revert e; simp [asT]; done)
    simp only [asT] at e
    obtain ⟨k, e1, e2⟩ := Option.bind_eq_some_iff.mp e
    obtain ⟨ks, e3, e4⟩ := Option.map_eq_some_iff.mp e2
    subst e4
    obtain ⟨ps, p1, p2, p3⟩ := DVs.tups t e3
    cases h with
    | tup h1 hn h2 =>
      refine ⟨(_, k) :: ps, by rw [List.map_cons, p1], by rw [List.map_cons, p2], fun p hp => ?_⟩
      rcases List.mem_cons.mp hp with z | z
      · subst z
        have := h2.ints e1
        rw [this] at h1
        exact frz_t h1
      · exact p3 p z
theorem nodup_len {α : Type} [BEq α] [LawfulBEq α] : ∀ {l m : List α}, l.Nodup → (∀ x ∈ l, x ∈ m) → l.length ≤ m.length
  | [], m, _, _ => Nat.zero_le _
  | x :: l, m, hn, hs => by
    have h1 : x ∈ m := hs x (by simp)
    have h2 : l.Nodup := (List.nodup_cons.mp hn).2
    have h3 : x ∉ l := (List.nodup_cons.mp hn).1
    have := nodup_len (l := l) (m := m.erase x) h2 fun y hy => by
      have hne : y ≠ x := fun z => h3 (z ▸ hy)
      exact (List.mem_erase_of_ne hne).mpr (hs y (by simp [hy]))
    rw [List.length_erase_of_mem h1] at this
    have hp : 0 < m.length := List.length_pos_of_mem h1
    simp only [List.length_cons]
    omega
def dLenSet (te : DE) : DE := fun ρ P => te ρ fun d => oP (lenSetD d) P
theorem de_lenSet {e : Expr} {te : DE} {p p2 q pos : Pos} (hX : Fits C X) (ha : PE X e (liE C te)) (hm : X.mg "len" = none) (hm2 : X.mg "set" = none) (hg : Gl X "len" := by rfl) (hg2 : Gl X "set" := by rfl) (na : starEach [e] X.env = (false, eval e X.env) :: starEach [] X.env := by rfl) :
    PE X (.Call (.Name "len" p) [.Call (.Name "set" p2) [e] [] q] [] pos) (liE C (dLenSet te)) := by
  refine ⟨fun pins s σ H Q I ⟨pn, G, ρ, P, rp, t, k⟩ => ?_⟩
  refine Call_ (ld_blt I hg hm PySem.boot_len (callWith_builtin1 (args_cons ?_ rfl) rfl rfl))
  refine Call_ (ld_blt I hg2 hm2 boot_set (callWith_type1 (args_cons (thn (ha.run pins s σ H (fun v H1 => ∃ d S1, Step G H S1 H1 ∧ DV C.ck S1 v d ∧ oP (lenSetD d) P) I ⟨pn, G, ρ, _, rp, t, fun d v S' H' p s dv => ⟨d, S', s, dv, p⟩⟩) fun v s1 ⟨x, H1, I1, r1, d, S1, st1, dv, z, hz, pz⟩ => args_nil ?_) na) na rfl))
  cases d <;> try (exfalso; revert hz; simp [lenSetD]; done)
  simp only [lenSetD] at hz
  obtain ⟨ks, e1, e2⟩ := Option.bind_eq_some_iff.mp hz
  split at e2
  · rename_i hlt
    cases e2
    cases dv with
    | lst hS dvs =>
      obtain ⟨ps, p1, p2, p3⟩ := dvs.tups e1
      cases r1
      have hl := st1.exH _ _ hS
      rw [p2] at hl
      obtain ⟨us, rv, pl, hzz⟩ := I1.list (SqL.of hl)
      have hlen : ps.length < 64 := by
        have := congrArg List.length p1
        rw [List.length_map] at this
        omega
      refine call_set_tups (P := X.prog) (w := X.w) ps (I1.ok.hd hX.calm) pl.isList (by simpa using refs_of_vals rv) (fun p hp => I1.isT (by rw [hX.K]; exact st1.exH.t (p3 p hp))) hlen (by have := hX.units; omega) fun h' tk L es ep tb R g kk => ?_
      refine args_nil ?_
      obtain ⟨ob, ho, hex, hd⟩ := R.ob
      have hsz : es.size = L.length := R.size (s := { s1 with heap := h', toks := tk })
      have hLn : L.length = (dedup ks).length := by
        have n1 : (L.map (·.2)).length ≤ (dedup ks).length := nodup_len R.nd fun y hy => by
          obtain ⟨w, hw, rfl⟩ := List.mem_map.mp hy
          rw [mem_dedup, ← p1]
          exact List.mem_map.mpr ⟨w, List.mem_of_mem_take (g.sub w hw), rfl⟩
        have n2 : (dedup ks).length ≤ (L.map (·.2)).length := nodup_len (nodup_dedup ks) fun y hy => by
          rw [mem_dedup, ← p1] at hy
          obtain ⟨w, hw, rfl⟩ := List.mem_map.mp hy
          exact g.all w (by rw [List.take_length]; exact hw)
        rw [List.length_map] at n1 n2
        omega
      have I2 : L2.Inv X pins σ H1 { s1 with heap := h', toks := tk } := I1.kept kk
      refine call_len_set ho hex hd (R.fits (s := { s1 with heap := h', toks := tk })) (by rw [hsz]; have := R.few; omega) ⟨.int (dedup ks).length, H1, I2.tok _, ⟨_, by rw [hsz, hLn]⟩, k _ _ _ _ pz st1 (.int _)⟩
  · cases e2
end
end WH

set_option Elab.async false
set_option linter.all false
set_option maxRecDepth 100000
set_option maxHeartbeats 4000000
namespace WH
open PySem L2 PyProof.Rows

/-! ### where one stands, with the program's own things -/
structure Fit (P0 : Program) (w0 : World) (K0 : PySem.W.Frag) (m0 : Str → Option Value) (b0 : Heap) (C : Ctx) (X : Cx) : Prop extends Fits C X where
  base : X.base = b0
  ck : C.toCK = ⟨K0, m0, P0, w0⟩
theorem Fit.blk {P : Program} {w : World} {K : PySem.W.Frag} {mg : Str → Option Value} {base : Heap} {C : Ctx} {X : Cx} (h : Fit P w K mg base C X) {s : Shared} {H : Hp} {scope : Scope} {cenv : Env} {fp : List Addr} : Fit P w K mg base C (X.blk s H scope cenv fp) := ⟨h.toFits.blk, h.base, h.ck⟩
theorem Fit.mg0 {P : Program} {w : World} {K : PySem.W.Frag} {mg : Str → Option Value} {base : Heap} {C : Ctx} {X : Cx} (h : Fit P w K mg base C X) {x : Str} {o : Option Value} (e : mg x = o) : X.mg x = o := by
  rw [h.toFits.mg, show C.mg = mg from congrArg CK.mg h.ck]
  exact e
/-- the built-ins' names are not the module's -/
structure Bl (mg : Str → Option Value) : Prop where
  len : mg "len" = none
  range : mg "range" = none
  isinstance : mg "isinstance" = none
  all : mg "all" = none
  any : mg "any" = none
  max : mg "max" = none
  min : mg "min" = none
  abs : mg "abs" = none
  tuple : mg "tuple" = none
  list : mg "list" = none
  set : mg "set" = none
  sorted : mg "sorted" = none
  int : mg "int" = none
  bool : mg "bool" = none
  str : mg "str" = none
  zip : mg "zip" = none
  sum : mg "sum" = none
  enumerate : mg "enumerate" = none
/-- a def of the program, by what it is worth -/
structure FN (P : Program) (w : World) (K : PySem.W.Frag) (mg : Str → Option Value) (base : Heap) (k : Nat) (x : Str) (ps : List Str) (kn : List Nat) (sp : Sp) : Prop where
  ex : ∃ f fd, FnOk P w K mg base CX0 k f fd ps sp ∧ mg x = some (.ref f) ∧ PySem.W.keepIn K (.ref f) = true ∧ Binds K fd ps [] ∧
    ∀ n, n ∈ kn → KBn K fd ps n (ps.drop n) (fun us ws => us ++ ws) (fun vs zs => vs ++ zs)
section
variable {P : Program} {w : World} {K : PySem.W.Frag} {mg : Str → Option Value} {base : Heap} {X : Cx} {C : Ctx} {e : Expr} {es : List Expr} {tr tr2 : DA} {pos p : Pos} {k : Nat} {ps : List Str} {kn : List Nat} {g : GF} {x : Str}
theorem fc_call (hX : Fit P w K mg base C X) (F : FN P w K mg base k x ps kn (spD ⟨K, mg, P, w⟩ g)) (hr : Room k X.A) (ha : PA X (e :: es) (liAB C tr)) (hg : Gl X x := by rfl)
    (hdb : (x == ("__debug__" : Str)) = false := by decide) (hs : starEach (e :: es) X.env = (false, eval e X.env) :: starEach es X.env := by rfl) (hpl : (backTo pos (starEach es X.env)).any (·.1) = false := by rfl) :
    PE X (.Call (.Name x p) (e :: es) [] pos) (liE C (dCall g tr)) := by
  obtain ⟨f, fd, F1, m, kp, b, _⟩ := F.ex
  obtain ⟨⟨hK, hM, hu, hc, hn, hP, hw⟩, rfl, hck⟩ := hX
  obtain ⟨⟨K', mg', P', w'⟩, H0, tb0, T0⟩ := C
  cases hck
  simp only at hP hw
  subst hP; subst hw
  exact de_call ⟨hK, hM, hu, hc, hn, rfl, rfl⟩ F1 hr m kp b ha hg hdb hs hpl
theorem PK.to {X : Cx} {e : List Keyword} {t t' : TA} (h : PK X e t) (k : ∀ σ H Q, t' σ H Q → t σ H Q) : PK X e t' := ⟨fun pos pins s σ H Q I q => h.run pos pins s σ H Q I (k σ H Q q)⟩
theorem dk0 : PK X [] (liAB C dNil) := PK.to pk_nil fun σ H Q ⟨pn, G, ρ, P, r, p, k⟩ => k [] [] G.S H p (Step.refl r) .nil
theorem dk1 {te : DE} {nm : Option Str} {kpos : Pos} {kws : List Keyword} (ha : PE X e (liB C te)) (hr : PK X kws (liAB C tr)) : PK X (⟨nm, e, kpos⟩ :: kws) (liAB C (dCons te tr)) :=
  PK.to (pk_cons ha hr) fun σ H Q ⟨pn, G, ρ, P, rp, t, k⟩ => ⟨pn, G, ρ, _, rp, t, fun x v S1 H1 p1 s1 d1 => ⟨pn, _, ρ, _, rp.step s1, p1, fun ds vs S2 H2 p2 s2 d2 => k _ _ S2 H2 p2 (Step.trans rp s1 s2) (.cons (d1.mono (hid_ex s2.keep)) d2)⟩⟩
/-- f(k = v, ..), every parameter in its turn -/
theorem pe_callN0 {CX : CXT} {E : XK} {sp : Sp} {f : Addr} {fd : FuncData} {ks : List Str} {g : List Value → List Value → List Value} {gV : List V → List V → List V} {kws : List Keyword} {tk : TA} (F : FnOk X.prog X.w X.K X.mg X.base CX k f fd ps sp) (hr : Room k X.A) (hg : Gl X x) (hm : X.mg x = some (.ref f)) (hk : PySem.W.keepIn X.K (.ref f) = true) (hb : KBn X.K fd ps 0 ks g gV) (hx : Passes CX X E)
    (hkw : PK X kws tk) (hall : (backToKw pos (keywordEach kws X.env)).all (·.1.isSome) = true := by rfl) (hks : (backToKw pos (keywordEach kws X.env)).filterMap (·.1) = ks := by rfl) (hdb : (x == ("__debug__" : Str)) = false := by decide)
    (hpl : ((backTo pos (starEach [] X.env)).any (·.1) || (backToKw pos (keywordEach kws X.env)).any (·.1.isNone)) = false := by rfl) : PE X (.Call (.Name x p) [] kws pos) (fun σ H Q => tk σ H fun zs H2 => zs.length = ks.length ∧ sp (gV [] zs) H2 Q E) :=
  ⟨fun pins s σ H Q I h => wpAny_Call_Name_kw (ld_glob I hg hm (PySem.W.callWith_KW0 (h₀ := X.base) I.ok.mod.kin hk hall (thn (hkw.run pos pins s σ H _ I h) fun ws s2 ⟨zs, H2, I2, rz, l2, q2⟩ => ⟨I2.kIn, by
    rw [hks]
    exact run_fnN F hr hb hx I2 .nil rz rfl l2 q2⟩) hpl) hdb)⟩
theorem fc_kw0 {kws : List Keyword} (hX : Fit P w K mg base C X) (F : FN P w K mg base k x ps kn (spD ⟨K, mg, P, w⟩ g)) (hr : Room k X.A) (ha : PK X kws (liAB C tr)) (hkn : 0 ∈ kn) (hlen : ∀ ds P E, g ds P E → ds.length = ps.length) (hg : Gl X x := by rfl)
    (hall : (backToKw pos (keywordEach kws X.env)).all (·.1.isSome) = true := by rfl) (hks : (backToKw pos (keywordEach kws X.env)).filterMap (·.1) = ps := by rfl) (hdb : (x == ("__debug__" : Str)) = false := by decide)
    (hpl : ((backTo pos (starEach [] X.env)).any (·.1) || (backToKw pos (keywordEach kws X.env)).any (·.1.isNone)) = false := by rfl) : PE X (.Call (.Name x p) [] kws pos) (liE C (dCall g tr)) := by
  obtain ⟨f, fd, F1, m, kp, _, kb⟩ := F.ex
  obtain ⟨⟨hK, hM, hu, hc, hn, hP, hw⟩, rfl, hck⟩ := hX
  obtain ⟨⟨K', mg', P', w'⟩, H0, tb0, T0⟩ := C
  cases hck
  simp only at hP hw
  subst hP; subst hw
  have kb0 := kb 0 hkn
  rw [List.drop_zero] at kb0
  simp only at hK hM
  rw [← hK] at kp kb0
  rw [← hK, ← hM] at F1
  rw [← hM] at m
  refine PE.to (pe_callN0 F1 hr hg m kp kb0 pass0 ha hall hks hdb hpl) fun σ H Q ⟨pn, G, ρ, P, rp, t, q⟩ => ⟨pn, G, ρ, _, rp, t, fun ds vs S' H' p s dv => ⟨by rw [dv.length]; exact hlen _ _ _ p, ?_⟩⟩
  show spD ⟨X.K, X.mg, X.prog, X.w⟩ g ([] ++ vs) H' Q E0
  rw [List.nil_append]
  refine ⟨ds, P, ?_, p, fun d v H2 N pd n dn => ?_⟩
  · rw [hK, hM]; exact dv.mono hid_le
  · rw [hK, hM] at dn
    exact q d v _ H2 pd (Step.trans rp s (NewT.step (rp.step s) n)) (dn.mono (un_r (H := H2) (s.exH.trans n.ex) fun a o z => (n.new a o z).1))
theorem dvs_app {C : CK} {S : Hp} {vs zs : List V} {ds es : List D} (h1 : DVs C S vs ds) (h2 : DVs C S zs es) : DVs C S (vs ++ zs) (ds ++ es) := h1.append h2
def dCallK (g : GF) (n : Nat) (ta tk : DA) : DE := fun ρ P => ta ρ fun ds => ds.length = n ∧ tk ρ fun es => g (ds ++ es) P fun _ => False
theorem fc_kw {n : Nat} {kws : List Keyword} (hX : Fit P w K mg base C X) (F : FN P w K mg base k x ps kn (spD ⟨K, mg, P, w⟩ g)) (hr : Room k X.A) (ha : PA X (e :: es) (liAB C tr)) (hkw : PK X kws (liAB C tr2)) (hkn : n ∈ kn) (hn : n ≤ ps.length) (hlen : ∀ ds P E, g ds P E → ds.length = ps.length) (hg : Gl X x := by rfl)
    (hall : (backToKw pos (keywordEach kws X.env)).all (·.1.isSome) = true := by rfl) (hks : (backToKw pos (keywordEach kws X.env)).filterMap (·.1) = ps.drop n := by rfl) (hdb : (x == ("__debug__" : Str)) = false := by decide) (he : starEach (e :: es) X.env = (false, eval e X.env) :: starEach es X.env := by rfl)
    (hpl : ((backTo pos (starEach (e :: es) X.env)).any (·.1) || (backToKw pos (keywordEach kws X.env)).any (·.1.isNone)) = false := by rfl) : PE X (.Call (.Name x p) (e :: es) kws pos) (liE C (dCallK g n tr tr2)) := by
  obtain ⟨f, fd, F1, m, kp, _, kb⟩ := F.ex
  obtain ⟨⟨hK, hM, hu, hc, hnd, hP, hw⟩, rfl, hck⟩ := hX
  obtain ⟨⟨K', mg', P', w'⟩, H0, tb0, T0⟩ := C
  cases hck
  simp only at hP hw
  subst hP; subst hw
  have kb0 := kb n hkn
  simp only at hK hM
  rw [← hK] at kp kb0
  rw [← hK, ← hM] at F1
  rw [← hM] at m
  refine PE.to (pe_callN F1 hr hg m kp kb0 pass0 ha hkw hall hks hdb he hpl) fun σ H Q ⟨pn, G, ρ, P, rp, t, q⟩ => ⟨pn, G, ρ, _, rp, t, fun ds vs S' H' ⟨hl, p⟩ s dv => ⟨pn, _, ρ, _, rp.step s, p, fun ds2 vs2 S2 H2 p2 s2 dv2 => ?_⟩⟩
  have l0 := hlen _ _ _ p2
  rw [List.length_append] at l0
  refine ⟨by rw [dv.length]; exact hl, by rw [dv2.length, List.length_drop]; omega, ds ++ ds2, P, ?_, p2, fun d v H3 N pd n dn => ?_⟩
  · rw [hK, hM]
    exact ((dv.mono (hid_ex s2.keep)).mono hid_le).append (dv2.mono hid_le)
  · rw [hK, hM] at dn
    have s12 := Step.trans rp s s2
    exact q d v _ H3 pd (Step.trans rp s12 (NewT.step (rp.step s12) n)) (dn.mono (un_r (H := H3) (s2.exH.trans n.ex) fun a o z => (n.new a o z).1))
end
/-- THE RULE for a quiet def, as the head tells it -/
theorem okF1 {P : Program} {w : World} {K : PySem.W.Frag} {mg : Str → Option Value} {base : Heap} {x : Str} {st : Stmt} {f : Addr} {fd : FuncData} {N ps : List Str} {k : Nat} {g : GF} {body : DS} (F : FunD K x x (defArgs st) (defBody st) (defScope st) [] [] f fd) (S : FnScope N ps (defScope st))
    (hlen : ∀ ds Q E, g ds Q E → ds.length = ps.length) (ht : ∀ ds Q, g ds Q (fun _ => False) → body { nx := fun _ => Q .non, rt := Q } (startD N ds))
    (hb : ∀ (C : Ctx) (cdv : Value) (A : Around) (outer : List Env) (s : Shared) (H : Hp) (E : XK), C.tb0 = none → C.T0 = [] → Fit P w K mg base C (cxOf CX0 P w K mg base N x (defScope st) f cdv A outer s H E).nox → Room k (cxOf CX0 P w K mg base N x (defScope st) f cdv A outer s H E).nox.A →
      PSs (cxOf CX0 P w K mg base N x (defScope st) f cdv A outer s H E).nox (defBody st) (liS C body)) :
    FnOk P w K mg base CX0 (k + 1) f fd ps (spD ⟨K, mg, P, w⟩ g) := by
  refine F.ok S (fun vs H Q E ⟨ds, P, h1, h2, _⟩ => by rw [h1.length]; exact hlen _ _ _ h2) fun cdv A outer s H vs Q E hr ⟨ds, P', h1, h2, h3⟩ => ?_
  refine ⟨_, PSs.nox (hb { toCK := ⟨K, mg, P, w⟩, H0 := H, tb0 := none, T0 := [] } cdv A outer s H E rfl rfl ⟨⟨rfl, rfl, ?_, rfl, S.nd, rfl, rfl⟩, rfl, rfl⟩ hr), ?_⟩
  · have := hr.un
    show (A.deeper (envOfC x (defScope st) s.heap.objs.size f cdv)).units + 65 < cLine
    omega
  · refine ⟨[], _, _, _, start_rep h1, ht ds P' h2, fun G ρ σ H' r p => ?_, fun G ρ σ H' r p => p.elim, fun G ρ σ H' r p => p.elim, fun G ρ σ H' d v N' r p n dv => ?_⟩
    · exact h3 .non .non H' (fun _ => none) p ⟨fun a o q => r.h0 a o rfl q, fun a o q => by cases q⟩ .non
    · exact h3 d v H' N' p ⟨fun a o q => r.h0 a o rfl q, fun a o q => n a o q⟩ dv
theorem okF {P : Program} {w : World} {K : PySem.W.Frag} {mg : Str → Option Value} {base : Heap} {x : Str} {st : Stmt} {f : Addr} {fd : FuncData} {N ps : List Str} {kn : List Nat} {k : Nat} {g : GF} {body : DS} (F : FunD K x x (defArgs st) (defBody st) (defScope st) [] [] f fd) (hm : mg x = some (.ref f)) (S : FnScope N ps (defScope st))
    (hb1 : ∀ (kV doc pm : Value) (an : Option Addr) (cdv ct : Value) (us : List Value), us.length = ps.length → bindArgs (PySem.W.fnOf x x (defArgs st) (defBody st) (defScope st) .none kV doc pm an cdv ct) ⟨us, []⟩ = pure (ps.zip us))
    (hb2 : ∀ (n : Nat), n ∈ kn → ∀ (kV doc pm : Value) (an : Option Addr) (cdv ct : Value) (us ws : List Value), us.length = n → ws.length = (ps.drop n).length → bindArgs (PySem.W.fnOf x x (defArgs st) (defBody st) (defScope st) .none kV doc pm an cdv ct) ⟨us, (ps.drop n).zip ws⟩ = pure (ps.zip (us ++ ws)))
    (hlen : ∀ ds Q E, g ds Q E → ds.length = ps.length) (ht : ∀ ds Q, g ds Q (fun _ => False) → body { nx := fun _ => Q .non, rt := Q } (startD N ds))
    (hb : ∀ (C : Ctx) (cdv : Value) (A : Around) (outer : List Env) (s : Shared) (H : Hp) (E : XK), C.tb0 = none → C.T0 = [] → Fit P w K mg base C (cxOf CX0 P w K mg base N x (defScope st) f cdv A outer s H E).nox → Room k (cxOf CX0 P w K mg base N x (defScope st) f cdv A outer s H E).nox.A →
      PSs (cxOf CX0 P w K mg base N x (defScope st) f cdv A outer s H E).nox (defBody st) (liS C body)) :
    FN P w K mg base (k + 1) x ps kn (spD ⟨K, mg, P, w⟩ g) := by
  refine ⟨f, fd, okF1 F S hlen ht hb, hm, F.kp, F.bindsN hb1, fun n hn => ?_⟩
  obtain ⟨oc, od, dV, kV, doc, pm, an, cdv, ct, osl, rfl, lk, hcd, hD, hK⟩ := F.ex
  rcases hD with ⟨_, rfl⟩ | ⟨e, _⟩
  · exact ⟨fun s us ws _ l1 l2 => .of_eq (hb2 n hn kV doc pm an cdv ct us ws l1 l2), fun r1 r2 => r1.append r2⟩
  · exact absurd rfl e

/-! ### list(range(n)) -/
section
variable {X : Cx} {C : Ctx} {e : Expr} {te : DE} {pos p p2 pos2 : Pos}
def dLstRg (te : DE) : DE := fun ρ P => te ρ fun d => ∃ n, d = .int n ∧ 0 ≤ n ∧ n ≤ 100000 ∧ P (.lst (rangeD n))
theorem dvs_rg {C : CK} {S : Hp} {n : Int} : DVs C S (rgV 0 n) (rangeD n) := by
  have key : ∀ l : List Nat, DVs C S (l.map fun (i : Nat) => V.int (0 + (i : Int))) (l.map fun (i : Nat) => .int (i : Int)) := fun l => by
    induction l with
    | nil => exact .nil
    | cons i l ih =>
      rw [List.map_cons, List.map_cons, Int.zero_add]
      exact .cons (.int _) ih
  unfold rgV rangeD
  rw [Int.sub_zero]
  exact key _
theorem de_lstRg (hX : Fits C X) (hm : X.mg "list" = none) (hm2 : X.mg "range" = none) (h : PE X e (liE C te)) (hg : Gl X "list" := by rfl) (hg2 : Gl X "range" := by rfl) (na : starEach [e] X.env = (false, eval e X.env) :: starEach [] X.env := by rfl)
    (na2 : starEach [.Call (.Name "range" p2) [e] [] pos2] X.env = (false, eval (.Call (.Name "range" p2) [e] [] pos2) X.env) :: starEach [] X.env := by rfl) : PE X (.Call (.Name "list" p) [.Call (.Name "range" p2) [e] [] pos2] [] pos) (liE C (dLstRg te)) :=
  PE.to (pe_listRg hX.calm hg hm (prg_1 hg2 hm2 h na) na2) fun σ H Q ⟨pn, G, ρ, P, rp, t, k⟩ => ⟨pn, G, ρ, _, rp, t, fun d v S' H' ⟨n, ed, h1, h2, pp⟩ s dv => by
    subst ed
    cases dv
    exact ⟨n, rfl, RgOk.of_le (by omega) (by omega) (by omega) h1, fun q hq => k _ _ _ _ pp (New.step2 rp s (New.one hq)) (new_lst dvs_rg hq s.exH)⟩⟩
end
end WH

set_option Elab.async false
set_option linter.all false
set_option maxRecDepth 100000
set_option maxHeartbeats 4000000
namespace WH
open PySem L2 PyProof.Rows

/-! ### defs that draw: their second argument is the drawing state -/
abbrev GT := List D → (D → Prop) → Prop
def volT (t b : Addr) : Addr → Bool := volOf (some (t, b)) []
structure NewB (t b : Addr) (H H' N : Hp) : Prop where
  ex : ∀ a o, volT t b a = false → H a = some o → H' a = some o
  town : TownAt t b H'
  new : ∀ a o, N a = some o → H' a = some o ∧ (H a = none ∨ isTup o = true)
def spT (C : CK) (g : GT) : Sp := fun vs H Q _ => ∃ t b v0 vr ds P, vs = v0 :: .ref t :: vr ∧ TownAt t b H ∧ DVs C (hid (volT t b) H) (v0 :: vr) ds ∧ g ds P ∧ ∀ d v H' N, P d → NewB t b H H' N → DV C N v d → Q v H'
theorem volT_sub {G : Gh} {t b a : Addr} (h : G.tb = some (t, b)) (hv : G.vol a = false) : volT t b a = false := by
  unfold Gh.vol volOf at hv
  rw [h] at hv
  unfold volT volOf
  rw [Bool.or_eq_false_iff] at hv ⊢
  exact ⟨hv.1, rfl⟩
theorem Tabs.but {T : List (Addr × Str)} {t b : Addr} {H H' : Hp} (h : LamX.Tabs T H) (to : TownAt t b H) (k : ∀ a o, volT t b a = false → H a = some o → H' a = some o) : LamX.Tabs T H' := fun p hp => by
  obtain ⟨ps, h1, h2, h3⟩ := h p hp
  obtain ⟨c, kvs, t1, t2, _⟩ := to
  have ne : ∀ a o, H a = some o → isMut o = false → volT t b a = false := fun a o ha hm => by
    unfold volT volOf
    rw [Bool.or_eq_false_iff]
    refine ⟨?_, rfl⟩
    show (a == t || a == b) = false
    rw [Bool.or_eq_false_iff]
    constructor
    · exact beq_eq_false_iff_ne.mpr fun z => by subst z; rw [t1] at ha; cases ha; cases hm
    · exact beq_eq_false_iff_ne.mpr fun z => by subst z; rw [t2] at ha; cases ha; cases hm
  refine ⟨ps, k _ _ (ne _ _ h1 rfl) h1, h2, fun pos cv hc => ?_⟩
  obtain ⟨c', e, hcc⟩ := h3 pos cv hc
  exact ⟨c', e, k _ _ (ne _ _ hcc rfl) hcc⟩
theorem NewB.step {C : Ctx} {pn : List (V × D)} {G : Gh} {ρ : R} {σ : L2.St} {H H' N : Hp} {t b : Addr} (r : Rep C pn G ρ σ H) (hg : G.tb = some (t, b)) (n : NewB t b H H' N) : Step G H (un G.S N) H' := by
  have J' : JOf G.tb G.T H' := ⟨fun t' b' e => by rw [hg] at e; cases e; exact n.town, Tabs.but r.J.2 (r.J.1 t b hg) n.ex⟩
  exact
  { keep := fun a o hv h => n.ex a o (volT_sub hg hv) h
    grow := un_l
    sub := fun a o h => by
      rcases un_some h with z | z
      · obtain ⟨h1, h2⟩ := r.sub a o z
        exact ⟨n.ex a o (volT_sub hg h2) h1, h2⟩
      · refine ⟨(n.new a o z).1, ?_⟩
        cases e : G.vol a with
        | false => rfl
        | true =>
          obtain ⟨u, h1, h2⟩ := J'.vt e
          rw [(n.new a o z).1] at h1; cases h1
          rcases (n.new a _ z).2 with q | q
          · obtain ⟨u, h3, _⟩ := r.J.vt e
            rw [q] at h3; cases h3
          · rw [q] at h2; cases h2
    new := fun a o h => by
      rcases un_some h with z | z
      · exact .inl z
      · exact .inr (n.new a o z).2
    J := J' }
/-- (script, town, ..) -/
def dTown (te : DE) (i : Nat) (tr : DA) : DA := fun ρ P => te ρ fun d => ρ[i]? = some (some Slot.town) ∧ tr ρ fun ds => P (d :: ds)
def liTA (C : Ctx) (ta : DA) : TA := fun σ H Q => ∃ pn G ρ P, Rep C pn G ρ σ H ∧ ta ρ P ∧ ∀ d ds v vs t b S' H', P (d :: ds) → Step G H S' H' → G.tb = some (t, b) → DVs C.ck S' (v :: vs) (d :: ds) → Q (v :: .ref t :: vs) H'
def dCallT (g : GT) (ta : DA) : DE := fun ρ P => ta ρ fun ds => g ds P
section
variable {P : Program} {w : World} {K : PySem.W.Frag} {mg : Str → Option Value} {base : Heap} {X : Cx} {C : Ctx} {e : Expr} {es : List Expr} {tr tr2 : DA} {te : DE} {pos p p2 : Pos} {k : Nat} {ps : List Str} {kn : List Nat} {g : GT} {x y : Str}
theorem da_town {i : Nat} (h : PE X e (liE C te)) (hr : PA X es (liA C tr)) (hN : X.N[i]? = some y := by rfl) (hv : Vis X.env.scope y := by first | exact Or.inl rfl | exact Or.inr (Or.inl rfl) | exact Or.inr (Or.inr rfl)) (hd : (y == ("__debug__" : Str)) = false := by decide)
    (hcd : (y == ("__classdict__" : Str)) = false := by decide) (hs : starEach (e :: .Name y p2 :: es) X.env = (false, eval e X.env) :: starEach (.Name y p2 :: es) X.env := by rfl) (hs2 : starEach (.Name y p2 :: es) X.env = (false, eval (.Name y p2) X.env) :: starEach es X.env := by rfl) :
    PA X (e :: .Name y p2 :: es) (liTA C (dTown te i tr)) :=
  PA.to (pa_cons h (pa_cons (pe_var hN hv hd hcd) hr hs2) hs) fun σ H Q ⟨pn, G, ρ, P, rp, t, k⟩ => ⟨pn, G, ρ, _, rp, t, fun d v S1 H1 ⟨ht, p1⟩ s1 d1 => by
    obtain ⟨t, b, e1, e2⟩ := rp.town i ht
    exact ⟨.ref t, e2, pn, _, ρ, _, rp.step s1, p1, fun ds vs S2 H2 p2 s2 d2 => k d ds v vs t b S2 H2 p2 (Step.trans rp s1 s2) e1 (.cons (d1.mono s2.grow) d2)⟩⟩
theorem fc_town (hX : Fit P w K mg base C X) (F : FN P w K mg base k x ps kn (spT ⟨K, mg, P, w⟩ g)) (hr : Room k X.A) (ha : PA X (e :: es) (liTA C tr)) (hg : Gl X x := by rfl)
    (hdb : (x == ("__debug__" : Str)) = false := by decide) (hs : starEach (e :: es) X.env = (false, eval e X.env) :: starEach es X.env := by rfl) (hpl : (backTo pos (starEach es X.env)).any (·.1) = false := by rfl) :
    PE X (.Call (.Name x p) (e :: es) [] pos) (liE C (dCallT g tr)) := by
  obtain ⟨f, fd, F1, m, kp, b, _⟩ := F.ex
  obtain ⟨⟨hK, hM, hu, hc, hn, hP, hw⟩, rfl, hck⟩ := hX
  obtain ⟨⟨K', mg', P', w'⟩, H0, tb0, T0⟩ := C
  cases hck
  simp only at hP hw
  subst hP; subst hw
  simp only at hK hM
  rw [← hK] at kp b
  rw [← hK, ← hM] at F1
  rw [← hM] at m
  refine PE.to (pe_call F1 hr hg m kp b (Paired.nil) pass0 ha hdb hs hpl) fun σ H Q ⟨pn, G, ρ, P, rp, t, q⟩ => ⟨pn, G, ρ, _, rp, t, fun d ds v vs t b S' H' p s htb dv => ?_⟩
  show spT ⟨X.K, X.mg, X.prog, X.w⟩ g ((v :: .ref t :: vs) ++ []) H' Q E0
  rw [List.append_nil]
  refine ⟨t, b, v, vs, d :: ds, P, rfl, s.J.1 t b htb, ?_, p, fun d' v' H2 N pd n dn => ?_⟩
  · rw [hK, hM]
    exact dv.mono fun a o h => hid_some.mpr ⟨(s.sub a o h).1, volT_sub htb (s.sub a o h).2⟩
  · rw [hK, hM] at dn
    have n2 := NewB.step (rp.step s) (show ({ G with S := S' } : Gh).tb = some (t, b) from htb) n
    refine q d' v' _ H2 pd (Step.trans rp s n2) (dn.mono (un_r (H := H2) (fun a o z => ?_) fun a o z => (n.new a o z).1))
    exact n.ex a o (volT_sub htb (s.sub a o z).2) (s.sub a o z).1
end
def startT (N : List Str) : List D → R
  | d :: ds => some (.sh d) :: some .town :: (ds.map (fun d => some (.sh d)) ++ List.replicate (N.length - (ds.length + 2)) none)
  | [] => []
theorem startT_rep {C : CK} {H : Hp} {N : List Str} {t b : Addr} {v0 : V} {vr : List V} {d : D} {ds : List D} (to : TownAt t b H) (h : DVs C (hid (volT t b) H) (v0 :: vr) (d :: ds)) :
    Rep { toCK := C, H0 := H, tb0 := some (t, b), T0 := [] } [] { S := hid (volT t b) H, tb := some (t, b), T := [] } (startT N (d :: ds)) (L2.start N (v0 :: .ref t :: vr)) H := by
  have hlen := h.length
  cases h with
  | cons h0 hr =>
  have hst : L2.start N (v0 :: .ref t :: vr) = some v0 :: some (.ref t) :: (vr.map some ++ List.replicate (N.length - (vr.length + 2)) none) := by
    unfold L2.start
    simp
  have key : ∀ (j : Nat) s, (startT N (d :: ds))[j]? = some (some s) → (j = 0 ∧ s = .sh d) ∨ (j = 1 ∧ s = .town) ∨ ∃ i e, j = i + 2 ∧ ds[i]? = some e ∧ s = .sh e := by
    intro j s hj
    unfold startT at hj
    match j, hj with
    | 0, hj => left; simp at hj; exact ⟨rfl, hj.symm⟩
    | 1, hj => right; left; simp at hj; exact ⟨rfl, hj.symm⟩
    | i + 2, hj =>
      right; right
      simp only [List.getElem?_cons_succ] at hj
      by_cases hi : i < ds.length
      · rw [List.getElem?_append_left (by simpa using hi), List.getElem?_map] at hj
        cases e : ds[i]? with
        | none => rw [e] at hj; cases hj
        | some e' =>
          rw [e] at hj
          simp at hj
          exact ⟨i, e', rfl, e, hj.symm⟩
      · rw [List.getElem?_append_right (by simpa using hi), List.getElem?_replicate] at hj
        split at hj <;> cases hj
  exact
  { sub := fun a o h => ⟨(hid_some.mp h).1, (hid_some.mp h).2⟩
    h0 := fun a o _ h => h
    v0 := fun a h => h
    v1 := fun a h => .inl h
    tb := fun _ => rfl
    T := rfl
    J := ⟨fun t' b' e => by cases e; exact to, fun p hp => (by cases hp)⟩
    pn := fun p hp => by cases hp
    sh := fun i e q => by
      rw [hst]
      rcases key i _ q with ⟨rfl, z⟩ | ⟨_, z⟩ | ⟨j, e', rfl, h1, z⟩
      · cases z; exact ⟨v0, rfl, h0⟩
      · cases z
      · cases z
        obtain ⟨v, h2, h3⟩ := hr.getD h1
        refine ⟨v, ?_, h3⟩
        have hj : j < vr.length := (List.getElem?_eq_some_iff.mp h2).1
        simp only [List.getElem?_cons_succ]
        rw [List.getElem?_append_left (by simpa using hj), List.getElem?_map, h2]
        rfl
    own := fun i e q => by rcases key i _ q with ⟨_, z⟩ | ⟨_, z⟩ | ⟨_, _, _, _, z⟩ <;> cases z
    inj := fun i j e f a q _ _ _ => by rcases key i _ q with ⟨_, z⟩ | ⟨_, z⟩ | ⟨_, _, _, _, z⟩ <;> cases z
    town := fun i q => by
      rcases key i _ q with ⟨_, z⟩ | ⟨rfl, z⟩ | ⟨_, _, _, _, z⟩
      · cases z
      · exact ⟨t, b, rfl, by rw [hst]; rfl⟩
      · cases z
    len := by
      rw [hst]
      unfold startT
      simp only [List.length_cons, List.length_append, List.length_map, List.length_replicate]
      simp only [List.length_cons] at hlen
      omega }
theorem okT {P : Program} {w : World} {K : PySem.W.Frag} {mg : Str → Option Value} {base : Heap} {x : Str} {st : Stmt} {f : Addr} {fd : FuncData} {N ps : List Str} {kn : List Nat} {k : Nat} {g : GT} {body : DS} (F : FunD K x x (defArgs st) (defBody st) (defScope st) [] [] f fd) (hm : mg x = some (.ref f)) (S : FnScope N ps (defScope st))
    (hb1 : ∀ (kV doc pm : Value) (an : Option Addr) (cdv ct : Value) (us : List Value), us.length = ps.length → bindArgs (PySem.W.fnOf x x (defArgs st) (defBody st) (defScope st) .none kV doc pm an cdv ct) ⟨us, []⟩ = pure (ps.zip us))
    (hb2 : ∀ (n : Nat), n ∈ kn → ∀ (kV doc pm : Value) (an : Option Addr) (cdv ct : Value) (us ws : List Value), us.length = n → ws.length = (ps.drop n).length → bindArgs (PySem.W.fnOf x x (defArgs st) (defBody st) (defScope st) .none kV doc pm an cdv ct) ⟨us, (ps.drop n).zip ws⟩ = pure (ps.zip (us ++ ws)))
    (hlen : ∀ ds Q, g ds Q → ds.length + 1 = ps.length) (ht : ∀ ds Q, g ds Q → body { nx := fun _ => Q .non, rt := Q } (startT N ds))
    (hb : ∀ (C : Ctx) (cdv : Value) (A : Around) (outer : List Env) (s : Shared) (H : Hp) (E : XK), Fit P w K mg base C (cxOf CX0 P w K mg base N x (defScope st) f cdv A outer s H E).nox → Room k (cxOf CX0 P w K mg base N x (defScope st) f cdv A outer s H E).nox.A →
      PSs (cxOf CX0 P w K mg base N x (defScope st) f cdv A outer s H E).nox (defBody st) (liS C body)) :
    FN P w K mg base (k + 1) x ps kn (spT ⟨K, mg, P, w⟩ g) := by
  refine ⟨f, fd, ?_, hm, F.kp, F.bindsN hb1, fun n hn => ?_⟩
  · refine F.ok S (fun vs H Q E ⟨t, b, v0, vr, ds, P, e1, _, h1, h2, _⟩ => by
      have l1 := h1.length
      have l2 := hlen _ _ h2
      subst e1
      simp only [List.length_cons] at l1 ⊢
      omega) fun cdv A outer s H vs Q E hr ⟨t, b, v0, vr, ds, P', e1, to, h1, h2, h3⟩ => ?_
    subst e1
    refine ⟨_, PSs.nox (hb { toCK := ⟨K, mg, P, w⟩, H0 := H, tb0 := some (t, b), T0 := [] } cdv A outer s H E ⟨⟨rfl, rfl, ?_, rfl, S.nd, rfl, rfl⟩, rfl, rfl⟩ hr), ?_⟩
    · have := hr.un
      show (A.deeper (envOfC x (defScope st) s.heap.objs.size f cdv)).units + 65 < cLine
      omega
    · cases ds with
      | nil => cases h1
      | cons d0 dr =>
        refine ⟨[], _, _, _, startT_rep to h1, ht _ P' h2, fun G ρ σ H' r p => ?_, fun G ρ σ H' r p => p.elim, fun G ρ σ H' r p => p.elim, fun G ρ σ H' d v N' r p n dv => ?_⟩
        · exact h3 .non .non H' (fun _ => none) p ⟨fun a o hv q => r.h0 a o hv q, r.J.1 t b (r.tb (fun z => nomatch z)), fun a o q => by cases q⟩ .non
        · exact h3 d v H' N' p ⟨fun a o hv q => r.h0 a o hv q, r.J.1 t b (r.tb (fun z => nomatch z)), fun a o q => n a o q⟩ dv
  · obtain ⟨oc, od, dV, kV, doc, pm, an, cdv, ct, osl, rfl, lk, hcd, hD, hK⟩ := F.ex
    rcases hD with ⟨_, rfl⟩ | ⟨e, _⟩
    · exact ⟨fun s us ws _ l1 l2 => .of_eq (hb2 n hn kV doc pm an cdv ct us ws l1 l2), fun r1 r2 => r1.append r2⟩
    · exact absurd rfl e

/-! ### a test that reads an own list as if it were shared -/
def dThawT (i : Nat) (t : DT) : DT := fun ρ P => ∃ d, ρ[i]? = some (some (Slot.own d)) ∧ t (ρ.set i (some (.sh d))) P
theorem dt_thaw {X : Cx} {C : Ctx} {e : Expr} {t : DT} {i : Nat} (h : PT X e (liT C t)) : PT X e (liT C (dThawT i t)) := PT.to h fun σ H Q ⟨pn, G, ρ, P, r, ⟨d, hd, tt⟩, k⟩ => by
  obtain ⟨a, ha, hS, hv, h0, hO⟩ := r.own i d hd
  obtain ⟨S1, e1, r1, only⟩ : ∃ S1, Ex G.S S1 ∧ Rep C pn { G with S := S1 } (ρ.set i (some (.sh d))) σ H ∧ ∀ b o, S1 b = some o → b ≠ a → G.S b = some o := by
    obtain ⟨S1, e1, r1, on⟩ := r.freeze hd
    exact ⟨S1, e1, r1, fun b o hb hne => on a b o ha hb hne⟩
  refine ⟨pn, _, _, P, r1, tt, fun b S' H' p s => k b (fun c => if c = a then none else S' c) H' p ?_⟩
  exact ⟨s.keep, fun c o hc => by
    show (if c = a then none else S' c) = some o
    rw [if_neg (fun z => by subst z; rw [hS] at hc; cases hc)]
    exact s.grow c o (e1 c o hc), fun c o hc => by
    have hc' : (if c = a then none else S' c) = some o := hc
    split at hc'
    · cases hc'
    · exact s.sub c o hc', fun c o hc => by
    have hc' : (if c = a then none else S' c) = some o := hc
    split at hc'
    · cases hc'
    · rename_i hne
      rcases s.new c o hc' with z | z
      · exact .inl (only c o z hne)
      · exact .inr z, s.J⟩

/-! ### town = _law_begun() -/
def spBegun : Sp := fun vs H Q _ => vs = [] ∧ ∀ t b, H t = none → H b = none → t ≠ b → Q (.ref t) (upd (upd H b (.dK [])) t (.dK [(.inr "count", .int 0), (.inr "rests", .ref b)]))
def noTown : R → Bool
  | [] => true
  | some .town :: _ => false
  | _ :: r => noTown r
theorem noTown_get : ∀ {ρ : R} {j : Nat}, noTown ρ = true → ρ[j]? ≠ some (some Slot.town)
  | [], j, _, h => by simp at h
  | none :: r, 0, _, h => by simp at h
  | none :: r, j + 1, hn, h => noTown_get (ρ := r) (j := j) (by simpa [noTown] using hn) (by simpa using h)
  | some (.sh _) :: r, 0, _, h => by simp at h
  | some (.sh _) :: r, j + 1, hn, h => noTown_get (ρ := r) (j := j) (by simpa [noTown] using hn) (by simpa using h)
  | some (.own _) :: r, 0, _, h => by simp at h
  | some (.own _) :: r, j + 1, hn, h => noTown_get (ρ := r) (j := j) (by simpa [noTown] using hn) (by simpa using h)
  | some .town :: r, _, hn, _ => by simp [noTown] at hn
def dBegun (i : Nat) : DS := fun E ρ => noTown ρ = true ∧ E.nx (ρ.set i (some .town))
theorem ds_begun {P : Program} {w : World} {K : PySem.W.Frag} {mg : Str → Option Value} {base : Heap} {X : Cx} {C : Ctx} {k : Nat} {x y : Str} {i : Nat} {p p2 pos cpos : Pos} (hX : Fit P w K mg base C X) (hC : C.tb0 = none) {kn : List Nat} (F : FN P w K mg base k x [] kn spBegun) (hr : Room k X.A) (hg : Gl X x := by rfl) (hi : X.N[i]? = some y := by rfl) (hx : Loc X.env.scope y := by first | exact Or.inl rfl | exact Or.inr rfl)
    (hs : swapsWith (.Call (.Name x p) [] [] cpos) (some (.Name y p2)) pos.line X.env = pure false := by rfl) (hf : X.fn y = true ∨ X.env.scope.names.lookup y = some .local := by first | exact .inl rfl | exact .inr rfl) (hdb : (x == ("__debug__" : Str)) = false := by decide) :
    PS X (.Assign [.Name y p2] (.Call (.Name x p) [] [] cpos) pos) (liS C (dBegun i)) := by
  obtain ⟨f, fd, F1, m, kp, b, _⟩ := F.ex
  obtain ⟨⟨hK, hM, hu, hc, hn, hP, hw⟩, rfl, hck⟩ := hX
  obtain ⟨⟨K', mg', P', w'⟩, H0, tb0, T0⟩ := C
  cases hck
  simp only at hP hw
  subst hP; subst hw
  simp only at hK hM hC
  subst hC
  rw [← hK] at kp b
  rw [← hK, ← hM] at F1
  rw [← hM] at m
  refine PS.to (ps_set hn hi hx (pe_call0 F1 hr hg m kp b (Paired.nil) pass0 hdb) hs hf) fun Z σ H ⟨pn, G, ρ, E, r, ⟨hno, nx⟩, q⟩ => ⟨rfl, fun t b ht hb hne => ?_⟩
  have hbt : upd H b (.dK []) t = none := by rw [upd_ne hne]; exact ht
  have ex : Ex H (upd (upd H b (.dK [])) t (.dK [(.inr "count", .int 0), (.inr "rests", .ref b)])) := (Ex.new hb).trans (Ex.new hbt)
  have hvo : ∀ a, H a ≠ none → volOf (some (t, b)) G.T a = (T0.any fun p => p.1 == a) := fun a ha => by
    have h1 : (a == t) = false := beq_eq_false_iff_ne.mpr fun z => ha (by rw [z]; exact ht)
    have h2 : (a == b) = false := beq_eq_false_iff_ne.mpr fun z => ha (by rw [z]; exact hb)
    unfold volOf
    rw [r.T]
    simp [h1, h2]
  have hve : ∀ a, (T0.any fun p => p.1 == a) = true → G.vol a = true := fun a h => by
    unfold Gh.vol volOf
    rw [r.T, h, Bool.or_true]
  refine q.nx { G with tb := some (t, b) } _ _ _ ?_ nx
  have rfree : ∀ a, H a = none → H0 a = none := fun a h => (r.old h).1
  refine
  { sub := fun a o h => ?_
    h0 := fun a o h1 h2 => ex a o (r.h0 a o h1 h2)
    v0 := fun a h => ?_
    v1 := fun a h => ?_
    tb := fun h => absurd rfl h
    T := r.T
    J := ⟨fun t' b' e => ?_, ?_⟩
    pn := r.pn
    sh := fun j d h => ?_
    own := fun j d h => ?_
    inj := fun j l d e a h1 h2 h3 h4 => ?_
    town := fun j h => ?_
    len := by rw [List.length_set, List.length_set]; exact r.len }
  · obtain ⟨h1, h2⟩ := r.sub a o h
    refine ⟨ex a o h1, ?_⟩
    show volOf (some (t, b)) G.T a = false
    rw [hvo a (by rw [h1]; exact fun z => nomatch z)]
    cases z : T0.any fun p => p.1 == a with
    | false => rfl
    | true => rw [hve a z] at h2; cases h2
  · show volOf (some (t, b)) G.T a = true
    have h' : (T0.any fun p => p.1 == a) = true := by simpa [Ctx.vol0, volOf] using h
    unfold volOf
    rw [r.T, h', Bool.or_true]
  · have h' : volOf (some (t, b)) G.T a = true := h
    unfold volOf at h'
    rcases (Bool.or_eq_true _ _).mp h' with z | z
    · right
      rcases (Bool.or_eq_true _ _).mp z with z | z
      · rw [eq_of_beq z]; exact rfree t ht
      · rw [eq_of_beq z]; exact rfree b hb
    · left
      rw [r.T] at z
      simpa [Ctx.vol0, volOf] using z
  · cases e
    exact ⟨0, [], upd_same, by rw [upd_ne (Ne.symm hne)]; exact upd_same, hne, fun k v h => (by cases h), by simp⟩
  · intro p hp
    exact (r.J.2 p hp).ext ex
  · rcases set_get h with ⟨_, z⟩ | ⟨z, h⟩
    · cases z
    · rw [List.getElem?_set_ne z]; exact r.sh j d h
  · rcases set_get h with ⟨_, z⟩ | ⟨z, h⟩
    · cases z
    · rw [List.getElem?_set_ne z]
      obtain ⟨a, w1, w2, w3, w4, w5⟩ := r.own j d h
      obtain ⟨u, hu', _⟩ := w5.mut
      refine ⟨a, w1, w2, ?_, w4, w5.mono (Ex.refl _) fun o q' => ex a o q'⟩
      show volOf (some (t, b)) G.T a = false
      rw [hvo a (by rw [hu']; exact fun z => nomatch z)]
      cases z : T0.any fun p => p.1 == a with
      | false => rfl
      | true => rw [hve a z] at w3; cases w3
  · rcases set_get h1 with ⟨_, z⟩ | ⟨z1, h1⟩
    · cases z
    · rcases set_get h2 with ⟨_, z⟩ | ⟨z2, h2⟩
      · cases z
      · rw [List.getElem?_set_ne z1] at h3
        rw [List.getElem?_set_ne z2] at h4
        exact r.inj j l d e a h1 h2 h3 h4
  · by_cases z : i = j
    · subst z
      have hl := set_eq h
      rw [r.len] at hl
      exact ⟨t, b, rfl, by rw [List.getElem?_set_self hl]⟩
    · rw [List.getElem?_set_ne z] at h
      exact absurd h (noTown_get hno)
end WH

set_option Elab.async false
set_option linter.all false
set_option maxRecDepth 100000
set_option maxHeartbeats 4000000
namespace WH
open PySem L2
/-! ### the data level, reckoned by simp -/
section
variable {ρ : R} {P : D → Prop} {PB : Bool → Prop} {PL : List D → Prop} {E : DEnds} {i j l n : Nat} {te ta tb tc to : DE} {tr tk : DA} {t u : DT} {ts us : DS} {d : D} {K : List Slot → Prop}
@[simp] theorem z_oPs {α : Type} {d : α} {P : α → Prop} : oP (some d) P ↔ P d := oP_some
@[simp] theorem z_oPn {α : Type} {P : α → Prop} : oP (none : Option α) P ↔ False := oP_none
@[simp] theorem z_var : dVar i ρ P ↔ oP (getS ρ i) P := .rfl
@[simp] theorem z_varB : dVarB i ρ P ↔ oP (getB ρ i) P := .rfl
@[simp] theorem z_c : dC d ρ P ↔ P d := .rfl
@[simp] theorem z_bin {f : D → D → Option D} : dBin f ta tb ρ P ↔ ta ρ fun x => tb ρ fun y => oP (f x y) P := .rfl
@[simp] theorem z_un {f : D → Option D} : dUn f ta ρ P ↔ ta ρ fun x => oP (f x) P := .rfl
@[simp] theorem z_nil : dNil ρ PL ↔ PL [] := .rfl
@[simp] theorem z_cons : dCons ta tr ρ PL ↔ ta ρ fun x => tr ρ fun xs => PL (x :: xs) := .rfl
@[simp] theorem z_tup : dTup tr ρ P ↔ tr ρ fun ds => ds.length ≤ 1000 ∧ P (.tup ds) := .rfl
@[simp] theorem z_lst : dLst tr ρ P ↔ tr ρ fun ds => ds.length ≤ 1000 ∧ P (.lst ds) := .rfl
@[simp] theorem z_cb {f : List D → Option D} : dCB f tr ρ P ↔ tr ρ fun ds => oP (f ds) P := .rfl
@[simp] theorem z_test : dTest te ρ PB ↔ te ρ fun d => oP (asB d) PB := .rfl
@[simp] theorem z_cmp {f : D → D → Option Bool} : dCmp f ta tb ρ PB ↔ ta ρ fun x => tb ρ fun y => oP (f x y) PB := .rfl
@[simp] theorem z_cmpV {f : D → D → Option Bool} : dCmpV f ta tb ρ P ↔ ta ρ fun x => tb ρ fun y => oP (f x y) fun b => P (.bl b) := .rfl
@[simp] theorem z_and : dAnd t u ρ PB ↔ t ρ fun c => if c = true then u ρ PB else PB false := .rfl
@[simp] theorem z_or : dOr t u ρ PB ↔ t ρ fun c => if c = true then PB true else u ρ PB := .rfl
@[simp] theorem z_not : dNot t ρ PB ↔ t ρ fun c => PB (!c) := .rfl
@[simp] theorem z_andV : dAndV ta tb ρ P ↔ ta ρ fun x => oP (asB x) fun c => if c = true then tb ρ P else P (.bl false) := .rfl
@[simp] theorem z_orV : dOrV ta tb ρ P ↔ ta ρ fun x => oP (asB x) fun c => if c = true then P (.bl true) else tb ρ P := .rfl
@[simp] theorem z_notV : dNotV ta ρ P ↔ ta ρ fun x => oP (asB x) fun c => P (.bl !c) := .rfl
@[simp] theorem z_if : dIf t ta tb ρ P ↔ t ρ fun c => if c = true then ta ρ P else tb ρ P := .rfl
@[simp] theorem z_chV {f g : D → D → Option Bool} : dChainV f g ta tb tc ρ P ↔ ta ρ fun x => tb ρ fun y => oP (f x y) fun b => if b = true then tc ρ fun z => oP (g y z) fun c => P (.bl c) else P (.bl false) := .rfl
@[simp] theorem z_ch {f g : D → D → Option Bool} : dChain f g ta tb tc ρ PB ↔ ta ρ fun x => tb ρ fun y => oP (f x y) fun b => if b = true then tc ρ fun z => oP (g y z) PB else PB false := .rfl
@[simp] theorem z_ixB {f : D → D → Option D} : dIxB f ta tb ρ P ↔ ta ρ fun x => tb ρ fun y => oP (f x y) fun z => Im z = true ∧ P z := .rfl
@[simp] theorem z_no {PO : Option Int → Prop} : dNo ρ PO ↔ PO none := .rfl
@[simp] theorem z_some {PO : Option Int → Prop} : dSome te ρ PO ↔ te ρ fun d => ∃ i, d = .int i ∧ PO (some i) := .rfl
@[simp] theorem z_sl {f : D → Option Int → Option Int → Option D} {tl th : DO} : dSl f te tl th ρ P ↔ te ρ fun d => tl ρ fun l => th ρ fun h => oP (f d l h) P := .rfl
@[simp] theorem z_isi {T : String} : dIsi T te ρ P ↔ te ρ fun d => oP (isiD T d) fun b => P (.bl b) := .rfl
@[simp] theorem z_count : dCount to te ρ P ↔ to ρ fun d => ∃ ds, d = .tup ds ∧ te ρ fun e => oP (countD d e) P := .rfl
@[simp] theorem z_lenSet : dLenSet te ρ P ↔ te ρ fun d => oP (lenSetD d) P := .rfl
@[simp] theorem z_call {g : GF} : dCall g tr ρ P ↔ tr ρ fun ds => g ds P fun _ => False := .rfl
@[simp] theorem z_callK {g : GF} : dCallK g n tr tk ρ P ↔ tr ρ fun ds => ds.length = n ∧ tk ρ fun es => g (ds ++ es) P fun _ => False := .rfl
@[simp] theorem z_callT {g : GT} : dCallT g tr ρ P ↔ tr ρ fun ds => g ds P := .rfl
@[simp] theorem z_town : dTown te i tr ρ PL ↔ te ρ fun d => ρ[i]? = some (some Slot.town) ∧ tr ρ fun ds => PL (d :: ds) := .rfl
@[simp] theorem z_lstRg : dLstRg te ρ P ↔ te ρ fun d => ∃ n, d = .int n ∧ 0 ≤ n ∧ n ≤ 100000 ∧ P (.lst (rangeD n)) := .rfl
@[simp] theorem z_thaw : dThawT i t ρ PB ↔ ∃ d, ρ[i]? = some (some (Slot.own d)) ∧ t (ρ.set i (some (.sh d))) PB := .rfl
@[simp] theorem z_yes : dYes ρ PB ↔ PB true := .rfl
@[simp] theorem z_seqI : diSeq te ρ PL ↔ te ρ fun d => oP (itemsOf d) PL := .rfl
@[simp] theorem z_rangeI : diRange tr ρ PL ↔ tr ρ fun ds => ∃ n, ds = [.int n] ∧ -1000000 ≤ n ∧ n ≤ 1000000 ∧ PL (rangeD n) := .rfl
@[simp] theorem z_lc {ti : DI} {T : Tg} {vs : List Nat} : dLc ti T t te vs ρ P ↔ ti ρ fun xs => lcGo T t te (wipeR ρ vs) xs [] fun acc => P (.lst acc) := .rfl
@[simp] theorem z_next : dNext E ρ ↔ E.nx ρ := .rfl
@[simp] theorem z_seq : dSeq ts us E ρ ↔ ts { E with nx := us E } ρ := .rfl
@[simp] theorem z_ret : dRet te E ρ ↔ te ρ fun d => Im d = true ∧ E.rt d := .rfl
@[simp] theorem z_retF : dRetF te E ρ ↔ te ρ fun d => FrOk d = true ∧ E.rt d := .rfl
@[simp] theorem z_retO : dRetO i E ρ ↔ ∃ d, ρ[i]? = some (some (Slot.own d)) ∧ FrOk d = true ∧ E.rt d := .rfl
@[simp] theorem z_ifS : dIfS t ts us E ρ ↔ t ρ fun b => if b = true then ts E ρ else us E ρ := .rfl
@[simp] theorem z_set : dSet i te E ρ ↔ te ρ fun d => E.nx (ρ.set i (some (.sh d))) := .rfl
@[simp] theorem z_own : dOwn i te E ρ ↔ te ρ fun d => E.nx (ρ.set i (some (.own d))) := .rfl
@[simp] theorem z_drop : dDrop te E ρ ↔ te ρ fun _ => E.nx ρ := .rfl
@[simp] theorem z_break : dBreak E ρ ↔ E.bk ρ := .rfl
@[simp] theorem z_cont : dCont E ρ ↔ E.ct ρ := .rfl
@[simp] theorem z_never : dNever E ρ ↔ False := .rfl
@[simp] theorem z_frz : dFrz i ts E ρ ↔ ∃ d, ρ[i]? = some (some (Slot.own d)) ∧ ts E (ρ.set i (some (.sh d))) := .rfl
@[simp] theorem z_unp {T : Tg} : dUnp T te E ρ ↔ te ρ fun d => dAsg T d ρ E.nx := .rfl
@[simp] theorem z_app : dApp i te E ρ ↔ te ρ fun d => ∃ ds, ρ[i]? = some (some (Slot.own (.lst ds))) ∧ ds.length < 100000 ∧ E.nx (ρ.set i (some (.own (.lst (ds ++ [d]))))) := .rfl
@[simp] theorem z_ext : dExt i te E ρ ↔ te ρ fun d => ∃ ds es, d = .lst es ∧ ρ[i]? = some (some (Slot.own (.lst ds))) ∧ ds.length + es.length < 100000 ∧ E.nx (ρ.set i (some (.own (.lst (ds ++ es))))) := .rfl
def par2 (ρ : R) (i j : Nat) (N : R → Prop) (ks : List Slot) : Prop := ∃ k1 k2, ks = [k1, k2] ∧ N ((ρ.set i (some k1)).set j (some k2))
def par3 (ρ : R) (i j l : Nat) (N : R → Prop) (ks : List Slot) : Prop := ∃ k1 k2 k3, ks = [k1, k2, k3] ∧ N (((ρ.set i (some k1)).set j (some k2)).set l (some k3))
@[simp] theorem z_par {tk : DK} : dPar i j tk E ρ ↔ tk ρ (par2 ρ i j E.nx) := .rfl
@[simp] theorem z_par3 {tk : DK} : dPar3 i j l tk E ρ ↔ tk ρ (par3 ρ i j l E.nx) := .rfl
@[simp] theorem z_par2x {N : R → Prop} {k1 k2 : Slot} : par2 ρ i j N [k1, k2] ↔ N ((ρ.set i (some k1)).set j (some k2)) := ⟨fun ⟨_, _, e, p⟩ => by cases e; exact p, fun p => ⟨_, _, rfl, p⟩⟩
@[simp] theorem z_par3x {N : R → Prop} {k1 k2 k3 : Slot} : par3 ρ i j l N [k1, k2, k3] ↔ N (((ρ.set i (some k1)).set j (some k2)).set l (some k3)) := ⟨fun ⟨_, _, _, e, p⟩ => by cases e; exact p, fun p => ⟨_, _, _, rfl, p⟩⟩
@[simp] theorem z_kNil : kNil ρ K ↔ K [] := .rfl
@[simp] theorem z_kSh {tk : DK} : kSh te tk ρ K ↔ te ρ fun d => tk ρ fun ks => K (.sh d :: ks) := .rfl
@[simp] theorem z_kOwn {tk : DK} : kOwn te tk ρ K ↔ te ρ fun d => tk ρ fun ks => K (.own d :: ks) := .rfl
@[simp] theorem z_begun : dBegun i E ρ ↔ noTown ρ = true ∧ E.nx (ρ.set i (some .town)) := .rfl
@[simp] theorem z_for {ti : DI} {T : Tg} : dFor ti T ts E ρ ↔ ti ρ fun xs => forGo T ts E xs ρ := .rfl
@[simp] theorem z_asgN {k : R → Prop} : dAsg (.nm i) d ρ k ↔ k (ρ.set i (some (.sh d))) := .rfl
theorem z_asgT {k : R → Prop} {is : List Nat} : dAsg (.tp is) d ρ k ↔ ∃ ds, (d = .tup ds ∨ d = .pr ds) ∧ ds.length = is.length ∧ k (setAll ρ is ds) := .rfl
@[simp] theorem z_asgTT {k : R → Prop} {is : List Nat} {ds : List D} : dAsg (.tp is) (.tup ds) ρ k ↔ ds.length = is.length ∧ k (setAll ρ is ds) := ⟨fun ⟨_, e, p⟩ => by rcases e with e | e <;> cases e; exact p, fun p => ⟨_, .inl rfl, p⟩⟩
@[simp] theorem z_asgTP {k : R → Prop} {is : List Nat} {ds : List D} : dAsg (.tp is) (.pr ds) ρ k ↔ ds.length = is.length ∧ k (setAll ρ is ds) := ⟨fun ⟨_, e, p⟩ => by rcases e with e | e <;> cases e; exact p, fun p => ⟨_, .inr rfl, p⟩⟩
@[simp] theorem z_setAll0 {is : List Nat} : setAll ρ is [] = ρ := by cases is <;> rfl
@[simp] theorem z_setAll1 {is : List Nat} {ds : List D} : setAll ρ (i :: is) (d :: ds) = setAll (ρ.set i (some (.sh d))) is ds := rfl
@[simp] theorem z_getS {ρ : R} : getS ρ i = match ρ[i]? with | some (some (.sh d)) => some d | _ => none := rfl
@[simp] theorem z_getB {ρ : R} : getB ρ i = match ρ[i]? with | some (some (.sh d)) => some d | some (some (.own d)) => some d | _ => none := rfl
@[simp] theorem z_asB {b : Bool} : asB (.bl b) = some b := rfl
@[simp] theorem z_for0 {T : Tg} : forGo T ts E [] ρ ↔ E.nx ρ := .rfl
@[simp] theorem z_for1 {T : Tg} {x : D} {xs : List D} : forGo T ts E (x :: xs) ρ ↔ dAsg T x ρ fun ρ' => ts { E with nx := forGo T ts E xs, ct := forGo T ts E xs, bk := E.nx } ρ' := .rfl
@[simp] theorem z_le {a b : Int} {f : Int → Int → Bool} : cmpI f (.int a) (.int b) = some (f a b) := rfl
@[simp] theorem z_isi1 {T : String} {a : Int} : isiD T (.int a) = some (T == "int") := rfl
@[simp] theorem z_add {a b : Int} : addD (.int a) (.int b) = some (.int (a + b)) := rfl
@[simp] theorem z_sub {a b : Int} : subD (.int a) (.int b) = some (.int (a - b)) := rfl
@[simp] theorem z_neg {a : Int} : negD (.int a) = some (.int (-a)) := rfl
@[simp] theorem z_ixT {ds : List D} {a : Int} : ixD (.tup ds) (.int a) = atI ds a := rfl
@[simp] theorem z_ixL {ds : List D} {a : Int} : ixD (.lst ds) (.int a) = atI ds a := rfl
@[simp] theorem z_slT {ds : List D} {a b : Option Int} : slD (.tup ds) a b = some (.tup (cutL ds a b)) := rfl
@[simp] theorem z_slL {ds : List D} {a b : Option Int} : slD (.lst ds) a b = some (.lst (cutL ds a b)) := rfl
@[simp] theorem z_lenL {ds : List D} : lenD [.lst ds] = some (.int ds.length) := rfl
@[simp] theorem z_lenT {ds : List D} : lenD [.tup ds] = some (.int ds.length) := rfl
@[simp] theorem z_itL {ds : List D} : itemsOf (.lst ds) = some ds := rfl
@[simp] theorem z_itT {ds : List D} : itemsOf (.tup ds) = some ds := rfl
@[simp] theorem z_tupL {ds : List D} : tupleD [.lst ds] = some (.tup ds) := rfl
@[simp] theorem z_tupT {ds : List D} : tupleD [.tup ds] = some (.tup ds) := rfl
@[simp] theorem z_lisL {ds : List D} : listD [.lst ds] = some (.lst ds) := rfl
@[simp] theorem z_lisT {ds : List D} : listD [.tup ds] = some (.lst ds) := rfl
@[simp] theorem z_abs {a : Int} : absD [.int a] = some (.int (if a < 0 then -a else a)) := rfl
@[simp] theorem z_max2 {a b : Int} : max2D [.int a, .int b] = some (.int (if b > a then b else a)) := rfl
@[simp] theorem z_min2 {a b : Int} : min2D [.int a, .int b] = some (.int (if b < a then b else a)) := rfl
@[simp] theorem z_max3 {a b c : Int} : max3D [.int a, .int b, .int c] = some (.int (max (max a b) c)) := rfl
@[simp] theorem z_allD {ds : List D} : allD [.lst ds] = (asBs ds).map fun bs => .bl (bs.all id) := rfl
@[simp] theorem z_anyD {ds : List D} : anyD [.lst ds] = (asBs ds).map fun bs => .bl (bs.any id) := rfl
end
/-- eq of two ints -/
@[simp] theorem z_eqI {a b : Int} : eqD (.int a) (.int b) = some (decide (a = b)) := by
  unfold eqD
  rw [if_pos ⟨rfl, rfl⟩]
  unfold eqB
  rw [toPy, toPy, PyData.eqv]
  rw [Bool.beq_eq_decide_eq]
@[simp] theorem z_neI {a b : Int} : neD (.int a) (.int b) = some (!decide (a = b)) := by
  unfold neD
  rw [if_pos ⟨rfl, rfl⟩]
  unfold eqB
  rw [toPy, toPy, PyData.eqv]
  rw [Bool.beq_eq_decide_eq]
/-- a comprehension whose turns are known -/
theorem lc_run {α : Type} {T : Tg} {tt : DT} {te : DE} {ρ0 : R} {P : List D → Prop} {e f : α → D} {p : α → Bool} : ∀ (l : List α) (acc : List D), acc.length + l.length ≤ 90000 →
    (∀ a ∈ l, ∀ (K1 : D → Prop) (K0 : Prop), (if p a = true then K1 (f a) else K0) → dAsg T (e a) ρ0 fun ρ2 => tt ρ2 fun b => if b = true then te ρ2 K1 else K0) →
    P (acc ++ (l.filter p).map f) → lcGo T tt te ρ0 (l.map e) acc P
  | [], acc, _, _, h => by simpa [lcGo] using h
  | a :: l, acc, hl, hx, h => by
    show dAsg T (e a) ρ0 _
    simp only [List.length_cons] at hl
    refine hx a (by simp) _ _ ?_
    by_cases q : p a = true
    · rw [if_pos q]
      refine ⟨by omega, lc_run l _ (by simp; omega) (fun b hb => hx b (by simp [hb])) ?_⟩
      simpa [List.filter_cons, q] using h
    · rw [if_neg q]
      refine lc_run l _ (by omega) (fun b hb => hx b (by simp [hb])) ?_
      simpa [List.filter_cons, q] using h
theorem lc_map {α : Type} {T : Tg} {te : DE} {ρ0 : R} {P : List D → Prop} {e f : α → D} : ∀ (l : List α) (acc : List D), acc.length + l.length ≤ 90000 →
    (∀ a ∈ l, ∀ (K1 : D → Prop), K1 (f a) → dAsg T (e a) ρ0 fun ρ2 => te ρ2 K1) → P (acc ++ l.map f) → lcGo T dYes te ρ0 (l.map e) acc P
  | [], acc, _, _, h => by simpa [lcGo] using h
  | a :: l, acc, hl, hx, h => by
    simp only [List.length_cons] at hl
    exact hx a (by simp) (fun y => acc.length < 100000 ∧ lcGo T dYes te ρ0 (l.map e) (acc ++ [y]) P) ⟨by omega, lc_map l _ (by simp; omega) (fun b hb => hx b (by simp [hb])) (by simpa using h)⟩
theorem asBs_map {α : Type} (f : α → Bool) : ∀ l : List α, asBs (l.map fun a => .bl (f a)) = some (l.map f)
  | [] => rfl
  | a :: l => by rw [List.map_cons, asBs, asBs_map f l]; rfl
section
variable {ρ : R} {E : DEnds} {te : DE} {t : DT} {ts : DS}
@[simp] theorem z_lc0 {T : Tg} {acc : List D} {P : List D → Prop} : lcGo T t te ρ [] acc P ↔ P acc := .rfl
theorem z_lc1 {T : Tg} {x : D} {xs acc : List D} {P : List D → Prop} : lcGo T t te ρ (x :: xs) acc P ↔ dAsg T x ρ fun ρ2 => t ρ2 fun b => if b = true then te ρ2 fun y => acc.length < 100000 ∧ lcGo T t te ρ xs (acc ++ [y]) P else lcGo T t te ρ xs acc P := .rfl
/-- a loop by its invariant: what holds of the rest and the store -/
theorem for_ind {α : Type} {T : Tg} {e : α → D} (I : List α → R → Prop) (hs : ∀ a rest ρ (N : R → Prop), I (a :: rest) ρ → (∀ ρ', I rest ρ' → N ρ') → dAsg T (e a) ρ fun ρ' => ts { E with nx := N, ct := N, bk := E.nx } ρ')
    (hd : ∀ ρ, I [] ρ → E.nx ρ) : ∀ (l : List α) (ρ : R), I l ρ → forGo T ts E (l.map e) ρ
  | [], ρ, h => hd ρ h
  | a :: l, ρ, h => hs a l ρ _ h fun ρ' h' => for_ind I hs hd l ρ' h'
end
end WH

set_option Elab.async false
set_option linter.all false
set_option maxRecDepth 100000
set_option maxHeartbeats 4000000
namespace WH
open PySem L2 PyProof.Rows

/-! ### dicts whose keys are tuples of ints and texts -/
def asKey : D → Option Key
  | .int i => some (.inl i)
  | .str s => some (.inr s)
  | _ => none
def asKs : List D → Option (List Key)
  | [] => some []
  | d :: ds => (asKey d).bind fun k => (asKs ds).map (k :: ·)
def asK : D → Option (List Key)
  | .tup ds => asKs ds
  | _ => none
theorem asKey_kD (k : Key) : asKey (kD k) = some k := by cases k <;> rfl
theorem asKs_kD : ∀ k : List Key, asKs (k.map kD) = some k
  | [] => rfl
  | k :: ks => by rw [List.map_cons, asKs, asKey_kD, asKs_kD ks]; rfl
theorem asKey_eq {d : D} {k : Key} (h : asKey d = some k) : d = kD k := by
  cases d <;> simp [asKey] at h <;> subst h <;> rfl
theorem asKs_eq : ∀ {ds : List D} {k : List Key}, asKs ds = some k → ds = k.map kD
  | [], k, h => by cases h; rfl
  | d :: ds, k, h => by
    simp only [asKs] at h
    obtain ⟨x, h1, h2⟩ := Option.bind_eq_some_iff.mp h
    obtain ⟨xs, h3, h4⟩ := Option.map_eq_some_iff.mp h2
    subst h4
    rw [List.map_cons, ← asKey_eq h1, ← asKs_eq h3]
theorem asK_eq {d : D} {k : List Key} (h : asK d = some k) : d = .tup (k.map kD) := by
  cases d <;> simp [asK] at h
  rw [asKs_eq h]
@[simp] theorem asK_tup (k : List Key) : asK (.tup (k.map kD)) = some k := asKs_kD k
def dget (kvs : List (D × D)) (k : List Key) : Option D := (kvs.find? fun p => decide (asK p.1 = some k)).map (·.2)
theorem DV.key {C : CK} {S : Hp} {v : V} {k : Key} (h : DV C S v (kD k)) : v = kV k := by
  cases k <;> (simp only [kD] at h; cases h; rfl)
theorem DVs.keys {C : CK} {S : Hp} : ∀ {vs : List V} {k : List Key}, DVs C S vs (k.map kD) → vs = k.map kV
  | _, [], h => by rw [List.map_nil] at h; cases h; rfl
  | _, k :: ks, h => by
    rw [List.map_cons] at h
    cases h with
    | cons h t => rw [h.key, DVs.keys t]; rfl
theorem DV.asK {C : CK} {S : Hp} {v : V} {d : D} {k : List Key} (h : DV C S v d) (e : asK d = some k) : ∃ b o, v = .ref b ∧ S b = some (.frz o (.tup (k.map kV))) ∧ o.dict = none := by
  rw [asK_eq e] at h
  cases h with
  | tup h1 hn h2 =>
    rw [h2.keys] at h1
    exact ⟨_, _, rfl, h1, hn⟩
def KeysOk (H : Hp) (raw : List (List Key × Addr × Value)) : Prop := ∀ p ∈ raw, ∃ o, H p.2.1 = some (.frz o (.tup (p.1.map kV)))
theorem DKs.keysOk {C : CK} {S : Hp} : ∀ {raw : List (List Key × Addr × Value)} {kvs : List (D × D)}, DKs C S raw kvs → KeysOk S raw
  | _, _, .nil => fun p hp => by cases hp
  | _, _, .cons hb hn hv h r => fun p hp => by
    rcases List.mem_cons.mp hp with z | z
    · subst z; exact ⟨_, hb⟩
    · exact DKs.keysOk r p z
theorem DKs.length {C : CK} {S : Hp} : ∀ {raw : List (List Key × Addr × Value)} {kvs : List (D × D)}, DKs C S raw kvs → raw.length = kvs.length
  | _, _, .nil => rfl
  | _, _, .cons _ _ _ _ r => by rw [List.length_cons, List.length_cons, DKs.length r]
theorem KeysOk.mono {H H' : Hp} {raw : List (List Key × Addr × Value)} (h : KeysOk H raw) (e : Ex H H') : KeysOk H' raw := fun p hp => let ⟨o, q⟩ := h p hp; ⟨o, e _ _ q⟩
theorem DKs.get {C : CK} {S : Hp} (k : List Key) : ∀ {raw : List (List Key × Addr × Value)} {kvs : List (D × D)}, DKs C S raw kvs →
    (∀ d, dget kvs k = some d → ∃ p v, atKey raw k = some p ∧ RelV v p.2 ∧ DV C S v d) ∧ (atKey raw k).isSome = (dget kvs k).isSome
  | _, _, .nil => ⟨fun d h => by simp [dget] at h, rfl⟩
  | _, _, .cons (k := k') (b := b) (u := u) (d := d0) hb hn hv h r => by
    obtain ⟨i1, i2⟩ := DKs.get k r
    by_cases e : k' = k
    · have e1 : ∀ (rw : List (List Key × Addr × Value)), atKey ((k', b, u) :: rw) k = some (b, u) := fun rw => by simp [atKey, List.find?_cons, e]
      have e2 : ∀ (kv : List (D × D)), dget ((D.tup (k'.map kD), d0) :: kv) k = some d0 := fun kv => by simp [dget, List.find?_cons, e]
      rw [e1, e2]
      exact ⟨fun d q => by cases q; exact ⟨(b, u), _, rfl, hv, h⟩, rfl⟩
    · have e1 : ∀ (rw : List (List Key × Addr × Value)), atKey ((k', b, u) :: rw) k = atKey rw k := fun rw => by simp [atKey, List.find?_cons, e]
      have e2 : ∀ (kv : List (D × D)), dget ((D.tup (k'.map kD), d0) :: kv) k = dget kv k := fun kv => by simp [dget, List.find?_cons, e]
      rw [e1, e2]
      exact ⟨i1, i2⟩
theorem key_ofF {P : Program} {w : World} {H : Hp} {h : Heap} {a : Addr} {o : Obj} {ks : List Key} (ok : HOk P w H h) (e : H a = some (.frz o (.tup (ks.map kV)))) : (tupleKind (mixKind P w)).is h ks a := by
  obtain ⟨_, _, its, r, o', h1, h2, n, h3⟩ := (show ObjOk P w H h a (.frz o (.tup (ks.map kV))) from ok a _ e)
  exact ⟨o', its.toArray, n, h1, h2, h3, by simpa using items_are r⟩
theorem dx_of {C : CK} {H : Hp} {h : Heap} {a : Addr} {ro : Obj × List (List Key × Addr × Value)} (ok : HOk C.P C.w H h) (e : H a = some (DX C a ro)) (hk : KeysOk H ro.2) :
    (a == sysModules) = false ∧ h.DictOfH (tupleKind (mixKind C.P C.w)) a ro.2 ∧ h.get? a = some ro.1 := by
  obtain ⟨⟨h1, h2, h3, es, ep, h4, h5, h6⟩, _, _⟩ := ok a _ e
  exact ⟨h1, ⟨ro.1, es, ep, h2, h3, h4, h5, fun x hx => let ⟨o, q⟩ := hk x hx; key_ofF ok q, h6⟩, h2⟩
def rInX (C : CK) (neg : Bool) : R2 := fun x y H Q => ∃ (a b : Addr) (k : List Key) (o : Obj) (ro : Obj × List (List Key × Addr × Value)), x = .ref b ∧ y = .ref a ∧ H a = some (DX C a ro) ∧ KeysOk H ro.2 ∧ H b = some (.frz o (.tup (k.map kV))) ∧ Q (.bl (if neg then !(atKey ro.2 k).isSome else (atKey ro.2 k).isSome)) H
def rIxX (C : CK) : R2 := fun x y H Q => ∃ (a b : Addr) (k : List Key) (o : Obj) (ro : Obj × List (List Key × Addr × Value)) (p : Addr × Value) (z : V), x = .ref a ∧ y = .ref b ∧ H a = some (DX C a ro) ∧ KeysOk H ro.2 ∧ H b = some (.frz o (.tup (k.map kV))) ∧ atKey ro.2 k = some p ∧ RelV z p.2 ∧ Q z H
section
variable {X : Cx} {C : Ctx}
theorem or_inX (hX : Fits C X) : OpR X (compareOp .In) (rInX C.ck false) := fun pins s σ H x y v u Q I rx ry ⟨a, b, k, o, ro, ex, ey, ha, hk, hb, q⟩ => by
  subst ex; subst ey
  cases rx; cases ry
  have ok := I.hok
  obtain ⟨hK, hM, hu, hc, hn, hP, hw⟩ := hX
  rw [hP, hw] at ok ⊢
  obtain ⟨h1, h2, _⟩ := dx_of ok ha hk
  exact wpAny_in_heap (tupleKind_room_in1 (by omega)) (key_ofF ok hb) h1 h2 ⟨.bl _, H, I.tok _, rfl, q⟩
theorem or_notInX (hX : Fits C X) : OpR X (compareOp .NotIn) (rInX C.ck true) := fun pins s σ H x y v u Q I rx ry ⟨a, b, k, o, ro, ex, ey, ha, hk, hb, q⟩ => by
  subst ex; subst ey
  cases rx; cases ry
  have ok := I.hok
  obtain ⟨hK, hM, hu, hc, hn, hP, hw⟩ := hX
  rw [hP, hw] at ok ⊢
  obtain ⟨h1, h2, _⟩ := dx_of ok ha hk
  exact wpAny_notIn_heap (tupleKind_room_in1 (by omega)) (key_ofF ok hb) h1 h2 ⟨.bl _, H, I.tok _, rfl, q⟩
theorem ix_dX (hX : Fits C X) : IxR X (rIxX C.ck) := by
  intro value slice pins s σ H x y v u Q I rx ry h hs
  obtain ⟨a, b, k, o, ro, p, z, rfl, rfl, ha, hk, hb, hp, rz, q⟩ := h
  cases rx; cases ry
  have ok := I.hok
  obtain ⟨hK, hM, hu, hc, hn, hP, hw⟩ := hX
  rw [hP, hw] at ok ⊢
  obtain ⟨h1, h2, _⟩ := dx_of ok ha hk
  exact subscriptTail_builtinR (x := p.2) h2.typeIs PySem.F.slot_dict_getitem.lookup (wpAny_getItem_heap (Q := fun r s' => r = p.2 ∧ EP X pins σ Q r s') (tupleKind_room_in1 (by omega)) (key_ofF ok hb) h2 hp ⟨rfl, z, H, I.tok _, rz, q⟩) hs
/-- in, of a list, a tuple, a dict -/
def inE : D → D → Option Bool
  | d, .dct kvs => (asK d).map fun k => (dget kvs k).isSome
  | d, e => inDD d e
def notInE (d e : D) : Option Bool := (inE d e).map (!·)
def ixE : D → D → Option D
  | .dct kvs, e => (asK e).bind (dget kvs)
  | d, e => ixD d e
def rInA (C : Ctx) (K : PySem.W.Frag) (neg : Bool) : R2 := fun x y H Q => rInSq K neg x y H Q ∨ rInX C.ck neg x y H Q
theorem or_inE (hX : Fits C X) : OpR X (compareOp .In) (rInA C X.K false) := (or_in hX).or (or_inX hX)
theorem or_notInE (hX : Fits C X) : OpR X (compareOp .NotIn) (rInA C X.K true) := (or_notIn hX).or (or_notInX hX)
theorem cg_inE (hX : Fits C X) : CmpG C inE (rInA C X.K false) := fun H x y d e z Q h1 h2 hz q => by
  cases e with
  | dct kvs =>
    simp only [inE] at hz
    obtain ⟨k, e1, e2⟩ := Option.map_eq_some_iff.mp hz
    obtain ⟨b, o, rfl, hb, _⟩ := h1.asK e1
    cases h2 with
    | dct ha hk =>
      refine .inr ⟨_, b, k, o, _, rfl, rfl, ha, hk.keysOk, hb, ?_⟩
      have := (hk.get k).2
      simp only [Bool.false_eq_true, if_false]
      rw [this, e2]
      exact q
  | _ => exact .inl (cg_in hX H x y d _ z Q h1 h2 hz q)
theorem cg_notInE (hX : Fits C X) : CmpG C notInE (rInA C X.K true) := fun H x y d e z Q h1 h2 hz q => by
  cases e with
  | dct kvs =>
    simp only [notInE, inE] at hz
    obtain ⟨z', e0, e3⟩ := Option.map_eq_some_iff.mp hz
    obtain ⟨k, e1, e2⟩ := Option.map_eq_some_iff.mp e0
    obtain ⟨b, o, rfl, hb, _⟩ := h1.asK e1
    cases h2 with
    | dct ha hk =>
      refine .inr ⟨_, b, k, o, _, rfl, rfl, ha, hk.keysOk, hb, ?_⟩
      have := (hk.get k).2
      simp only [if_true]
      rw [this, e2, e3]
      exact q
  | _ => exact .inl (cg_notIn hX H x y d _ z Q h1 h2 hz q)
def rIxA (C : Ctx) (K : PySem.W.Frag) : R2 := fun x y H Q => rIx K x y H Q ∨ rIxX C.ck x y H Q
theorem ix_all (hX : Fits C X) : IxR X (rIxA C X.K) := ix_seq.or (ix_dX hX)
theorem og_ixE (hX : Fits C X) : OpG C ixE (rIxA C X.K) := fun S H x y d e z Q eS h1 h2 hz q => by
  cases d with
  | dct kvs =>
    simp only [ixE] at hz
    obtain ⟨k, e1, e2⟩ := Option.bind_eq_some_iff.mp hz
    obtain ⟨b, o, rfl, hb, _⟩ := h2.asK e1
    cases h1 with
    | dct ha hk =>
      obtain ⟨p, v, p1, p2, p3⟩ := (hk.get k).1 z e2
      exact .inr ⟨_, b, k, o, _, p, v, rfl, rfl, eS _ _ ha, hk.keysOk.mono eS, eS _ _ hb, p1, p2, q.same p3⟩
  | _ => exact .inl (og_ix hX S H x y _ e z Q eS h1 h2 hz q)
end
/-! ### {k: v}, d[k] = v -/
def dDct1 (tk tv : DE) : DE := fun ρ P => tk ρ fun k => tv ρ fun v => ∃ ks, asK k = some ks ∧ P (.dct [(k, v)])
def dPut (i : Nat) (tk tv : DE) : DS := fun E ρ => (∃ kvs, ρ[i]? = some (some (Slot.own (.dct kvs)))) ∧ tv ρ fun v => tk ρ fun k => ∃ kvs ks, ρ[i]? = some (some (Slot.own (.dct kvs))) ∧ asK k = some ks ∧ dget kvs ks = none ∧ kvs.length < 100000 ∧ E.nx (ρ.set i (some (.own (.dct (kvs ++ [(k, v)])))))
theorem dx_new {C : CK} {h : Heap} {a : Addr} {xs : List (List Key × Addr × Value)} (hd : (a == sysModules) = false) (dd : h.DictOfH (tupleKind (mixKind C.P C.w)) a xs) : ∃ o, h.get? a = some o ∧ ∀ H, ObjOk C.P C.w H h a (DX C a (o, xs)) := by
  obtain ⟨o, es, ep, h1, h2, h3, h4, _, h6⟩ := dd
  exact ⟨o, h1, fun H => ⟨⟨hd, h1, h2, es, ep, h3, h4, h6⟩, ⟨o, h1⟩, fun h1 h2 ⟨a1, a2, a3⟩ st => ⟨a1, st _ a2, a3⟩⟩⟩
theorem DKs.snoc {C : CK} {S : Hp} {k : List Key} {b : Addr} {u : Value} {o : Obj} {v : V} {d : D} (hb : S b = some (.frz o (.tup (k.map kV)))) (hn : o.dict = none) (hv : RelV v u) (h : DV C S v d) : ∀ {raw : List (List Key × Addr × Value)} {kvs : List (D × D)}, DKs C S raw kvs → DKs C S (raw ++ [(k, b, u)]) (kvs ++ [(.tup (k.map kD), d)])
  | _, _, .nil => .cons hb hn hv h .nil
  | _, _, .cons hb' hn' hv' h' r => .cons hb' hn' hv' h' (DKs.snoc hb hn hv h r)
section
variable {X : Cx} {C : Ctx} {e k v : Expr} {te tk tv : DE} {pos pos' p : Pos}
theorem Rep.tick {pn : List (V × D)} {G : Gh} {ρ : R} {σ : L2.St} {H : Hp} {a : Addr} {o : HO} (r : Rep C pn G ρ σ H) (h : H a = none) : Step G H G.S (upd H a o) :=
  ⟨fun b u _ q => Ex.new h b u q, Ex.refl _, fun b u q => ⟨Ex.new h b u (r.sub b u q).1, (r.sub b u q).2⟩, fun _ _ q => .inl q, r.J.ex (Ex.new h)⟩
theorem df_dct1 (hX : Fits C X) (hk : PE X k (liE C tk)) (hv : PE X v (liE C tv)) : PE X (.Dict [some k] [v] pos) (liF C (dDct1 tk tv)) := by
  refine ⟨fun pins s σ H Q I ⟨pn, G, ρ, P, rp, t, kk⟩ => ?_⟩
  obtain ⟨hK, hM, hu, hc, hn, hP, hw⟩ := hX
  have hfr := I.hok.fresh (Nat.le_refl s.heap.objs.size)
  have I1 := I.laid (a := s.heap.objs.size) (o := .dT []) (h' := s.heap.push { cls := .type "dict", data := .dict #[] }) (t' := s.toks) (fun _ _ q => Heap.get?_push_of_some _ q) (Nat.le_refl _) (dt_empty s.heap I.big)
  have s0 : Step G H G.S (upd H s.heap.objs.size (.dT [])) := rp.tick hfr
  have r1 := rp.step s0
  have hpairs := (pps_cons (pos := pos) hk hv pps_nil).run pins _ σ _ (fun ps H2 => ∃ kd vd kx vx ks S2, ps = [(kx, vx)] ∧ asK kd = some ks ∧ P (.dct [(kd, vd)]) ∧ Step { G with S := G.S } (upd H s.heap.objs.size (.dT [])) S2 H2 ∧ DV C.ck S2 kx kd ∧ DV C.ck S2 vx vd) I1
    ⟨pn, _, ρ, _, r1, t, fun kd kx S1 H1 p1 s1 d1 => ⟨pn, _, ρ, _, r1.step s1, p1, fun vd vx S2 H2 ⟨ks, q1, q2⟩ s2 d2 => ⟨kd, vd, kx, vx, ks, S2, rfl, q1, q2, Step.trans r1 s1 s2, d1.mono s2.grow, d2⟩⟩⟩
  rw [arm_eval_Dict, zip_pairTrees [some k] [v] X.env pos rfl rfl, dictDisplay_pairs _ (by simp [pairTrees]) (by simp [pairTrees])]
  refine wpAny_bind (wpAny_standAt (wpAny_bind ?_))
  refine wpAny_subDictH (knd := tupleKind (mixKind X.prog X.w)) (show X.A.units < cLine by omega) (by simp [pairTrees]) (thn hpairs fun ws s2 ⟨ps, H2, I2, rel, kd, vd, kx, vx, ks, S2, ep, e1, e2, st, d1, d2⟩ => ?_)
  subst ep
  obtain ⟨qk, qv, rfl, r0⟩ : ∃ qk qv, ws = [(qk, qv)] ∧ RelV kx qk ∧ RelV vx qv := by
    cases rel with
    | cons r0 rt => cases rt; exact ⟨_, _, rfl, r0.1, r0.2⟩
  obtain ⟨b, ob, rfl, hb, hob⟩ := d1.asK e1
  cases (show qk = Value.ref b from r0.1)
  have hnew : (upd H s.heap.objs.size (.dT [])) s.heap.objs.size = some (.dT []) := upd_same
  have hvol : G.vol s.heap.objs.size = false := Step.novol rp hfr
  have hd2 := st.keep s.heap.objs.size _ hvol hnew
  have hkey : (tupleKind (mixKind X.prog X.w)).is s2.heap ks b := key_ofF I2.hok (st.exH _ _ hb)
  obtain ⟨z, hsm, vs0, rr0, dd⟩ := dt_of I2.hok hd2
  cases rr0
  refine ⟨[(ks, b, qv)], ⟨rfl, rfl, hkey, True.intro⟩, dd, fun h' tk' dd' hs => ?_⟩
  refine wpAny_pure ?_
  have e3 : storedAllH [] [(ks, b, qv)] = [(ks, b, qv)] := storedAllH_nil_of_nodup _ (by simp)
  rw [e3] at dd'
  have dd2 : h'.DictOfH (tupleKind (mixKind C.P C.w)) s.heap.objs.size [(ks, b, qv)] := by rw [← hP, ← hw]; exact dd'
  obtain ⟨on, hon, hok⟩ := dx_new (C := C.ck) hsm dd2
  have I4 := d_write (t' := tk') (ob := DX C.ck s.heap.objs.size (on, [(ks, b, qv)])) I2 (by rw [hd2]; exact True.intro) hs ⟨on, hon⟩ (by have := hok (upd H2 s.heap.objs.size (DX C.ck s.heap.objs.size (on, [(ks, b, qv)]))); rw [hP, hw]; exact this)
  have hS2 : S2 s.heap.objs.size = none := by
    cases q : S2 s.heap.objs.size with
    | none => rfl
    | some u =>
      have z1 := (st.sub _ u q).1
      rw [hd2] at z1
      cases z1
      rcases st.new _ _ q with z | z | z
      · rw [(rp.sub _ _ z).1] at hfr; cases hfr
      · rw [upd_same] at z; cases z
      · cases z
  have hJ : JOf G.tb G.T (upd H2 s.heap.objs.size (DX C.ck s.heap.objs.size (on, [(ks, b, qv)]))) := st.J.keep fun a u hu ha => by
    have hne : a ≠ s.heap.objs.size := fun z => by
      subst z
      rcases hu with z | z
      · have hvol' : volOf G.tb G.T s.heap.objs.size = false := hvol
        rw [hvol'] at z; cases z
      · rw [hd2] at ha; cases ha; cases z
    rw [upd_ne hne]; exact ha
  refine ⟨.ref s.heap.objs.size, _, I4, rfl, kk (.dct [(kd, vd)]) _ S2 _ e2 ⟨fun a u h1 h2 => ?_, s0.grow.trans st.grow, fun a u h => ?_, fun a u h => ?_, hJ⟩ hS2 hfr ⟨(on, [(ks, b, qv)]), upd_same, ?_⟩⟩
  · have hne : a ≠ s.heap.objs.size := fun z => by rw [z, hfr] at h2; cases h2
    rw [upd_ne hne]
    exact st.keep a u h1 (s0.keep a u h1 h2)
  · have hne : a ≠ s.heap.objs.size := fun z => by rw [z, hS2] at h; cases h
    rw [upd_ne hne]
    exact st.sub a u h
  · rcases st.new a u h with z | z | z
    · exact .inl z
    · refine .inr (.inl ?_)
      have hne : a ≠ s.heap.objs.size := fun z' => by rw [z', hS2] at h; cases h
      rwa [upd_ne hne] at z
    · exact .inr (.inr z)
  · rw [asK_eq e1]
    exact .cons hb hob r0.2 d2 .nil
theorem ds_put {i : Nat} {x : Str} (hX : Fits C X) (hT : C.T0 = []) (hk : PE X k (liE C tk)) (hv : PE X v (liE C tv)) (hN : X.N[i]? = some x := by rfl) (hvx : Vis X.env.scope x := by first | exact Or.inl rfl | exact Or.inr (Or.inl rfl) | exact Or.inr (Or.inr rfl)) (hd : (x == ("__debug__" : Str)) = false := by decide) (hcd : (x == ("__classdict__" : Str)) = false := by decide)
    (hs : swapsWith v (some (.Subscript (.Name x p) k pos')) pos.line X.env = pure false := by rfl) : PS X (.Assign [.Subscript (.Name x p) k pos'] v pos) (liS C (dPut i tk tv)) := by
  refine ⟨fun pins s σ H Dd I ⟨pn, G, ρ, E, rp, ⟨⟨kvs0, q0⟩, t⟩, kk⟩ => ?_⟩
  obtain ⟨hK, hM, hu, hc, hn, hP, hw⟩ := hX
  obtain ⟨a, h1, hS, hv0, hH0, raw, hO, hDK⟩ := rp.own i _ q0
  refine wpAny_Assign_Subscript (thn (hv.run pins s σ H (fun vx H1 => ∃ vd S1, Step G H S1 H1 ∧ DV C.ck S1 vx vd ∧ tk ρ fun k => ∃ kvs ks, ρ[i]? = some (some (Slot.own (.dct kvs))) ∧ asK k = some ks ∧ dget kvs ks = none ∧ kvs.length < 100000 ∧ E.nx (ρ.set i (some (.own (.dct (kvs ++ [(k, vd)])))))) I ⟨pn, G, ρ, _, rp, t, fun d v S' H' p s dv => ⟨d, S', s, dv, p⟩⟩) fun r s1 ⟨vx, H1, I1, rv, vd, S1, st1, dv1, t1⟩ =>
    thn ((pe_var (pos := p) hN hvx hd hcd).run pins s1 σ H1 (fun u H2 => u = .ref a ∧ H2 = H1) I1 ⟨.ref a, h1, rfl, rfl⟩) fun u s2 ⟨x2, H2, I2, r2, ex2, eH2⟩ => ?_) hs
  subst ex2; subst eH2
  cases r2
  refine thn (hk.run pins s2 σ H2 (fun kx H3 => ∃ kd S3, Step { G with S := S1 } H2 S3 H3 ∧ DV C.ck S3 kx kd ∧ ∃ kvs ks, ρ[i]? = some (some (Slot.own (.dct kvs))) ∧ asK kd = some ks ∧ dget kvs ks = none ∧ kvs.length < 100000 ∧ E.nx (ρ.set i (some (.own (.dct (kvs ++ [(kd, vd)])))))) I2 ⟨pn, _, ρ, _, rp.step st1, t1, fun d v S' H' p s dv => ⟨d, S', s, dv, p⟩⟩) fun iv s3 ⟨kx, H3, I3, rk, kd, S3, st3, dk, kvs, ks, hkv, hks, hfresh, hlen, hnx⟩ => ?_
  rw [q0] at hkv; cases hkv
  obtain ⟨b, ob, rfl, hb, hob⟩ := dk.asK hks
  cases rk
  have st := Step.trans rp st1 st3
  have hO3 := st.keep a _ hv0 hO
  have hDK3 := hDK.mono st.grow
  have ok := I3.hok
  rw [hP, hw] at ok
  obtain ⟨d1, d2, d3⟩ := dx_of (C := C.ck) ok hO3 (hDK3.keysOk.mono st.exH)
  have hl3 := hDK3.length
  rw [hP, hw]
  refine wpAny_setItem_heap (hsz := by rw [sizeLine_eq]; omega) (tupleKind_room_in1 (by omega)) (key_ofF ok (st.exH _ _ hb)) d2 fun h' dd' hs' => ?_
  have hst : storedH raw.2 ks b r = raw.2 ++ [(ks, b, r)] := by
    unfold storedH
    rw [(hDK3.get ks).2, hfresh]
    rfl
  rw [hst] at dd'
  obtain ⟨on, hon, hok⟩ := dx_new (C := C.ck) d1 dd'
  have I4 := d_write (t' := s3.toks + (tupleKind (mixKind C.P C.w)).draws ks) (ob := DX C.ck a (on, raw.2 ++ [(ks, b, r)])) I3 (by rw [hO3]; exact True.intro) hs' ⟨on, hon⟩ (by have := hok (upd H3 a (DX C.ck a (on, raw.2 ++ [(ks, b, r)]))); rw [hP, hw]; exact this)
  refine ⟨σ, _, I4, kk.nx _ _ _ _ ((rp.step st).mut (i := i) (a := a) (d := .dct kvs0) (d' := .dct (kvs0 ++ [(kd, vd)])) hO3 (.inr hT) q0 h1 ⟨(on, raw.2 ++ [(ks, b, r)]), upd_same, ?_⟩) hnx⟩
  rw [asK_eq hks]
  exact hDK3.snoc hb hob rv (dv1.mono st3.grow)
end
end WH

set_option Elab.async false
set_option linter.all false
set_option maxRecDepth 100000
set_option maxHeartbeats 4000000
namespace WH
open PySem L2 PyProof.Rows

/-! ### a dict walked by its keys -/
def Itx (C : CK) (d : Addr) (ro : Obj × List (List Key × Addr × Value)) : It :=
  ⟨fun i H => (H d = some (DX C d ro) ∧ KeysOk H ro.2) ∧ i < ro.2.length, fun i H x H' => H' = H ∧ ∃ q, ro.2[i]? = some q ∧ x = .ref q.2.1, fun i H => (H d = some (DX C d ro) ∧ KeysOk H ro.2) ∧ ro.2.length ≤ i⟩
theorem dx_es {C : CK} {H : Hp} {h : Heap} {a : Addr} {ro : Obj × List (List Key × Addr × Value)} (ok : HOk C.P C.w H h) (e : H a = some (DX C a ro)) :
    (a == sysModules) = false ∧ h.get? a = some ro.1 ∧ ro.1.ExactDict ∧ ∃ es ep, ro.1.data = .dict es ep ∧ es.size = ro.2.length ∧ ∀ (i : Nat) q, ro.2[i]? = some q → ∃ en, es[i]? = some en ∧ en.key = .ref q.2.1 := by
  obtain ⟨⟨h1, h2, h3, es, ep, h4, h5, h6⟩, _, _⟩ := ok a _ e
  refine ⟨h1, h2, h3, es, ep, h4, ?_, fun i q hq => ?_⟩
  · have := congrArg List.length h5
    simpa using this
  · refine ⟨entryOfKey (tupleKind (mixKind C.P C.w)) q, ?_, rfl⟩
    rw [← Array.getElem?_toList, h5, List.getElem?_map, hq]
    rfl
theorem turn_dX {K : PySem.W.Frag} {mg : Str → Option Value} {P : Program} {w : World} {tg : Expr} {d : Addr} {ro : Obj × List (List Key × Addr × Value)} {es : Array DictEntry} {ep : Nat} (it : Addr) (hod : ro.1.data = .dict es ep) : Turn P w K tg (Itx ⟨K, mg, P, w⟩ d ro) [it] it (fun i h => h.IsKeyIter it d i ro.2.length ep) where
  mem := List.mem_singleton.mpr rfl
  obj := fun i h st b hb => by
    rw [List.mem_singleton.mp hb]
    obtain ⟨oi, e1, _, e3⟩ := st
    exact ⟨oi, e1, fun v z => by rw [e3] at z; cases z⟩
  keep := fun i h h' st k => st.at fun oi e1 => k it (List.mem_singleton.mpr rfl) oi e1
  item := by
    intro X hP hw hK hc i pins s σ H E I hf st hg
    subst hP hw hK
    obtain ⟨⟨g1, g2⟩, g3⟩ := hg
    obtain ⟨f0, f1, f2, f3, f4, f5⟩ := hf it (List.mem_singleton.mpr rfl)
    obtain ⟨n1, n2, n3, es', ep', n4, n5, n6⟩ := dx_es (C := ⟨X.K, mg, X.prog, X.w⟩) I.hok g1
    obtain ⟨ee1, ee2⟩ := dict_ep hod n4
    subst ee1; subst ee2
    obtain ⟨q, hq⟩ : ∃ q, ro.2[i]? = some q := ⟨_, List.getElem?_eq_getElem g3⟩
    obtain ⟨en, m1, m2⟩ := n6 i q hq
    refine next_key_item st n2 n4 n5 m1 fun h' st' sb => ⟨en.key, rfl, ?_⟩
    obtain ⟨oi, w1, w2, w3⟩ := id st'
    have I1 : Inv X pins σ H { s with heap := h' } := I.turned (t' := s.toks) (fun b ob hb e => (sb.2 b hb).trans e) f0 f1 f3 f4 f5
    exact go_of (s := { s with heap := h' }) w1 w2 w3 (by decide) ⟨.ref q.2.1, H, I1, m2, ⟨rfl, q, hq, rfl⟩, st', fun b hb => (hf b hb).1⟩
  done := by
    intro X hP hw hK hc i pins s σ H E I hf st hg
    subst hP hw hK
    obtain ⟨⟨g1, g2⟩, g3⟩ := hg
    obtain ⟨f0, f1, f2, f3, f4, f5⟩ := hf it (List.mem_singleton.mpr rfl)
    obtain ⟨n1, n2, n3, es', ep', n4, n5, n6⟩ := dx_es (C := ⟨X.K, mg, X.prog, X.w⟩) I.hok g1
    obtain ⟨ee1, ee2⟩ := dict_ep hod n4
    subst ee1; subst ee2
    exact next_key_end (I.ok.hd hc) st n2 n4 n5 g3 fun h' eb => ⟨rfl, I.turned (t' := s.toks) (fun b ob hb e => eb b ob hb e) f0 f1 f3 f4 f5⟩
  self := fun A i s Q E st h => by
    refine wpAny_pyIter_slot st.typeIs F.slot_dict_keyiterator_iter ?_
    refine wpAny_call_entry F.slot_dict_keyiterator_iter st.typeIs F.entry_dict_keyiterator_iter ?_ (F.args_dict_keyiterator_iter_1 _)
    exact wpAny_pure ⟨_, rfl, "dict_keyiterator", _, st.typeIs, F.slot_dict_keyiterator_next.lookup, h⟩
theorem itx_ok {C : CK} {a : Addr} {ro : Obj × List (List Key × Addr × Value)} : ItOk C (Itx C a ro) (ro.2.map fun q => .tup (q.1.map kD)) ((.ref a, .cell (DX C a ro)) :: ro.2.map fun q => (V.ref q.2.1, D.tup (q.1.map kD))) := by
  have base : ∀ S H, Ex S H → (∀ p ∈ (V.ref a, D.cell (DX C a ro)) :: ro.2.map fun q => (V.ref q.2.1, D.tup (q.1.map kD)), DV C S p.1 p.2) → (H a = some (DX C a ro) ∧ KeysOk H ro.2) ∧ ∀ q ∈ ro.2, DV C S (V.ref q.2.1) (D.tup (q.1.map kD)) := fun S H e hv => by
    have h2 : ∀ q ∈ ro.2, DV C S (V.ref q.2.1) (D.tup (q.1.map kD)) := fun q hq => hv (V.ref q.2.1, D.tup (q.1.map kD)) (List.mem_cons_of_mem _ (List.mem_map.mpr ⟨q, hq, rfl⟩))
    refine ⟨⟨?_, fun q hq => ?_⟩, h2⟩
    · cases hv _ (List.mem_cons_self ..) with
      | cell h => exact e _ _ h
    · obtain ⟨b, o, e1, e2, _⟩ := (h2 q hq).asK (asK_tup q.1)
      cases e1
      exact ⟨o, e _ _ e2⟩
  refine ⟨fun S H i e hv hi => ⟨(base S H e hv).1, by simpa using hi⟩, fun S H i e hv hi => ⟨(base S H e hv).1, by simpa using hi⟩, fun S H i v H3 e hv hi y => ?_⟩
  obtain ⟨y1, q, y2, y3⟩ := y
  subst y1; subst y3
  refine ⟨_, .tup (q.1.map kD), New.refl _, by rw [List.getElem?_map, y2]; rfl, ?_⟩
  exact ((base S H3 e hv).2 q (List.mem_of_getElem? y2)).shr
def itemsE : D → Option (List D)
  | .dct kvs => some (kvs.map (·.1))
  | d => itemsOf d
def diSeqE (te : DE) : DI := fun ρ P => te ρ fun d => oP (itemsE d) P
def iSeqE (C : CK) (tl : TE) : TI := fun σ H R => tl σ H fun x H1 => ∃ a, x = .ref a ∧ (((∃ xs, SqL C.K H1 a xs) ∧ R (Itl C.K a) H1) ∨ ((∃ xs, SqT C.K H1 a xs) ∧ R (Itt C.K a) H1) ∨ ∃ ro, H1 a = some (DX C a ro) ∧ R (Itx C a ro) H1)
theorem DKs.fst {C : CK} {S : Hp} : ∀ {raw : List (List Key × Addr × Value)} {kvs : List (D × D)}, DKs C S raw kvs → kvs.map (·.1) = raw.map fun q => .tup (q.1.map kD)
  | _, _, .nil => rfl
  | _, _, .cons _ _ _ _ r => by rw [List.map_cons, List.map_cons, DKs.fst r]
theorem DKs.kdv {C : CK} {S : Hp} : ∀ {raw : List (List Key × Addr × Value)} {kvs : List (D × D)}, DKs C S raw kvs → ∀ q ∈ raw, DV C S (.ref q.2.1) (.tup (q.1.map kD))
  | _, _, .nil, q, h => by cases h
  | _, _, .cons (k := k) hb hn hv h r, q, hq => by
    rcases List.mem_cons.mp hq with z | z
    · subst z
      have key : ∀ k : List Key, DVs C S (k.map kV) (k.map kD) := fun k => by
        induction k with
        | nil => exact .nil
        | cons x xs ih => exact .cons (by cases x <;> constructor) ih
      exact .tup hb hn (key k)
    · exact DKs.kdv r q z
section
variable {X : Cx} {C : Ctx} {tg e : Expr} {te : DE} {pos p : Pos}
theorem pi_seqE {tl : TE} (hX : Fits C X) (h : PE X e tl) : PI X tg e (iSeqE C.ck tl) := by
  obtain ⟨hK, hM, hu, hc, hn, hP, hw⟩ := hX
  obtain ⟨⟨K', mg', P', w'⟩, H0, tb0, T0⟩ := C
  simp only at hP hw hK
  subst hP; subst hw; subst hK
  refine ⟨fun pins s σ H R I h0 => thn (h.run pins s σ H _ I h0) fun v s1 ⟨x, H1, I1, rx, a, ea, q⟩ => ?_⟩
  subst ea
  cases rx
  rcases q with ⟨⟨xs, hx⟩, q⟩ | ⟨⟨xs, hx⟩, q⟩ | ⟨ro, hx, q⟩
  · obtain ⟨us, _, pl, _⟩ := I1.list hx
    exact wpAny_pyIter_list pl.isList ⟨_, [s1.heap.objs.size], _, _, H1, rfl, I1.kept (t' := s1.toks) fun _ _ z => Heap.get?_push_of_some _ z, turn_list a _, ⟨_, Heap.get?_push_size _ rfl, rfl, rfl⟩, fp1 I1, q⟩
  · obtain ⟨us, _, pt, _⟩ := I1.tuple hx
    have pt' : s1.heap.IsTuple a us.toArray := pt
    exact wpAny_pyIter_tuple pt' ⟨_, [s1.heap.objs.size], _, _, H1, rfl, I1.kept (t' := s1.toks) fun _ _ z => Heap.get?_push_of_some _ z, turn_tuple a _, ⟨_, Heap.get?_push_size _ rfl, rfl, rfl⟩, fp1 I1, q⟩
  · obtain ⟨n1, n2, n3, es, ep, n4, n5, n6⟩ := dx_es (C := ⟨X.K, mg', X.prog, X.w⟩) I1.hok hx
    refine iter_keys n1 n2 n3 n4 (pi_one (tk := s1.toks) I1 _ (turn_dX (mg := mg') _ n4) ⟨_, Heap.get?_push_size _ rfl, rfl, ?_⟩ q)
    rw [n5]; rfl
theorem di_seqE (hX : Fits C X) (h : PE X e (liE C te)) : PI X tg e (liI C (diSeqE te)) := PI.to (pi_seqE hX h) fun σ H R ⟨pn, G, ρ, P, r, t, k⟩ => ⟨pn, G, ρ, _, r, t, fun d v S' H' ⟨xs, hx, p⟩ s dv => by
  cases dv with
  | lst h1 h2 =>
    cases hx
    exact ⟨_, rfl, .inl ⟨⟨_, s.exH.l (SqL.of h1)⟩, k _ _ _ _ [(_, _)] p s (fun q hq => by rw [List.mem_singleton.mp hq]; exact .lst h1 h2) itl_ok⟩⟩
  | tup h1 hn h2 =>
    cases hx
    exact ⟨_, rfl, .inr (.inl ⟨⟨_, s.exH.t (frz_t h1)⟩, k _ _ _ _ [(_, _)] p s (fun q hq => by rw [List.mem_singleton.mp hq]; exact .tup h1 hn h2) itt_ok⟩)⟩
  | dct h1 h2 =>
    simp only [itemsE, Option.some.injEq] at hx
    rw [h2.fst] at hx
    subst hx
    refine ⟨_, rfl, .inr (.inr ⟨_, s.exH _ _ h1, k _ _ _ _ _ p s (fun q hq => ?_) itx_ok⟩)⟩
    rcases List.mem_cons.mp hq with z | z
    · subst z; exact .cell h1
    · obtain ⟨q', z1, z2⟩ := List.mem_map.mp z
      subst z2
      exact h2.kdv q' z1
  | _ => cases hx⟩
end
/-! ### zip -/
def zipD : List D → List D → List D
  | a :: as, b :: bs => .pr [a, b] :: zipD as bs
  | _, _ => []
def diZip (ta : DA) : DI := fun ρ P => ta ρ fun ds => ∃ as bs, ((ds = [.tup as, .tup bs]) ∨ (ds = [.lst as, .lst bs])) ∧ P (zipD as bs)
theorem zipD_len : ∀ as bs : List D, (zipD as bs).length = min as.length bs.length
  | [], _ => by simp [zipD]
  | _ :: _, [] => by simp [zipD]
  | a :: as, b :: bs => by simp only [zipD, List.length_cons, zipD_len as bs]; omega
theorem zipD_get : ∀ {as bs : List D} {i : Nat} {a b : D}, as[i]? = some a → bs[i]? = some b → (zipD as bs)[i]? = some (.pr [a, b])
  | [], _, _, _, _, h, _ => by simp at h
  | _ :: _, [], _, _, _, _, h => by simp at h
  | x :: as, y :: bs, 0, _, _, h1, h2 => by simp at h1 h2; subst h1; subst h2; rfl
  | x :: as, y :: bs, i + 1, a, b, h1, h2 => by
    simp only [zipD, List.getElem?_cons_succ] at *
    exact zipD_get h1 h2
theorem pair_new {C : CK} {S H : Hp} {T : Addr} {x y : V} {d e : D} (eS : Ex S H) (hT : H T = none) (h1 : DV C S x d) (h2 : DV C S y e) : New H (upd H T (.tup [x, y])) (fun a => if a = T then some (.tup [x, y]) else none) ∧ DV C (un S fun a => if a = T then some (.tup [x, y]) else none) (.ref T) (.pr [d, e]) := by
  refine ⟨New.one hT, .pr (xs := [x, y]) ?_ (.cons h1.shr (.cons h2.shr .nil))⟩
  unfold un
  rw [eS.free hT]
  simp
theorem itzT_ok {C : CK} {a b : Addr} {as bs : List D} : ItOk C (RZ.ItzT C.K a b) (zipD as bs) [(.ref a, .tup as), (.ref b, .tup bs)] where
  go := fun S H i e hv hi => by
    obtain ⟨xs, h1, h2⟩ := (hv (V.ref a, D.tup as) (by simp)).t
    obtain ⟨ys, h3, h4⟩ := (hv (V.ref b, D.tup bs) (by simp)).t
    rw [zipD_len] at hi
    have l1 : i < xs.length := by rw [h2.length]; omega
    have l2 : i < ys.length := by rw [h4.length]; omega
    exact ⟨xs, ys, xs[i], ys[i], e.t h1, e.t h3, by simp [l1], by simp [l2]⟩
  stop := fun S H i e hv hi => by
    obtain ⟨xs, h1, h2⟩ := (hv (V.ref a, D.tup as) (by simp)).t
    obtain ⟨ys, h3, h4⟩ := (hv (V.ref b, D.tup bs) (by simp)).t
    rw [zipD_len] at hi
    exact ⟨xs, ys, e.t h1, e.t h3, by rw [h2.length, h4.length]; omega⟩
  yld := fun S H i v H3 e hv hi y => by
    obtain ⟨xs, h1, h2⟩ := (hv (V.ref a, D.tup as) (by simp)).t
    obtain ⟨ys, h3, h4⟩ := (hv (V.ref b, D.tup bs) (by simp)).t
    obtain ⟨T, x, z, rfl, hT, rfl, y1, y2⟩ := y
    obtain ⟨d1, q1, q2⟩ := h2.get (y1 xs (e.t h1))
    obtain ⟨d2, q3, q4⟩ := h4.get (y2 ys (e.t h3))
    obtain ⟨n1, n2⟩ := pair_new e hT q2 q4
    exact ⟨_, _, n1, zipD_get q1 q3, n2⟩
theorem itzL_ok {C : CK} {a b : Addr} {as bs : List D} : ItOk C (L2.Itz C.K a b) (zipD as bs) [(.ref a, .lst as), (.ref b, .lst bs)] where
  go := fun S H i e hv hi => by
    obtain ⟨xs, h1, h2⟩ := (hv (V.ref a, D.lst as) (by simp)).l
    obtain ⟨ys, h3, h4⟩ := (hv (V.ref b, D.lst bs) (by simp)).l
    rw [zipD_len] at hi
    have l1 : i < xs.length := by rw [h2.length]; omega
    have l2 : i < ys.length := by rw [h4.length]; omega
    exact ⟨xs, ys, xs[i], ys[i], e.l h1, e.l h3, by simp [l1], by simp [l2]⟩
  stop := fun S H i e hv hi => by
    obtain ⟨xs, h1, h2⟩ := (hv (V.ref a, D.lst as) (by simp)).l
    obtain ⟨ys, h3, h4⟩ := (hv (V.ref b, D.lst bs) (by simp)).l
    rw [zipD_len] at hi
    exact ⟨xs, ys, e.l h1, e.l h3, by rw [h2.length, h4.length]; omega⟩
  yld := fun S H i v H3 e hv hi y => by
    obtain ⟨xs, h1, h2⟩ := (hv (V.ref a, D.lst as) (by simp)).l
    obtain ⟨ys, h3, h4⟩ := (hv (V.ref b, D.lst bs) (by simp)).l
    obtain ⟨T, x, z, rfl, hT, rfl, y1, y2⟩ := y
    obtain ⟨d1, q1, q2⟩ := h2.get (y1 xs (e.l h1))
    obtain ⟨d2, q3, q4⟩ := h4.get (y2 ys (e.l h3))
    obtain ⟨n1, n2⟩ := pair_new e hT q2 q4
    exact ⟨_, _, n1, zipD_get q1 q3, n2⟩
section
variable {X : Cx} {C : Ctx} {e e2 : Expr} {ta : DA} {pos p tpos : Pos} {elts : List Expr} {kk : Nat}
theorem di_zip (hX : Fits C X) (hg : Gl X "zip") (hm : X.mg "zip" = none) (ha : PA X [e, e2] (liA C ta)) (hs : starEach [e, e2] X.env = (false, eval e X.env) :: starEach [e2] X.env := by rfl) (hpl : (backTo pos (starEach [e2] X.env)).any (·.1) = false := by rfl) :
    PI X (.Tuple elts kk tpos) (.Call (.Name "zip" p) [e, e2] [] pos) (liI C (diZip ta)) :=
  PI.to (RZ.pi_zipA hg hm ha hs hpl) fun σ H R ⟨pn, G, ρ, P, r, t, k⟩ => ⟨pn, G, ρ, _, r, t, fun ds vs S' H' ⟨as, bs, ed, pp⟩ s dv => by
    rw [hX.K]
    rcases ed with rfl | rfl
    · obtain ⟨v, w, rfl, d1, d2⟩ := dvs2 dv
      obtain ⟨a, xs, rfl, t1, m1⟩ := d1.tX hX s.exH
      obtain ⟨b, ys, rfl, t2, m2⟩ := d2.tX hX s.exH
      rw [hX.K] at t1 t2
      refine ⟨a, b, xs, ys, rfl, .inr ⟨t1, t2, k _ _ S' H' [(.ref a, .tup as), (.ref b, .tup bs)] pp s (fun q hq => ?_) itzT_ok⟩⟩
      simp at hq
      rcases hq with rfl | rfl
      · exact d1
      · exact d2
    · obtain ⟨v, w, rfl, d1, d2⟩ := dvs2 dv
      obtain ⟨a, xs, rfl, t1, m1⟩ := d1.lX s.exH
      obtain ⟨b, ys, rfl, t2, m2⟩ := d2.lX s.exH
      refine ⟨a, b, xs, ys, rfl, .inl ⟨SqL.of t1, SqL.of t2, k _ _ S' H' [(.ref a, .lst as), (.ref b, .lst bs)] pp s (fun q hq => ?_) itzL_ok⟩⟩
      simp at hq
      rcases hq with rfl | rfl
      · exact d1
      · exact d2⟩
end
end WH

set_option Elab.async false
set_option linter.all false
set_option maxRecDepth 100000
set_option maxHeartbeats 4000000
namespace WH
open PySem L2 PyProof.Rows
open PySem.W (dataLt alike EachIs AllAlike Sortable dataLe)

/-! ### sorted -/
def leP (a b : D) : Bool := !dataLt (toPy b) (toPy a)
def isNT : D → Bool
  | .tup (_ :: _) => true
  | _ => false
def isI : D → Bool
  | .int _ => true
  | _ => false
def sortOk (ds : List D) : Bool := ds.all (plN 5) && ds.all (fun a => ds.all fun b => alike (toPy a) (toPy b)) && (ds.all isNT || ds.all isI)
def sortL (ds : List D) : List D := ds.mergeSort leP
theorem sortOk_all {ds : List D} (h : sortOk ds = true) : (∀ d ∈ ds, plN 5 d = true) ∧ PySem.W.AllAlike (ds.map toPy) ∧ PySem.W.Sortable (ds.map toPy) := by
  unfold sortOk at h
  simp only [Bool.and_eq_true, List.all_eq_true, Bool.or_eq_true] at h
  obtain ⟨⟨h1, h2⟩, h3⟩ := h
  refine ⟨h1, fun d hd e he => ?_, ?_⟩
  · obtain ⟨d', hd', rfl⟩ := List.mem_map.mp hd
    obtain ⟨e', he', rfl⟩ := List.mem_map.mp he
    exact h2 d' hd' e' he'
  · rcases h3 with h3 | h3
    · refine .inl fun d hd => ?_
      obtain ⟨d', hd', rfl⟩ := List.mem_map.mp hd
      have := h3 d' hd'
      unfold isNT at this
      split at this
      · rw [toPy, toPys]; exact ⟨_, _, rfl⟩
      · cases this
    · refine .inr fun d hd => ?_
      obtain ⟨d', hd', rfl⟩ := List.mem_map.mp hd
      have := h3 d' hd'
      unfold isI at this
      split at this
      · rw [toPy]; exact ⟨(fun z => by cases z), fun xs z => by cases z⟩
      · cases this
mutual
theorem rd_lt {h : Heap} : ∀ {v : Value} {d : PyData} {as : List Addr}, Reads h v d as → ∀ a ∈ as, a < h.objs.size
  | _, _, _, .list e1 _ _ r, a, ha => by
    rcases List.mem_cons.mp ha with z | z
    · subst z; exact Heap.lt_size e1
    · exact rds_lt r a z
  | _, _, _, .tuple _ _ _ r, a, ha => rds_lt r a ha
  | _, _, _, .dict e1 _ _ r1 r2, a, ha => by
    rcases List.mem_append.mp ha with z | z
    · rcases List.mem_cons.mp z with z | z
      · subst z; exact Heap.lt_size e1
      · exact rds_lt r1 a z
    · exact rds_lt r2 a z
  | _, _, _, .none, a, ha => by cases ha
  | _, _, _, .bool _, a, ha => by cases ha
  | _, _, _, .int _ _, a, ha => by cases ha
  | _, _, _, .str _ _, a, ha => by cases ha
theorem rds_lt {h : Heap} : ∀ {v : List Value} {d : List PyData} {as : List Addr}, ReadsAll h v d as → ∀ a ∈ as, a < h.objs.size
  | _, _, _, .nil, a, ha => by cases ha
  | _, _, _, .cons r1 r2, a, ha => by
    rcases List.mem_append.mp ha with z | z
    · exact rd_lt r1 a z
    · exact rds_lt r2 a z
end
theorem sorted_col {prog : Program} {w : World} {A : Around} {E : Value → Shared → Prop} {s : Shared} {x : Value} {β : Type} {bs : List β} {enc : β → PyData} {R : Value → β → Prop} {Q : Value → Shared → Prop}
    (hcol : ∀ (Qc : List Value → Shared → Prop) (Ec : Value → Shared → Prop), (∀ (h' : Heap) (tk : Nat) (acc : List Value), (∀ b o, s.heap.get? b = some o → h'.get? b = some o) → PySem.W.EachIs R acc bs → PySem.W.EachIs (fun v b => ∃ as, Reads h' v (enc b) as) acc bs → Qc acc { s with heap := h', toks := tk }) → wpAny (model prog w) A.in1 (collect x) Qc Ec s)
    (hal : PySem.W.AllAlike (bs.map enc)) (hk : PySem.W.Sortable (bs.map enc)) (hL : bs.length ≤ sizeLine) (hu : ∀ b, b ∈ bs → A.units + 2 + (enc b).depth < cLine)
    (h : ∀ (h1 h' : Heap) (tk : Nat) (p : Addr) (out : List Value) (n : Nat), (∀ b o, s.heap.get? b = some o → h1.get? b = some o) → (∀ b o, h1.get? b = some o → h'.get? b = some o) → h1.objs.size ≤ p → h'.get? p = some (seqObj "list" out.toArray n) → PySem.W.EachIs R out (bs.mergeSort (PySem.W.dataLe false enc)) → Q (.ref p) { s with heap := h', toks := tk }) :
    wpAny (model prog w) A (call (.builtin "sorted") [x]) Q E s := by
  refine Calls.call_function_entry PyProof.Rows.kind_sorted PyProof.Rows.plain_sorted PyProof.Rows.entry_sorted (PyProof.Rows.args_sorted1 _) ?_
  unfold Builtin.«sorted»
  refine wpAny_bind (m := checkCount "sorted" 1 1 _) (wpAny_pure ?_)
  refine wpAny_bind (hcol _ _ fun h1 tk acc hk1 e er => ?_)
  have hz : acc.length ≤ sizeLine := by rw [e.length]; exact hL
  refine wpAny_bind (wpAny_newList ?_ hz)
  have hoL : (h1.push (seqObj "list" acc.toArray 0)).get? h1.objs.size = some (seqObj "list" acc.toArray 0) := Heap.get?_push_size _ rfl
  show wpAny _ _ _ _ _ { s with heap := h1.push (seqObj "list" acc.toArray 0), toks := tk }
  have er2 : PySem.W.EachIs (fun v b => ∃ as, Reads (h1.push (seqObj "list" acc.toArray 0)) v (enc b) as ∧ h1.objs.size ∉ as) acc bs := er.mono fun v b ⟨as, r⟩ => ⟨as, PyProof.Rows.Reads.keeps (fun _ _ q => Heap.get?_push_of_some _ q) r, fun hm => by
    exact Nat.lt_irrefl _ (rd_lt r _ hm)⟩
  refine wpAny_bind (wpAny_holding ?_)
  refine PySem.W.list_sort_data (A := A.in1) (s := { s with heap := h1.push (seqObj "list" acc.toArray 0), toks := tk }) hoL e er2 hal hk hL (fun b hb => by have := hu b hb; show A.units + 1 + 1 + _ < _; omega) fun out hlen eo => wpAny_pure ⟨_, rfl, ?_⟩
  obtain ⟨n, hn⟩ := PyProof.Rows.sortedHeap_at (out := out.toArray) hoL
  refine h h1 _ _ _ out n hk1 (fun b o q1 => ?_) (Nat.le_refl _) hn eo
  have hlt := Heap.lt_size q1
  rw [PyProof.Rows.sortedHeap_old (Nat.ne_of_lt hlt) (by rw [size_push']; exact Nat.lt_succ_of_lt hlt)]
  exact Heap.get?_push_of_some _ q1
theorem each_vals : ∀ {bs : List (V × D)} {us : List Value}, Vals (bs.map (·.1)) us → EachIs (fun (v : Value) (b : V × D) => RelV b.1 v) us bs
  | [], _, h => by cases h; exact .nil
  | _ :: bs, _, h => by
    cases h with
    | cons r t => exact .cons r (each_vals t)
theorem vals_each : ∀ {bs : List (V × D)} {us : List Value}, EachIs (fun (v : Value) (b : V × D) => RelV b.1 v) us bs → Vals (bs.map (·.1)) us
  | [], _, h => by cases h; exact .nil
  | _ :: bs, _, h => by
    cases h with
    | cons r t => exact .cons r (vals_each t)
theorem each_of {R : Value → (V × D) → Prop} : ∀ {bs : List (V × D)} {us : List Value}, EachIs (fun (v : Value) (b : V × D) => RelV b.1 v) us bs → (∀ b ∈ bs, ∀ v, RelV b.1 v → R v b) → EachIs R us bs
  | [], _, h, _ => by cases h; exact .nil
  | _ :: bs, _, h, k => by
    cases h with
    | cons r t => exact .cons (k _ (by simp) _ r) (each_of t fun b hb => k b (by simp [hb]))
def SrcX (C : CK) (H : Hp) (a : Addr) (vs : List V) : Prop := SqL C.K H a vs ∨ SqT C.K H a vs ∨ ∃ ro, H a = some (DX C a ro) ∧ KeysOk H ro.2 ∧ vs = ro.2.map fun q => .ref q.2.1
def rSortX (C : CK) : List V → Hp → VK → Prop := fun xs H Q => ∃ (a : Addr) (bs : List (V × D)), xs = [.ref a] ∧ SrcX C H a (bs.map (·.1)) ∧ (∀ b ∈ bs, Dp C.K H b.1 (toPy b.2)) ∧ sortOk (bs.map (·.2)) = true ∧ bs.length ≤ 100000 ∧
  ∀ p, H p = none → Q (.ref p) (upd H p (.lst ((bs.mergeSort (dataLe false fun b => toPy b.2)).map (·.1))))
theorem mem_sort {α : Type} {le : α → α → Bool} {a : α} {l : List α} : a ∈ l.mergeSort le ↔ a ∈ l := List.mem_mergeSort
section
variable {X : Cx} {C : Ctx}
theorem cr_sortX (hX : Fits C X) : CallR X (.builtin "sorted") (rSortX C.ck) := fun pins s σ H xs us Q I r ⟨a, bs, ex, src, dp, ok, hl, q⟩ => by
  subst ex
  obtain ⟨u, rfl, rx⟩ := vals1 r
  cases rx
  obtain ⟨hK, hM, hu, hc, hn, hP, hw⟩ := hX
  obtain ⟨⟨K', mg', P', w'⟩, H0, tb0, T0⟩ := C
  simp only at hP hw hK
  subst hP; subst hw; subst hK
  obtain ⟨o1, o2, o3⟩ := sortOk_all ok
  have em : bs.map (fun b => toPy b.2) = (bs.map (·.2)).map toPy := by rw [List.map_map]; rfl
  refine sorted_col (bs := bs) (enc := fun b => toPy b.2) (R := fun v b => RelV b.1 v) ?_ (by rw [em]; exact o2) (by rw [em]; exact o3) (by rw [sizeLine_eq]; omega) (fun b hb => ?_) fun h1 h' tk p out n k1 k2 hp ho eo => ?_
  · intro Qc Ec hq
    have reads : ∀ (h1 : Heap) (tk : Nat) (acc : List Value), (∀ b o, s.heap.get? b = some o → h1.get? b = some o) → EachIs (fun (v : Value) (b : V × D) => RelV b.1 v) acc bs → EachIs (fun v b => ∃ as, Reads h1 v (toPy b.2) as) acc bs := fun h1 tk acc k1 e =>
      each_of e fun b hb v rv => Dp.reads (I.kept (t' := tk) k1) _ _ _ (dp b hb) rv
    rcases src with h | h | ⟨ro, h2, h3, h4⟩
    · obtain ⟨its, rr, pl, hz⟩ := I.list h
      obtain ⟨o, g1, g2, n, g3⟩ := pl.isList
      refine wpAny_collect_seq a (.inl rfl) g1 g2 g3 (fun h' hk => ?_) (by have := rr.length; rw [List.size_toArray]; omega)
      have e1 : its.toArray.toList = its := by simp
      rw [e1]
      exact hq h' s.toks its hk (each_vals rr) (reads h' s.toks its hk (each_vals rr))
    · obtain ⟨its, rr, ⟨o, g1, g2, n, g3⟩, hz⟩ := I.tuple h
      refine wpAny_collect_seq a (.inr rfl) g1 g2 g3 (fun h' hk => ?_) (by have := rr.length; rw [List.size_toArray]; omega)
      have e1 : its.toArray.toList = its := by simp
      rw [e1]
      exact hq h' s.toks its hk (each_vals rr) (reads h' s.toks its hk (each_vals rr))
    · obtain ⟨n1, n2, n3, es, ep, n4, n5, n6⟩ := dx_es (C := ⟨X.K, mg', X.prog, X.w⟩) I.hok h2
      have hlen : bs.length = ro.2.length := by
        have := congrArg List.length h4
        simpa using this
      refine PySem.W.kdu_collect (A := X.A.in1) (KdlSrc.rawDict (es := es) (ep := ep) n1) (I.ok.hd hc) ⟨ro.1, n2, n3, n4⟩ (by rw [n5, sizeLine_eq]; omega) fun h' tk acc hk hacc => ?_
      have hval : ∀ (i : Nat) (v : Value), acc.toList[i]? = some v → ∃ q, ro.2[i]? = some q ∧ v = .ref q.2.1 := fun i v hv => by
        obtain ⟨hi, e1⟩ := hacc.2 i v (by rw [← Array.getElem?_toList]; exact hv)
        have hi2 : i < ro.2.length := by rw [← n5]; exact hi
        obtain ⟨en, m1, m2⟩ := n6 i ro.2[i] (List.getElem?_eq_getElem hi2)
        refine ⟨ro.2[i], List.getElem?_eq_getElem hi2, ?_⟩
        have : en = es[i] := by
          rw [Array.getElem?_eq_getElem hi] at m1
          exact (Option.some.inj m1).symm
        rw [e1, ← this, m2]
      have hal : acc.toList.length = ro.2.length := by rw [Array.length_toList, hacc.1, n5]
      have ev : Vals (bs.map (·.1)) acc.toList := by
        rw [h4]
        have key : ∀ (l : List (List Key × Addr × Value)) (m : List Value), m.length = l.length → (∀ (i : Nat) (v : Value), m[i]? = some v → ∃ q, l[i]? = some q ∧ v = .ref q.2.1) → Vals (l.map fun q => V.ref q.2.1) m := by
          intro l
          induction l with
          | nil => intro m hm _; cases m with
            | nil => exact .nil
            | cons => simp at hm
          | cons q l ih => intro m hm hv; cases m with
            | nil => simp at hm
            | cons v m =>
              refine .cons ?_ (ih m (by simpa using hm) fun i v h => by simpa using hv (i + 1) v (by simpa using h))
              obtain ⟨q', z1, z2⟩ := hv 0 v rfl
              simp at z1
              subst z1
              exact z2
        exact key _ _ hal hval
      exact hq h' tk _ hk (each_vals ev) (reads h' tk _ hk (each_vals ev))
  · have hp := o1 b.2 (List.mem_map.mpr ⟨b, hb, rfl⟩)
    have := (plN_ok 5 _ hp).2
    omega
  · have I1 : Inv X pins σ H { s with heap := h1, toks := tk } := I.kept k1
    have I2 := I1.laid (a := p) (o := .lst ((bs.mergeSort (dataLe false fun b => toPy b.2)).map (·.1))) (h' := h') (t' := tk) k2 hp ⟨by rw [List.length_map, List.length_mergeSort, sizeLine_eq]; omega, out, n, vals_each eo, ho⟩
    exact ⟨.ref p, _, I2, rfl, q p (I1.hok.fresh hp)⟩
def dSorted (te : DE) : DE := fun ρ P => te ρ fun d => ∃ ds, itemsE d = some ds ∧ sortOk ds = true ∧ ds.length ≤ 100000 ∧ P (.lst (sortL ds))
theorem DVs.pair {C : CK} {S : Hp} : ∀ {vs : List V} {ds : List D}, DVs C S vs ds → ∃ bs : List (V × D), bs.map (·.1) = vs ∧ bs.map (·.2) = ds ∧ ∀ b ∈ bs, DV C S b.1 b.2
  | _, _, .nil => ⟨[], rfl, rfl, fun _ h => by cases h⟩
  | _, _, .cons (v := v) (d := d) h t => by
    obtain ⟨bs, e1, e2, e3⟩ := DVs.pair t
    refine ⟨(v, d) :: bs, by rw [List.map_cons, e1], by rw [List.map_cons, e2], fun b hb => ?_⟩
    rcases List.mem_cons.mp hb with z | z
    · subst z; exact h
    · exact e3 b z
theorem dvs_pairs {C : CK} {S : Hp} : ∀ {bs : List (V × D)}, (∀ b ∈ bs, DV C S b.1 b.2) → DVs C S (bs.map (·.1)) (bs.map (·.2))
  | [], _ => .nil
  | b :: bs, h => .cons (h b (by simp)) (dvs_pairs fun b hb => h b (by simp [hb]))
theorem df_sorted {e : Expr} {te : DE} {p pos : Pos} (hX : Fits C X) (h : PE X e (liE C te)) (hm : X.mg "sorted" = none) (hg : Gl X "sorted" := by rfl) (hs : starEach [e] X.env = (false, eval e X.env) :: starEach [] X.env := by rfl) :
    PE X (.Call (.Name "sorted" p) [e] [] pos) (liF C (dSorted te)) := by
  refine PE.to (pe_callB (cr_sortX hX) hg hm (by decide +kernel) (pa_cons h pa_nil hs) (by decide) (by decide) hs (by rfl)) fun σ H Q ⟨pn, G, ρ, P, rp, t, k⟩ => ⟨pn, G, ρ, _, rp, t, fun d v S1 H1 ⟨ds, e1, e2, e3, e4⟩ s1 dv => ?_⟩
  obtain ⟨a, vs, rfl, src, dvs⟩ : ∃ a vs, v = .ref a ∧ SrcX C.ck H1 a vs ∧ DVs C.ck S1 vs ds := by
    cases dv with
    | lst h1 h2 => cases e1; exact ⟨_, _, rfl, .inl (s1.exH.l (SqL.of h1)), h2⟩
    | tup h1 hn h2 => cases e1; exact ⟨_, _, rfl, .inr (.inl (s1.exH.t (frz_t h1))), h2⟩
    | dct h1 h2 =>
      simp only [itemsE, Option.some.injEq] at e1
      rw [h2.fst] at e1
      subst e1
      refine ⟨_, _, rfl, .inr (.inr ⟨_, s1.exH _ _ h1, h2.keysOk.mono s1.exH, rfl⟩), ?_⟩
      have key : ∀ l : List (List Key × Addr × Value), (∀ q ∈ l, DV C.ck S1 (.ref q.2.1) (.tup (q.1.map kD))) → DVs C.ck S1 (l.map fun q => V.ref q.2.1) (l.map fun q => .tup (q.1.map kD)) := fun l => by
        induction l with
        | nil => intro _; exact .nil
        | cons q l ih => intro h; exact .cons (h q (by simp)) (ih fun q hq => h q (by simp [hq]))
      exact key _ h2.kdv
    | _ => cases e1
  obtain ⟨bs, b1, b2, b3⟩ := dvs.pair
  subst b1; subst b2
  refine ⟨a, bs, rfl, src, fun b hb => ((b3 b hb).mono s1.exH).dp ((sortOk_all e2).1 _ (List.mem_map.mpr ⟨b, hb, rfl⟩)), e2, by simpa using e3, fun p hp => ?_⟩
  have hS : S1 p = none := s1.exH.free hp
  have es : sortL (bs.map (·.2)) = (bs.mergeSort (dataLe false fun b => toPy b.2)).map (·.2) := by
    unfold sortL
    rw [List.map_mergeSort]
    intro a _ b _
    rfl
  rw [es] at e4
  exact k _ _ S1 _ e4 ⟨fun a o h1 h2 => Ex.new hp a o (s1.keep a o h1 h2), s1.grow, fun a o h => ⟨Ex.new hp a o (s1.sub a o h).1, (s1.sub a o h).2⟩, s1.new, s1.J.ex (Ex.new hp)⟩ hS (Step.before rp s1 hp) ⟨_, upd_same, dvs_pairs fun b hb => b3 b (mem_sort.mp hb)⟩
end
end WH

set_option Elab.async false
set_option linter.all false
set_option maxRecDepth 100000
set_option maxHeartbeats 4000000
namespace WH
open PySem L2 PyProof.Rows
open PySem.W (dataLt alike EachIs AllAlike Sortable dataLe)

/-! ### min, max of a list -/
def cmpOk (ds : List D) : Bool := ds.all (plN 5) && ds.all (fun a => ds.all fun b => alike (toPy a) (toPy b)) && ds.all fun a => !(match a with | .non => true | _ => false)
theorem cmpOk_all {ds : List D} (h : cmpOk ds = true) : (∀ d ∈ ds, plN 5 d = true) ∧ PySem.W.AlikeAll (ds.map toPy) := by
  unfold cmpOk at h
  simp only [Bool.and_eq_true, List.all_eq_true] at h
  obtain ⟨⟨h1, h2⟩, h3⟩ := h
  refine ⟨h1, fun d hd e he => ?_, fun d hd => ?_⟩
  · obtain ⟨d', hd', rfl⟩ := List.mem_map.mp hd
    obtain ⟨e', he', rfl⟩ := List.mem_map.mp he
    exact h2 d' hd' e' he'
  · obtain ⟨d', hd', rfl⟩ := List.mem_map.mp hd
    have a1 := h1 d' hd'
    have a2 := h3 d' hd'
    cases d' <;> simp [plN] at a1 a2 <;> (rw [toPy]; intro z; cases z)
def dMinL (te : DE) : DE := fun ρ P => te ρ fun d => ∃ x xs, d = .lst (x :: xs) ∧ cmpOk (x :: xs) = true ∧ ∀ m ∈ x :: xs, toPy m = PySem.W.minD (toPy x) (xs.map toPy) → P m
def dMaxL (te : DE) : DE := fun ρ P => te ρ fun d => ∃ x xs, d = .lst (x :: xs) ∧ cmpOk (x :: xs) = true ∧ ∀ m ∈ x :: xs, toPy m = PySem.W.maxD (toPy x) (xs.map toPy) → P m
def rMinX (C : CK) (mx : Bool) : List V → Hp → VK → Prop := fun vs H Q => ∃ (a : Addr) (x : D) (xs : List D) (ws : List V), vs = [.ref a] ∧ SqL C.K H a ws ∧ DpAll C.K H ws (toPys (x :: xs)) ∧ cmpOk (x :: xs) = true ∧ ∀ (i : Nat) (v : V) (m : D), ws[i]? = some v → (x :: xs)[i]? = some m → toPy m = (if mx then PySem.W.maxD (toPy x) (xs.map toPy) else PySem.W.minD (toPy x) (xs.map toPy)) → Q v H
section
variable {X : Cx} {C : Ctx}
theorem Dps.reads {pins : List (Addr × Obj)} {σ : L2.St} {H : Hp} {s : Shared} (I : Inv X pins σ H s) : ∀ {ws : List V} {ps : List PyData} {us : List Value}, DpAll X.K H ws ps → Vals ws us → ∃ as, ReadsAll s.heap us ps as
  | _, _, _, .nil, r => by cases r; exact ⟨_, .nil⟩
  | _, _, _, .cons h t, r => by
    cases r with
    | cons r1 r2 =>
      obtain ⟨as, a1⟩ := Dp.reads I _ _ _ h r1
      obtain ⟨bs, a2⟩ := Dps.reads I t r2
      exact ⟨_, .cons a1 a2⟩
theorem depths_le {ds : List D} (h : ∀ d ∈ ds, plN 5 d = true) : PyData.depthAll (ds.map toPy) ≤ 5 := depthAll_le _ fun p hp => by
  obtain ⟨d, hd, rfl⟩ := List.mem_map.mp hp
  exact (plN_ok 5 d (h d hd)).2
theorem rds_get {h : Heap} : ∀ {vs : List Value} {ps : List PyData} {as : List Addr} {i : Nat} {v : Value}, ReadsAll h vs ps as → vs[i]? = some v → ∃ p bs, ps[i]? = some p ∧ Reads h v p bs
  | _, _, _, _, _, .nil, e => by simp at e
  | _, _, _, 0, _, .cons h _, e => by simp at e; subst e; exact ⟨_, _, rfl, h⟩
  | _, _, _, i + 1, v, .cons _ r, e => by
    obtain ⟨p, bs, h1, h2⟩ := rds_get (i := i) (v := v) r (by simpa using e)
    exact ⟨p, bs, by simpa using h1, h2⟩
theorem cr_minX (hX : Fits C X) : CallR X (.builtin "min") (rMinX C.ck false) := fun pins s σ H xs us Q I r ⟨a, x, ys, ws, ex, sq, dp, ok, q⟩ => by
  subst ex
  obtain ⟨u, rfl, rx⟩ := vals1 r
  cases rx
  obtain ⟨hK, hM, hu, hc, hn, hP, hw⟩ := hX
  rw [← hK] at sq dp
  obtain ⟨its, rr, pl, hz⟩ := I.list sq
  obtain ⟨as, rd⟩ := Dps.reads I dp rr
  rw [toPys_map, List.map_cons] at rd
  obtain ⟨o1, o2⟩ := cmpOk_all ok
  rw [List.map_cons] at o2
  have hd := depths_le o1
  rw [List.map_cons] at hd
  refine PySem.W.min_list_data (I.ok.hd hc) pl.isList (by simpa using rd) o2 (by omega) fun i v h' tk bs hi hr hk => ?_
  have hi' : its[i]? = some v := by rw [← Array.getElem?_toList] at hi; simpa using hi
  obtain ⟨p, bs2, h1, h2⟩ := rds_get rd hi'
  have hlt : i < ws.length := by
    have := (List.getElem?_eq_some_iff.mp hi').1
    have := rr.length
    omega
  obtain ⟨u', hu', ru⟩ := rr.get (List.getElem?_eq_getElem hlt)
  rw [hi'] at hu'
  cases hu'
  rw [← List.map_cons, List.getElem?_map] at h1
  cases em : (x :: ys)[i]? with
  | none => rw [em] at h1; cases h1
  | some m =>
    rw [em] at h1
    have h1 : toPy m = p := Option.some.inj h1
    have hcan := (plN_ok 5 m (o1 m (List.mem_of_getElem? em))).1
    have e := (Reads.unique (PyProof.Rows.Reads.keeps hk (by rw [h1]; exact h2) : Reads h' v (toPy m) bs2) _ _ hr).1
    exact ⟨ws[i], H, I.kept hk, ru, q i _ m (List.getElem?_eq_getElem hlt) em e⟩
theorem cr_maxX (hX : Fits C X) : CallR X (.builtin "max") (rMinX C.ck true) := fun pins s σ H xs us Q I r ⟨a, x, ys, ws, ex, sq, dp, ok, q⟩ => by
  subst ex
  obtain ⟨u, rfl, rx⟩ := vals1 r
  cases rx
  obtain ⟨hK, hM, hu, hc, hn, hP, hw⟩ := hX
  rw [← hK] at sq dp
  obtain ⟨its, rr, pl, hz⟩ := I.list sq
  obtain ⟨as, rd⟩ := Dps.reads I dp rr
  rw [toPys_map, List.map_cons] at rd
  obtain ⟨o1, o2⟩ := cmpOk_all ok
  rw [List.map_cons] at o2
  have hd := depths_le o1
  rw [List.map_cons] at hd
  refine PySem.W.max_list_data (I.ok.hd hc) pl.isList (by simpa using rd) o2 (by omega) fun i v h' tk bs hi hr hk => ?_
  have hi' : its[i]? = some v := by rw [← Array.getElem?_toList] at hi; simpa using hi
  obtain ⟨p, bs2, h1, h2⟩ := rds_get rd hi'
  have hlt : i < ws.length := by
    have := (List.getElem?_eq_some_iff.mp hi').1
    have := rr.length
    omega
  obtain ⟨u', hu', ru⟩ := rr.get (List.getElem?_eq_getElem hlt)
  rw [hi'] at hu'
  cases hu'
  rw [← List.map_cons, List.getElem?_map] at h1
  cases em : (x :: ys)[i]? with
  | none => rw [em] at h1; cases h1
  | some m =>
    rw [em] at h1
    have h1 : toPy m = p := Option.some.inj h1
    have hcan := (plN_ok 5 m (o1 m (List.mem_of_getElem? em))).1
    have e := (Reads.unique (PyProof.Rows.Reads.keeps hk (by rw [h1]; exact h2) : Reads h' v (toPy m) bs2) _ _ hr).1
    exact ⟨ws[i], H, I.kept hk, ru, q i _ m (List.getElem?_eq_getElem hlt) em e⟩
theorem de_minL {e : Expr} {te : DE} {p pos : Pos} (hX : Fits C X) (h : PE X e (liE C te)) (hm : X.mg "min" = none) (hg : Gl X "min" := by rfl) (hs : starEach [e] X.env = (false, eval e X.env) :: starEach [] X.env := by rfl) :
    PE X (.Call (.Name "min" p) [e] [] pos) (liE C (dMinL te)) := by
  refine PE.to (pe_callB (cr_minX hX) hg hm (by decide +kernel) (pa_cons h pa_nil hs) (by decide) (by decide) hs (by rfl)) fun σ H Q ⟨pn, G, ρ, P, rp, t, k⟩ => ⟨pn, G, ρ, _, rp, t, fun d v S1 H1 ⟨x, xs, e1, e2, e3⟩ s1 dv => ?_⟩
  subst e1
  cases dv with
  | lst h1 h2 =>
    refine ⟨_, x, xs, _, rfl, s1.exH.l (SqL.of h1), (h2.mono s1.exH).dp (n := 5) (cmpOk_all e2).1, e2, fun i v m hv hm' e => ?_⟩
    obtain ⟨d', g1, g2⟩ := h2.get hv
    rw [hm'] at g1
    cases g1
    exact k m v S1 H1 (e3 m (List.mem_of_getElem? hm') (by simpa using e)) s1 g2
theorem de_maxL {e : Expr} {te : DE} {p pos : Pos} (hX : Fits C X) (h : PE X e (liE C te)) (hm : X.mg "max" = none) (hg : Gl X "max" := by rfl) (hs : starEach [e] X.env = (false, eval e X.env) :: starEach [] X.env := by rfl) :
    PE X (.Call (.Name "max" p) [e] [] pos) (liE C (dMaxL te)) := by
  refine PE.to (pe_callB (cr_maxX hX) hg hm (by decide +kernel) (pa_cons h pa_nil hs) (by decide) (by decide) hs (by rfl)) fun σ H Q ⟨pn, G, ρ, P, rp, t, k⟩ => ⟨pn, G, ρ, _, rp, t, fun d v S1 H1 ⟨x, xs, e1, e2, e3⟩ s1 dv => ?_⟩
  subst e1
  cases dv with
  | lst h1 h2 =>
    refine ⟨_, x, xs, _, rfl, s1.exH.l (SqL.of h1), (h2.mono s1.exH).dp (n := 5) (cmpOk_all e2).1, e2, fun i v m hv hm' e => ?_⟩
    obtain ⟨d', g1, g2⟩ := h2.get hv
    rw [hm'] at g1
    cases g1
    exact k m v S1 H1 (e3 m (List.mem_of_getElem? hm') (by simpa using e)) s1 g2
/-! ### y = x.pop(0), y = x.pop() -/
def dPop0 (j i : Nat) : DS := fun E ρ => ∃ d ds, ρ[i]? = some (some (Slot.own (.lst (d :: ds)))) ∧ E.nx ((ρ.set i (some (.own (.lst ds)))).set j (some (.sh d)))
def dPopL (j i : Nat) : DS := fun E ρ => ∃ d ds, ρ[i]? = some (some (Slot.own (.lst (ds ++ [d])))) ∧ E.nx ((ρ.set i (some (.own (.lst ds)))).set j (some (.sh d)))
variable {p apos cpos pos pos' : Pos} {k0 : Nat}
theorem ds_pop0 {i j : Nat} {x y : Str} (hX : Fits C X) (hN : X.N[i]? = some x := by rfl) (hv : Vis X.env.scope x := by first | exact Or.inl rfl | exact Or.inr (Or.inl rfl) | exact Or.inr (Or.inr rfl)) (hj : X.N[j]? = some y := by rfl) (hy : Loc X.env.scope y := by first | exact Or.inl rfl | exact Or.inr rfl)
    (hd : (x == ("__debug__" : Str)) = false := by decide) (hcd : (x == ("__classdict__" : Str)) = false := by decide) (hbase : attributeBase (.Name x p) "pop" X.env (eval (.Name x p) X.env) = eval (.Name x p) X.env := by rfl) (hline : (apos.endLine == cpos.line) = true := by rfl)
    (hs : swapsWith (.Call (.Attribute (.Name x p) "pop" apos) [.Constant (.int 0) k0 pos'] [] cpos) (some (.Name y pos)) pos.line X.env = pure false := by rfl) (hf : X.fn y = true ∨ X.env.scope.names.lookup y = some .local := by first | exact .inl rfl | exact .inr rfl) {spos : Pos}
    (hs : swapsWith (.Call (.Attribute (.Name x p) "pop" apos) [.Constant (.int 0) k0 pos'] [] cpos) (some (.Name y pos)) spos.line X.env = pure false := by rfl) :
    PS X (.Assign [.Name y pos] (.Call (.Attribute (.Name x p) "pop" apos) [.Constant (.int 0) k0 pos'] [] cpos) spos) (liS C (dPop0 j i)) := by
  refine PS.to (ps_set (i := j) hX.nd hj hy (pe_bm PySem.F.plainAttrs_list PySem.F.slot_list_pop PySem.F.type_list_pop mt_popAt (pe_var hN hv hd hcd) (pa_cons pe_int pa_nil) hbase rfl hline rfl rfl) hs hf) fun Z σ H ⟨pn, G, ρ, E, r, ⟨d, ds, q0, hnx⟩, kk⟩ => ?_
  obtain ⟨a, vs, h1, h2, h3, h4⟩ := r.ownL q0
  refine ⟨.ref a, h1, .inl ⟨rfl, vs, .inl (.inl h3)⟩, ?_⟩
  obtain ⟨v, ws, rfl, d1, dr⟩ : ∃ v ws, vs = v :: ws ∧ DV C.ck G.S v d ∧ DVs C.ck G.S ws ds := by
    cases h4 with
    | cons d1 dr => exact ⟨_, _, rfl, d1, dr⟩
  refine ⟨a, _, 0, 0, v, rfl, rfl, h3, by decide, by decide, by simp [seqIndex?], rfl, ?_⟩
  have r2 := r.mut (d' := .lst ds) (o' := .lst (List.eraseIdx (v :: ws) 0)) h3 (.inl rfl) q0 h1 ⟨ws, upd_same, dr⟩
  exact kk.nx _ _ _ _ (r2.setSh (i := j) d1) hnx
theorem dvs_last {C : CK} {S : Hp} : ∀ {ds : List D} {d : D} {vs : List V}, DVs C S vs (ds ++ [d]) → ∃ v ws, vs = ws ++ [v] ∧ DVs C S ws ds ∧ DV C S v d
  | [], d, _, h => by obtain ⟨v, rfl, h1⟩ := dvs1 h; exact ⟨v, [], rfl, .nil, h1⟩
  | e :: ds, d, _, h => by
    cases h with
    | cons h t =>
      obtain ⟨v, ws, rfl, t1, t2⟩ := dvs_last t
      exact ⟨v, _ :: ws, rfl, .cons h t1, t2⟩
theorem ds_popL {i j : Nat} {x y : Str} (hX : Fits C X) (hN : X.N[i]? = some x := by rfl) (hv : Vis X.env.scope x := by first | exact Or.inl rfl | exact Or.inr (Or.inl rfl) | exact Or.inr (Or.inr rfl)) (hj : X.N[j]? = some y := by rfl) (hy : Loc X.env.scope y := by first | exact Or.inl rfl | exact Or.inr rfl)
    (hd : (x == ("__debug__" : Str)) = false := by decide) (hcd : (x == ("__classdict__" : Str)) = false := by decide) (hbase : attributeBase (.Name x p) "pop" X.env (eval (.Name x p) X.env) = eval (.Name x p) X.env := by rfl) (hline : (apos.endLine == cpos.line) = true := by rfl)
    (hf : X.fn y = true ∨ X.env.scope.names.lookup y = some .local := by first | exact .inl rfl | exact .inr rfl) {spos : Pos}
    (hs : swapsWith (.Call (.Attribute (.Name x p) "pop" apos) [] [] cpos) (some (.Name y pos)) spos.line X.env = pure false := by rfl) :
    PS X (.Assign [.Name y pos] (.Call (.Attribute (.Name x p) "pop" apos) [] [] cpos) spos) (liS C (dPopL j i)) := by
  refine PS.to (ps_set (i := j) hX.nd hj hy (pe_bm0 PySem.F.plainAttrs_list PySem.F.slot_list_pop PySem.F.type_list_pop mt_pop (pe_var hN hv hd hcd) hbase hline) hs hf) fun Z σ H ⟨pn, G, ρ, E, r, ⟨d, ds, q0, hnx⟩, kk⟩ => ?_
  obtain ⟨a, vs, h1, h2, h3, h4⟩ := r.ownL q0
  refine ⟨.ref a, h1, .inl ⟨rfl, vs, .inl (.inl h3)⟩, ?_⟩
  obtain ⟨v, ws, rfl, t1, t2⟩ := dvs_last h4
  refine ⟨a, _, v, rfl, rfl, h3, by simp, ?_⟩
  have r2 := r.mut (d' := .lst ds) (o' := .lst (List.dropLast (ws ++ [v]))) h3 (.inl rfl) q0 h1 ⟨_, upd_same, by simpa using t1⟩
  exact kk.nx _ _ _ _ (r2.setSh (i := j) t2) hnx
/-! ### xs[::-1], a list -/
def dRevL (te : DE) : DE := fun ρ P => te ρ fun d => ∃ ds, d = .lst ds ∧ P (.lst ds.reverse)
theorem DVs.reverse {C : CK} {S : Hp} : ∀ {vs : List V} {ds : List D}, DVs C S vs ds → DVs C S vs.reverse ds.reverse
  | _, _, .nil => .nil
  | _, _, .cons h t => by rw [List.reverse_cons, List.reverse_cons]; exact (DVs.reverse t).append (.cons h .nil)
theorem de_revL {e : Expr} {te : DE} {k : Nat} {p1 p2 p3 pos : Pos} (hX : Fits C X) (he : PE X e (liE C te)) : PE X (.Subscript e (.Slice none none (some (.UnaryOp .USub (.Constant (.int 1) k p1) p2)) p3) pos) (liE C (dRevL te)) :=
  PE.to (pe_revL he) fun σ H Q ⟨pn, G, ρ, P, rp, t, kk⟩ => ⟨pn, G, ρ, _, rp, t, fun d v S1 H1 ⟨ds, e1, e2⟩ s1 dv => by
    subst e1
    obtain ⟨a, xs, rfl, t1, d1⟩ := dv.lX s1.exH
    exact ⟨a, xs, rfl, SqL.of t1, fun p hp => kk _ _ _ _ e2 (New.step2 rp s1 (New.one hp)) (new_lst d1.reverse hp s1.exH)⟩⟩
end
end WH

set_option Elab.async false
set_option linter.all false
set_option maxRecDepth 100000
set_option maxHeartbeats 4000000
namespace WH
open PySem L2
def MinOf (x : D) (xs : List D) (P : D → Prop) : Prop := ∀ m ∈ x :: xs, toPy m = PySem.W.minD (toPy x) (xs.map toPy) → P m
def MaxOf (x : D) (xs : List D) (P : D → Prop) : Prop := ∀ m ∈ x :: xs, toPy m = PySem.W.maxD (toPy x) (xs.map toPy) → P m
section
variable {ρ : R} {P : D → Prop} {PB : Bool → Prop} {PL : List D → Prop} {E : DEnds} {i j : Nat} {te ta tb tk tv : DE} {tr : DA} {t : DT} {ts us : DS} {d e : D} {ds : List D} {kvs : List (D × D)}
@[simp] theorem z_dct1 : dDct1 tk tv ρ P ↔ tk ρ fun k => tv ρ fun v => ∃ ks, asK k = some ks ∧ P (.dct [(k, v)]) := .rfl
@[simp] theorem z_put : dPut i tk tv E ρ ↔ (∃ kvs, ρ[i]? = some (some (Slot.own (.dct kvs)))) ∧ tv ρ fun v => tk ρ fun k => ∃ kvs ks, ρ[i]? = some (some (Slot.own (.dct kvs))) ∧ asK k = some ks ∧ dget kvs ks = none ∧ kvs.length < 100000 ∧ E.nx (ρ.set i (some (.own (.dct (kvs ++ [(k, v)]))))) := .rfl
@[simp] theorem z_pop0 : dPop0 j i E ρ ↔ ∃ d ds, ρ[i]? = some (some (Slot.own (.lst (d :: ds)))) ∧ E.nx ((ρ.set i (some (.own (.lst ds)))).set j (some (.sh d))) := .rfl
@[simp] theorem z_popL : dPopL j i E ρ ↔ ∃ d ds, ρ[i]? = some (some (Slot.own (.lst (ds ++ [d])))) ∧ E.nx ((ρ.set i (some (.own (.lst ds)))).set j (some (.sh d))) := .rfl
@[simp] theorem z_sorted : dSorted te ρ P ↔ te ρ fun d => ∃ ds, itemsE d = some ds ∧ sortOk ds = true ∧ ds.length ≤ 100000 ∧ P (.lst (sortL ds)) := .rfl
@[simp] theorem z_minL : dMinL te ρ P ↔ te ρ fun d => ∃ x xs, d = .lst (x :: xs) ∧ cmpOk (x :: xs) = true ∧ MinOf x xs P := .rfl
@[simp] theorem z_maxL : dMaxL te ρ P ↔ te ρ fun d => ∃ x xs, d = .lst (x :: xs) ∧ cmpOk (x :: xs) = true ∧ MaxOf x xs P := .rfl
@[simp] theorem z_revL : dRevL te ρ P ↔ te ρ fun d => ∃ ds, d = .lst ds ∧ P (.lst ds.reverse) := .rfl
@[simp] theorem z_seqE : diSeqE te ρ PL ↔ te ρ fun d => oP (itemsE d) PL := .rfl
@[simp] theorem z_zip : diZip tr ρ PL ↔ tr ρ fun ds => ∃ as bs, ((ds = [.tup as, .tup bs]) ∨ (ds = [.lst as, .lst bs])) ∧ PL (zipD as bs) := .rfl
@[simp] theorem z_inEd : inE d (.dct kvs) = (asK d).map fun k => (dget kvs k).isSome := by cases d <;> rfl
@[simp] theorem z_inEl : inE d (.lst ds) = inDD d (.lst ds) := by cases d <;> rfl
@[simp] theorem z_inEt : inE d (.tup ds) = inDD d (.tup ds) := by cases d <;> rfl
@[simp] theorem z_ixEd : ixE (.dct kvs) e = (asK e).bind (dget kvs) := by cases e <;> rfl
@[simp] theorem z_ixEl : ixE (.lst ds) e = ixD (.lst ds) e := by cases e <;> rfl
@[simp] theorem z_ixEt : ixE (.tup ds) e = ixD (.tup ds) e := by cases e <;> rfl
@[simp] theorem z_itEd : itemsE (.dct kvs) = some (kvs.map (·.1)) := rfl
@[simp] theorem z_itEl : itemsE (.lst ds) = some ds := rfl
@[simp] theorem z_itEt : itemsE (.tup ds) = some ds := rfl
@[simp] theorem z_isN1 : isN .non .non = some true := rfl
@[simp] theorem z_isN2 {ds : List D} : isN (.tup ds) .non = some false := rfl
@[simp] theorem z_isN3 {n : Int} : isN (.int n) .non = some false := rfl
@[simp] theorem z_notN1 : notN .non .non = some false := rfl
@[simp] theorem z_notN2 {ds : List D} : notN (.tup ds) .non = some true := rfl
@[simp] theorem z_notN3 {n : Int} : notN (.int n) .non = some true := rfl
end
/-- while, by an invariant and a measure -/
theorem while_ind {c : DT} {ts : DS} {E : DEnds} {ρ : R} (W : Nat → R → Prop) (m : Nat) (h0 : W m ρ) (hs : ∀ m ρ (N : R → Prop), W m ρ → (∀ m' ρ', m' < m → W m' ρ' → N ρ') → c ρ fun b => if b = true then ts { E with nx := N, ct := N, bk := E.nx } ρ else E.nx ρ) : dWhile c ts E ρ :=
  ⟨W, ⟨m, h0⟩, fun m ρ h => hs m ρ _ h fun m' ρ' h1 h2 => ⟨m', h1, h2⟩⟩
end WH

set_option Elab.async false
set_option linter.all false
set_option maxRecDepth 100000
set_option maxHeartbeats 4000000
namespace WH
open PySem L2
/-! ### < of ints, of tuples of ints -/
def ltE : D → D → Option Bool
  | .int i, .int j => some (decide (i < j))
  | .tup a, .tup b => (asI a).bind fun ns => (asI b).map fun ms => HT.lexLt ns ms
  | _, _ => none
def rLtE (K : PySem.W.Frag) : R2 := fun x y H Q => (rI0 fun i j => .bl (decide (i < j))) x y H Q ∨ rLtT K x y H Q
section
variable {X : Cx} {C : Ctx}
theorem or_ltE (hX : Fits C X) : OpR X (compareOp .Lt) (rLtE X.K) := op_lt.or (op_ltT (by have := hX.units; omega))
theorem cg_ltE (hX : Fits C X) : CmpG C ltE (rLtE X.K) := fun H x y d e z Q h1 h2 hz q => by
  cases d <;> cases e <;> try (exfalso; revert hz; simp [ltE]; done)
  · cases hz
    cases h1; cases h2
    exact .inl ⟨_, _, rfl, rfl, q⟩
  · simp only [ltE] at hz
    obtain ⟨ns, e1, e2⟩ := Option.bind_eq_some_iff.mp hz
    obtain ⟨ms, e3, e4⟩ := Option.map_eq_some_iff.mp e2
    subst e4
    cases h1 with
    | tup a1 a2 a3 =>
      cases h2 with
      | tup b1 b2 b3 =>
        rw [a3.ints e1] at a1
        rw [b3.ints e3] at b1
        exact .inr ⟨_, _, ns, ms, rfl, rfl, frz_t a1, frz_t b1, q⟩
end
/-- a comprehension within another -/
theorem relab_free (q : Str × NameKind → Bool) : ∀ (ns : List (Str × NameKind)) (x : Str), (ns.lookup x = some .cell ∨ ns.lookup x = some .free) → ((ns.map fun p => if q p = true then (p.1, NameKind.cell) else p).lookup x = some .cell ∨ (ns.map fun p => if q p = true then (p.1, NameKind.cell) else p).lookup x = some .free)
  | [], x, h => by simp at h
  | (n, k) :: ns, x, h => by
    have ih := relab_free q ns x
    rw [List.map_cons]
    by_cases hq : q (n, k) = true
    · rw [if_pos hq]
      by_cases e : (x == n) = true
      · simp [List.lookup, e]
      · simp only [List.lookup, e] at h ⊢
        exact ih h
    · rw [if_neg hq]
      by_cases e : (x == n) = true
      · simp only [List.lookup, e] at h ⊢
        exact h
      · simp only [List.lookup, e] at h ⊢
        exact ih h
theorem blkIn {X : Cx} {s : Shared} {H : Hp} {scope scope2 : Scope} {cl : List (Str × Addr)} {C' : Addr} {fp : List Addr} {own : List (Str × Nat)} (h : BlkOk X.N scope scope2 own) : BlkOk (X.blk s H scope (compEnvC scope cl C' X.env) fp).N (X.blk s H scope (compEnvC scope cl C' X.env) fp).env.scope scope2 own :=
  ⟨h.kind, h.uniq, h.ix, fun y hy e => by
    have := relab_free (fun p => p.2 == .free && X.env.scope.kind == .function && X.env.kindOf p.1 == some .cell) scope.names y.1 (h.free y hy e)
    exact this, h.own⟩
/-! ### a comprehension whose turns give one of several things -/
theorem lc_rel {α β : Type} {T : Tg} {tt : DT} {te : DE} {ρ0 : R} {P : List D → Prop} {e : α → D} {g : β → D} {p : α → Bool} {Rl : α → β → Prop} : ∀ (l : List α) (acc : List D), acc.length + l.length ≤ 90000 →
    (∀ a ∈ l, ∀ (K1 : D → Prop) (K0 : Prop), (if p a = true then ∀ y, Rl a y → K1 (g y) else K0) → dAsg T (e a) ρ0 fun ρ2 => tt ρ2 fun b => if b = true then te ρ2 K1 else K0) →
    (∀ ys : List β, Paired Rl (l.filter p) ys → P (acc ++ ys.map g)) → lcGo T tt te ρ0 (l.map e) acc P
  | [], acc, _, _, h => by simpa [lcGo] using h [] .nil
  | a :: l, acc, hl, hx, h => by
    show dAsg T (e a) ρ0 _
    simp only [List.length_cons] at hl
    refine hx a (by simp) _ _ ?_
    by_cases q : p a = true
    · rw [if_pos q]
      intro y hy
      refine ⟨by omega, lc_rel l _ (by simp; omega) (fun b hb => hx b (by simp [hb])) fun ys hys => ?_⟩
      have := h (y :: ys) (by rw [List.filter_cons, if_pos q]; exact .cons hy hys)
      simpa using this
    · rw [if_neg q]
      refine lc_rel l _ (by omega) (fun b hb => hx b (by simp [hb])) fun ys hys => ?_
      exact h ys (by rw [List.filter_cons, if_neg q]; exact hys)
theorem paired_mem {α β : Type} {F : α → β → Prop} : ∀ {l : List α} {m : List β}, Paired F l m → (∀ y ∈ m, ∃ x ∈ l, F x y) ∧ ∀ x ∈ l, ∃ y ∈ m, F x y
  | _, _, .nil => ⟨by simp, by simp⟩
  | _, _, .cons h t => by
    obtain ⟨i1, i2⟩ := paired_mem t
    constructor
    · intro y hy
      rcases List.mem_cons.mp hy with z | z
      · subst z; exact ⟨_, by simp, h⟩
      · obtain ⟨x, hx, hf⟩ := i1 y z; exact ⟨x, by simp [hx], hf⟩
    · intro x hx
      rcases List.mem_cons.mp hx with z | z
      · subst z; exact ⟨_, by simp, h⟩
      · obtain ⟨y, hy, hf⟩ := i2 x z; exact ⟨y, by simp [hy], hf⟩
end WH

set_option Elab.async false
set_option linter.all false
set_option maxRecDepth 100000
set_option maxHeartbeats 4000000
namespace WH
open PySem L2
/-! ### the mirror: holds, rocks, bodies, stances -/
abbrev Hold := Int × Int × Int
abbrev Rk := List Hold
abbrev Bd := Int × Int × Int × Int
abbrev Sta := Nat × Nat × Nat × Nat
def holdD (h : Hold) : D := .tup [.int h.1, .int h.2.1, .int h.2.2]
def rockD (r : Rk) : D := .tup (r.map holdD)
def bodyD (b : Bd) : D := .tup [.int b.1, .int b.2.1, .int b.2.2.1, .int b.2.2.2]
def staD (s : Sta) : D := .tup [.int s.1, .int s.2.1, .int s.2.2.1, .int s.2.2.2]
structure VR (r : Rk) : Prop where
  one : 1 ≤ r.length
  seven : r.length ≤ 7
  hold : ∀ h ∈ r, 0 ≤ h.1 ∧ h.1 ≤ 20 ∧ 0 ≤ h.2.1 ∧ h.2.1 ≤ 20 ∧ 1 ≤ h.2.2 ∧ h.2.2 ≤ 2
  nd : (r.map fun h => (h.1, h.2.1)).Nodup
structure VB (b : Bd) : Prop where
  p0 : 0 ≤ b.1 ∧ b.1 ≤ 20
  p1 : 0 ≤ b.2.1 ∧ b.2.1 ≤ 20
  p2 : 0 ≤ b.2.2.1 ∧ b.2.2.1 ≤ 20
  p3 : 0 ≤ b.2.2.2 ∧ b.2.2.2 ≤ 20
structure InR (r : Rk) (s : Sta) : Prop where
  a : s.1 < r.length
  b : s.2.1 < r.length
  c : s.2.2.1 < r.length
  d : s.2.2.2 < r.length
def hAt (r : Rk) (i : Nat) : Hold := r.getD i (0, 0, 0)
abbrev xOf (r : Rk) (i : Nat) : Int := (hAt r i).1
abbrev yOf (r : Rk) (i : Nat) : Int := (hAt r i).2.1
abbrev mOf (r : Rk) (i : Nat) : Int := (hAt r i).2.2
def absI (x : Int) : Int := if x < 0 then -x else x
def maxI (a b : Int) : Int := if b > a then b else a
def apart (r : Rk) (i j : Nat) : Int := maxI (absI (xOf r i - xOf r j)) (absI (yOf r i - yOf r j))
def lst4 (s : Sta) : List Nat := [s.1, s.2.1, s.2.2.1, s.2.2.2]
def roomOk (r : Rk) (s : Sta) : Bool := (lst4 s).all fun h => decide (((lst4 s).countP (· == h) : Int) ≤ mOf r h)
def sortedX (r : Rk) (i j : Nat) (c : Int) : Bool := decide (xOf r i ≤ xOf r j + c)
def nearOk (r : Rk) (b : Bd) (h f : Nat) : Bool := decide (apart r h f ≤ b.2.2.1) && decide (yOf r f ≤ yOf r h)
def kept (r : Rk) (b : Bd) (s : Sta) : Bool :=
  roomOk r s && decide (apart r s.1 s.2.1 ≤ b.1) && decide (apart r s.2.2.1 s.2.2.2 ≤ b.2.1) &&
  nearOk r b s.1 s.2.2.1 && nearOk r b s.1 s.2.2.2 && nearOk r b s.2.1 s.2.2.1 && nearOk r b s.2.1 s.2.2.2 &&
  sortedX r s.1 s.2.1 b.2.2.2 && sortedX r s.2.2.1 s.2.2.2 b.2.2.2
/-! ### small facts -/
theorem hAt_get {r : Rk} {i : Nat} (h : i < r.length) : r[i]? = some (hAt r i) := by
  unfold hAt
  rw [List.getD_eq_getElem?_getD, List.getElem?_eq_getElem h]
  rfl
theorem atI_rock {r : Rk} {i : Nat} (h : i < r.length) : atI (r.map holdD) (i : Int) = some (holdD (hAt r i)) := atI_nat (by rw [List.getElem?_map, hAt_get h]; rfl)
@[simp] theorem at3_0 {a b c : D} : atI [a, b, c] 0 = some a := rfl
@[simp] theorem at3_1 {a b c : D} : atI [a, b, c] 1 = some b := rfl
@[simp] theorem at3_2 {a b c : D} : atI [a, b, c] 2 = some c := rfl
@[simp] theorem at4_0 {a b c d : D} : atI [a, b, c, d] 0 = some a := rfl
@[simp] theorem at4_1 {a b c d : D} : atI [a, b, c, d] 1 = some b := rfl
@[simp] theorem at4_2 {a b c d : D} : atI [a, b, c, d] 2 = some c := rfl
@[simp] theorem at4_3 {a b c d : D} : atI [a, b, c, d] 3 = some d := rfl
@[simp] theorem at2_0 {a b : D} : atI [a, b] 0 = some a := rfl
@[simp] theorem at2_1 {a b : D} : atI [a, b] 1 = some b := rfl
theorem eqB_int {a b : Int} : eqB (.int a) (.int b) = decide (a = b) := by
  unfold eqB
  rw [toPy, toPy, PyData.eqv, Bool.beq_eq_decide_eq]
theorem Im_tup {ds : List D} : Im (.tup ds) = ds.all Im := by rw [Im, Ims_all]
@[simp] theorem Im_int {i : Int} : Im (.int i) = true := rfl
@[simp] theorem Im_bl {i : Bool} : Im (.bl i) = true := rfl
@[simp] theorem Im_non : Im .non = true := rfl
@[simp] theorem Im_str {s : Str} : Im (.str s) = true := rfl
@[simp] theorem Im_t0 : Im (.tup []) = true := rfl
@[simp] theorem Im_t1 {d : D} {ds : List D} : Im (.tup (d :: ds)) = (Im d && Im (.tup ds)) := by rw [Im_tup, Im_tup]; rfl
theorem Im_hold (h : Hold) : Im (holdD h) = true := by simp [holdD, Im_tup]
theorem Im_rock (r : Rk) : Im (rockD r) = true := by simp [rockD, Im_hold, Im_tup]
theorem Im_sta (s : Sta) : Im (staD s) = true := by simp [staD, Im_tup]
theorem pl_hold (h : Hold) : plN 5 (holdD h) = true := by simp [holdD, plN]
theorem pl_rock (r : Rk) : plN 6 (rockD r) = true := by simp [rockD, plN]; intro a b c _; exact pl_hold _
theorem pl_body (b : Bd) : plN 6 (bodyD b) = true := by simp [bodyD, plN]
theorem pl_sta (s : Sta) {n : Nat} : plN (n + 1) (staD s) = true := by simp [staD, plN]

/-! ### is_between, are_between, is_hold, is_rock, is_body -/
def isBet (v : D) (lo hi : Int) : Bool := match v with | .int i => decide (lo ≤ i) && decide (i ≤ hi) | _ => false
def g_is_between : GF := fun ds P _ => ∃ v lo hi, ds = [v, .int lo, .int hi] ∧ (∃ n, plN n v = true) ∧ P (.bl (isBet v lo hi))
def N_is_between : List Str := ["value", "low", "high"]
def b_is_between : DS := (dRet (dAndV (dIsi "int" (dVar 0)) (dAndV (dNotV (dIsi "bool" (dVar 0))) (dChainV leD leD (dVar 1) (dVar 0) (dVar 2)))))
theorem len_is_between : ∀ ds P E, g_is_between ds P E → ds.length = 3 := fun ds P E ⟨v, lo, hi, e, _⟩ => by rw [e]; rfl
theorem pl_no {n : Nat} {d : D} (h : plN n d = true) : (∀ kvs, d ≠ .dct kvs) ∧ (∀ x, d ≠ .fn x) ∧ (∀ x, d ≠ .scr x) ∧ (∀ x, d ≠ .cell x) ∧ ∀ x, d ≠ .pr x := by
  cases n <;> cases d <;> simp [plN] at h ⊢
theorem t_is_between (ds : List D) (P : D → Prop) (h : g_is_between ds P fun _ => False) : b_is_between { nx := fun _ => P .non, rt := P } (startD N_is_between ds) := by
  obtain ⟨v, lo, hi, rfl, ⟨n, hp⟩, q⟩ := h
  have hn := pl_no hp
  cases v <;> simp [b_is_between, startD, N_is_between, isiD, isBet] at hn q ⊢ <;> try exact q
  split <;> simp_all
def arB (v : D) (n : Nat) (lo hi : Int) : Bool := match v with | .tup ds => decide (ds.length = n) && ds.all (isBet · lo hi) | _ => false
def g_are_between : GF := fun ds P _ => ∃ v n lo hi, ds = [v, .int (n : Nat), .int lo, .int hi] ∧ (∃ n, n ≤ 6 ∧ plN n v = true) ∧ (n : Int) ≤ 1000 ∧ P (.bl (arB v n lo hi))
def N_are_between : List Str := ["value", "many", "low", "high", "one"]
def b_are_between : DS := (dRet (dAndV (dIsi "tuple" (dVar 0)) (dAndV (dCmpV eqD (dCB lenD (dCons (dVar 0) dNil)) (dVar 1)) (dCB allD (dCons (dLc (diSeq (dVar 0)) (.nm 4) dYes (dCall g_is_between (dCons (dVar 4) (dCons (dVar 2) (dCons (dVar 3) dNil)))) [4]) dNil)))))
theorem len_are_between : ∀ ds P E, g_are_between ds P E → ds.length = 4 := fun ds P E ⟨v, n, lo, hi, e, _⟩ => by rw [e]; rfl
theorem t_are_between (ds : List D) (P : D → Prop) (h : g_are_between ds P fun _ => False) : b_are_between { nx := fun _ => P .non, rt := P } (startD N_are_between ds) := by
  obtain ⟨v, n, lo, hi, rfl, ⟨k, hk, hp⟩, hn, q⟩ := h
  have hno := pl_no hp
  cases v <;> simp [b_are_between, startD, N_are_between, isiD, arB] at hno q ⊢ <;> try exact q
  rename_i vs
  split
  · rename_i hl
    have hpl : ∀ d ∈ vs, ∃ n, plN n d = true := fun d hd => by
      cases k with
      | zero => simp [plN] at hp
      | succ k => exact ⟨k, by simp [plN] at hp; exact hp d hd⟩
    have key := lc_map (T := .nm 4) (te := dCall g_is_between (dCons (dVar 4) (dCons (dVar 2) (dCons (dVar 3) dNil)))) (ρ0 := wipeR (startD N_are_between [.tup vs, .int (n : Nat), .int lo, .int hi]) [4]) (e := id) (f := fun d => .bl (isBet d lo hi)) (P := fun acc => oP (Option.map (fun bs => D.bl (bs.all id)) (asBs acc)) fun d => Im d = true ∧ P d) vs []
      (by simp; omega) (fun a ha K1 h1 => by
        simp [startD, N_are_between, wipeR]
        exact ⟨_, _, _, rfl, hpl a ha, h1⟩) (by
        simp only [List.nil_append]
        rw [asBs_map (fun d => isBet d lo hi)]
        simp
        have hl' : vs.length = n := by omega
        simpa [hl'] using q)
    simpa [startD, N_are_between, wipeR] using key
  · rename_i hl
    have hl' : ¬ vs.length = n := by omega
    simpa [hl'] using q

def isHold (v : D) : Bool := arB v 3 0 20 && (match v with | .tup [_, _, .int m] => decide (1 ≤ m) && decide (m ≤ 2) | _ => false)
def g_is_hold : GF := fun ds P _ => ∃ v, ds = [v] ∧ (∃ n, n ≤ 6 ∧ plN n v = true) ∧ P (.bl (isHold v))
def N_is_hold : List Str := ["value"]
def b_is_hold : DS := (dRet (dAndV (dCall g_are_between (dCons (dVar 0) (dCons (dC (.int 3)) (dCons (dC (.int 0)) (dCons (dC (.int 20)) dNil))))) (dChainV leD leD (dC (.int 1)) (dBin ixD (dVar 0) (dC (.int 2))) (dC (.int 2)))))
theorem len_is_hold : ∀ ds P E, g_is_hold ds P E → ds.length = 1 := fun ds P E ⟨v, e, _⟩ => by rw [e]; rfl
/-- a tuple of three ints within bounds -/
theorem arB3 {v : D} {lo hi : Int} (h : arB v 3 lo hi = true) : ∃ a b c, v = .tup [.int a, .int b, .int c] := by
  unfold arB at h
  split at h
  · rename_i ds
    simp at h
    obtain ⟨h1, h2⟩ := h
    match ds, h1 with
    | [a, b, c], _ =>
      have ia := h2 a (by simp)
      have ib := h2 b (by simp)
      have ic := h2 c (by simp)
      cases a <;> simp [isBet] at ia
      cases b <;> simp [isBet] at ib
      cases c <;> simp [isBet] at ic
      exact ⟨_, _, _, rfl⟩
  · cases h
theorem t_is_hold (ds : List D) (P : D → Prop) (h : g_is_hold ds P fun _ => False) : b_is_hold { nx := fun _ => P .non, rt := P } (startD N_is_hold ds) := by
  obtain ⟨v, rfl, hp, q⟩ := h
  simp [b_is_hold, startD, N_is_hold]
  refine ⟨v, 3, 0, 20, rfl, hp, by decide, ?_⟩
  cases h : arB v 3 0 20 with
  | false =>
    unfold isHold at q
    rw [h] at q
    simpa using q
  | true =>
    obtain ⟨a, b, c, rfl⟩ := arB3 h
    unfold isHold at q
    rw [h] at q
    simp at q ⊢
    split <;> simp_all
def cut2 (v : D) : D := match v with | .tup ds => .tup (cutL ds none (some 2)) | _ => .non
def isRock (v : D) : Bool := match v with
  | .tup ds => decide (1 ≤ ds.length) && decide (ds.length ≤ 7) && ds.all isHold && decide ((ds.map cut2).length = ((asT (ds.map cut2)).map fun ks => (dedup ks).length).getD 0)
  | _ => false
def g_is_rock : GF := fun ds P _ => ∃ v, ds = [v] ∧ plN 6 v = true ∧ P (.bl (isRock v))
def N_is_rock : List Str := ["value", "one"]
def b_is_rock : DS := (dSeq (dIfS (dOr (dNot (dTest (dIsi "tuple" (dVar 0)))) (dOr (dNot (dChain leD leD (dC (.int 1)) (dCB lenD (dCons (dVar 0) dNil)) (dC (.int 7)))) (dNot (dTest (dCB allD (dCons (dLc (diSeq (dVar 0)) (.nm 1) dYes (dCall g_is_hold (dCons (dVar 1) dNil)) [1]) dNil)))))) (dRet (dC (.bl false))) dNext)
      (dRet (dCmpV eqD (dLenSet (dLc (diSeq (dVar 0)) (.nm 1) dYes (dSl slD (dVar 1) dNo (dSome (dC (.int 2)))) [1])) (dCB lenD (dCons (dVar 0) dNil)))))
theorem len_is_rock : ∀ ds P E, g_is_rock ds P E → ds.length = 1 := fun ds P E ⟨v, e, _⟩ => by rw [e]; rfl
theorem hold_cut {d : D} (h : isHold d = true) : ∃ a b c : Int, d = .tup [.int a, .int b, .int c] ∧ cut2 d = .tup [.int a, .int b] := by
  unfold isHold at h
  rw [Bool.and_eq_true] at h
  obtain ⟨a, b, c, rfl⟩ := arB3 h.1
  exact ⟨a, b, c, rfl, rfl⟩
theorem asT_holds : ∀ {ds : List D}, (∀ d ∈ ds, isHold d = true) → ∃ ks, asT (ds.map cut2) = some ks ∧ ks.length = ds.length
  | [], _ => ⟨[], rfl, rfl⟩
  | d :: ds, h => by
    obtain ⟨a, b, c, rfl, e⟩ := hold_cut (h d (by simp))
    obtain ⟨ks, e1, e2⟩ := asT_holds (ds := ds) fun x hx => h x (by simp [hx])
    refine ⟨[a, b] :: ks, ?_, by simp [e2]⟩
    rw [List.map_cons, e, asT, e1]
    rfl
theorem t_is_rock (ds : List D) (P : D → Prop) (h : g_is_rock ds P fun _ => False) : b_is_rock { nx := fun _ => P .non, rt := P } (startD N_is_rock ds) := by
  obtain ⟨v, rfl, hp, q⟩ := h
  have hno := pl_no hp
  cases v <;> simp [b_is_rock, startD, N_is_rock, isiD, isRock] at hno q ⊢ <;> try exact q
  rename_i vs
  have hpl : ∀ d ∈ vs, plN 5 d = true := by simpa [plN] using hp
  by_cases h1n : ¬ 1 ≤ vs.length
  · have h1' : ¬ (1 : Int) ≤ vs.length := by omega
    rw [if_neg h1']
    simpa [h1n] using q
  have h1 : 1 ≤ vs.length := by omega
  have h1' : (1 : Int) ≤ vs.length := by omega
  rw [if_pos h1']
  by_cases h7n : ¬ vs.length ≤ 7
  · have h7' : ¬ (vs.length : Int) ≤ 7 := by omega
    rw [if_neg h7']
    simpa [h7n] using q
  have h7 : vs.length ≤ 7 := by omega
  have h7' : (vs.length : Int) ≤ 7 := by omega
  rw [if_pos h7']
  simp [h1, h7] at q
  have key := lc_map (T := .nm 1) (te := dCall g_is_hold (dCons (dVar 1) dNil)) (ρ0 := wipeR [some (.sh (.tup vs)), none] [1]) (e := id) (f := fun d => .bl (isHold d))
    (P := fun acc => oP (Option.map (fun bs => D.bl (bs.all id)) (asBs acc)) fun d => oP (asB d) fun c => if c = true then lcGo (.nm 1) dYes (dSl slD (dVar 1) dNo (dSome (dC (.int 2)))) (wipeR [some (.sh (.tup vs)), none] [1]) vs [] (fun acc => oP (lenSetD (.lst acc)) fun x => oP (eqD x (.int vs.length)) fun b => P (.bl b)) else P (.bl false)) vs []
    (by simp; omega) (fun a ha K1 hk => by
      simp [wipeR]
      exact ⟨_, rfl, ⟨5, by decide, hpl a ha⟩, hk⟩) (by
      simp only [List.nil_append]
      rw [asBs_map (fun d => isHold d)]
      simp only [Option.map_some, z_oPs, z_asB, List.all_map]
      by_cases han : ¬ (vs.all isHold) = true
      · have : (vs.all isHold) = false := by simpa using han
        rw [this] at q
        have h2 : ¬ (vs.all (id ∘ fun d => isHold d)) = true := by simpa [Function.comp] using han
        rw [if_neg h2]
        simpa using q
      have hall : (vs.all isHold) = true := by simpa using han
      have ha : ∀ d ∈ vs, isHold d = true := List.all_eq_true.mp hall
      have h2 : (vs.all (id ∘ fun d => isHold d)) = true := by simpa [Function.comp] using hall
      rw [if_pos h2]
      simp only [hall, Bool.true_and] at q
      obtain ⟨ks, e1, e2⟩ := asT_holds ha
      have k2 := lc_map (T := .nm 1) (te := dSl slD (dVar 1) dNo (dSome (dC (.int 2)))) (ρ0 := wipeR [some (.sh (.tup vs)), none] [1]) (e := id) (f := cut2) (P := fun acc => oP (lenSetD (.lst acc)) fun x => oP (eqD x (.int vs.length)) fun b => P (.bl b)) vs []
        (by simp; omega) (fun a ha' K1 hk => by
          obtain ⟨a1, b1, c1, rfl, e⟩ := hold_cut (ha a ha')
          simp [wipeR]
          exact hk) (by
          simp only [List.nil_append, lenSetD, e1]
          have : ks.length < 64 := by omega
          simp [this]
          rw [e1] at q
          simp at q
          have e3 : decide (((dedup ks).length : Int) = vs.length) = decide (vs.length = (dedup ks).length) := by
            by_cases z : vs.length = (dedup ks).length
            · simp [z]
            · have z' : ¬ ((dedup ks).length : Int) = vs.length := by omega
              simp [z, z']
          rw [e3]
          exact q)
      simpa using k2)
  simpa [wipeR] using key
end WH

set_option Elab.async false
set_option linter.all false
set_option maxRecDepth 100000
set_option maxHeartbeats 4000000
namespace WH
open PySem L2
/-! ### one to one -/
theorem holdD_inj {a b : Hold} (h : holdD a = holdD b) : a = b := by
  obtain ⟨a1, a2, a3⟩ := a; obtain ⟨b1, b2, b3⟩ := b
  simp [holdD] at h
  simp [h]
theorem map_inj {α β : Type} {f : α → β} (hf : ∀ a b, f a = f b → a = b) : ∀ {l m : List α}, l.map f = m.map f → l = m
  | [], [], _ => rfl
  | [], _ :: _, h => by simp at h
  | _ :: _, [], h => by simp at h
  | a :: l, b :: m, h => by
    simp at h
    rw [hf _ _ h.1, map_inj hf h.2]
theorem rockD_inj {a b : Rk} : rockD a = rockD b ↔ a = b := ⟨fun h => by
  simp only [rockD, D.tup.injEq] at h
  exact map_inj (fun _ _ => holdD_inj) h, fun h => by rw [h]⟩
theorem bodyD_inj {a b : Bd} : bodyD a = bodyD b ↔ a = b := ⟨fun h => by
  obtain ⟨a1, a2, a3, a4⟩ := a; obtain ⟨b1, b2, b3, b4⟩ := b
  simp [bodyD] at h
  simp [h], fun h => by rw [h]⟩
theorem staD_inj {a b : Sta} : staD a = staD b ↔ a = b := ⟨fun h => by
  obtain ⟨a1, a2, a3, a4⟩ := a; obtain ⟨b1, b2, b3, b4⟩ := b
  simp [staD] at h
  simp only [Prod.mk.injEq]
  omega, fun h => by rw [h]⟩
/-! ### reading rocks, bodies, stances -/
section
variable {r : Rk} {b : Bd} {s : Sta} {i j : Nat} {h : Hold} {ρ : R} {k : R → Prop}
theorem ix_rock (hi : i < r.length) : ixD (rockD r) (.int (i : Int)) = some (holdD (hAt r i)) := atI_rock hi
@[simp] theorem ix_h0 : ixD (holdD h) (.int 0) = some (.int h.1) := rfl
@[simp] theorem ix_h1 : ixD (holdD h) (.int 1) = some (.int h.2.1) := rfl
@[simp] theorem ix_h2 : ixD (holdD h) (.int 2) = some (.int h.2.2) := rfl
@[simp] theorem ix_b0 : ixD (bodyD b) (.int 0) = some (.int b.1) := rfl
@[simp] theorem ix_b1 : ixD (bodyD b) (.int 1) = some (.int b.2.1) := rfl
@[simp] theorem ix_b2 : ixD (bodyD b) (.int 2) = some (.int b.2.2.1) := rfl
@[simp] theorem ix_b3 : ixD (bodyD b) (.int 3) = some (.int b.2.2.2) := rfl
@[simp] theorem ix_s0 : ixD (staD s) (.int 0) = some (.int s.1) := rfl
@[simp] theorem ix_s1 : ixD (staD s) (.int 1) = some (.int s.2.1) := rfl
@[simp] theorem ix_s2 : ixD (staD s) (.int 2) = some (.int s.2.2.1) := rfl
@[simp] theorem ix_s3 : ixD (staD s) (.int 3) = some (.int s.2.2.2) := rfl
@[simp] theorem len_rock : lenD [rockD r] = some (.int r.length) := by rw [rockD, z_lenT, List.length_map]
@[simp] theorem it_sta : itemsOf (staD s) = some ((lst4 s).map fun i => .int (i : Nat)) := rfl
@[simp] theorem it_rock : itemsOf (rockD r) = some (r.map holdD) := rfl
@[simp high] theorem asg_sta {x y z w : Nat} : dAsg (.tp [x, y, z, w]) (staD s) ρ k ↔ k (setAll ρ [x, y, z, w] [.int s.1, .int s.2.1, .int s.2.2.1, .int s.2.2.2]) := by
  rw [staD, z_asgTT]; simp
@[simp high] theorem asg_body {x y z w : Nat} : dAsg (.tp [x, y, z, w]) (bodyD b) ρ k ↔ k (setAll ρ [x, y, z, w] [.int b.1, .int b.2.1, .int b.2.2.1, .int b.2.2.2]) := by
  rw [bodyD, z_asgTT]; simp
end
theorem arB4 {v : D} {lo hi : Int} (h : arB v 4 lo hi = true) : ∃ a b c d : Int, v = .tup [.int a, .int b, .int c, .int d] ∧ (lo ≤ a ∧ a ≤ hi) ∧ (lo ≤ b ∧ b ≤ hi) ∧ (lo ≤ c ∧ c ≤ hi) ∧ lo ≤ d ∧ d ≤ hi := by
  unfold arB at h
  split at h
  · rename_i ds
    simp at h
    obtain ⟨h1, h2⟩ := h
    match ds, h1 with
    | [a, b, c, d], _ =>
      have ia := h2 a (by simp)
      have ib := h2 b (by simp)
      have ic := h2 c (by simp)
      have id := h2 d (by simp)
      cases a <;> simp [isBet] at ia
      cases b <;> simp [isBet] at ib
      cases c <;> simp [isBet] at ic
      cases d <;> simp [isBet] at id
      exact ⟨_, _, _, _, rfl, ia, ib, ic, id⟩
  · cases h
theorem arB_body {b : Bd} (h : VB b) : arB (bodyD b) 4 0 20 = true := by
  simp [arB, bodyD, isBet, h.p0, h.p1, h.p2, h.p3]
theorem arB_sta {r : Rk} {s : Sta} (h : InR r s) : arB (staD s) 4 0 ((r.length : Int) - 1) = true := by
  have := h.a; have := h.b; have := h.c; have := h.d
  simp [arB, staD, isBet]
  omega
theorem sta_of {r : Rk} {v : D} (h : arB v 4 0 ((r.length : Int) - 1) = true) : ∃ s, v = staD s ∧ InR r s := by
  obtain ⟨a, b, c, d, rfl, h1, h2, h3, h4⟩ := arB4 h
  refine ⟨(a.toNat, b.toNat, c.toNat, d.toNat), ?_, ?_, ?_, ?_, ?_⟩
  · simp [staD]; omega
  all_goals simp; omega
theorem dedup_nodup {α : Type} [DecidableEq α] : ∀ {l : List α}, l.Nodup → dedup l = l
  | [], _ => rfl
  | x :: xs, h => by
    rw [List.nodup_cons] at h
    unfold dedup
    rw [if_neg h.1, dedup_nodup h.2]
theorem asT_rock : ∀ r : Rk, asT ((r.map holdD).map cut2) = some (r.map fun h => [h.1, h.2.1])
  | [] => rfl
  | h :: r => by
    rw [List.map_cons, List.map_cons]
    show asT (.tup [.int h.1, .int h.2.1] :: _) = _
    rw [asT, asT_rock r]
    rfl
theorem nodup_key : ∀ {r : Rk}, (r.map fun h => (h.1, h.2.1)).Nodup ↔ (r.map fun h => [h.1, h.2.1]).Nodup
  | [] => by simp
  | h :: r => by
    rw [List.map_cons, List.map_cons, List.nodup_cons, List.nodup_cons, nodup_key (r := r)]
    simp
theorem isHold_ok {h : Hold} (q : 0 ≤ h.1 ∧ h.1 ≤ 20 ∧ 0 ≤ h.2.1 ∧ h.2.1 ≤ 20 ∧ 1 ≤ h.2.2 ∧ h.2.2 ≤ 2) : isHold (holdD h) = true := by
  simp [isHold, holdD, arB, isBet]
  omega
theorem isRock_ok {r : Rk} (v : VR r) : isRock (rockD r) = true := by
  have h1 := v.one
  have h2 := v.seven
  have h3 : (r.map holdD).all isHold = true := by
    rw [List.all_eq_true]
    intro d hd
    obtain ⟨h, hh, rfl⟩ := List.mem_map.mp hd
    exact isHold_ok (v.hold h hh)
  unfold isRock rockD
  simp only [asT_rock]
  rw [h3]
  rw [Option.map_some, dedup_nodup (nodup_key.mp v.nd)]
  simp [h1, h2]
/-! ### is_body, check_rock, check_body, check_both, apart_by, have_room, are_sorted, is_kept -/
def g_is_body : GF := fun ds P _ => ∃ v, ds = [v] ∧ (∃ n, n ≤ 6 ∧ plN n v = true) ∧ P (.bl (arB v 4 0 20))
/-! is_body(value): 0 value -/
def N_is_body : List Str := ["value"]
def b_is_body : DS := (dRet (dCall g_are_between (dCons (dVar 0) (dCons (dC (.int 4)) (dCons (dC (.int 0)) (dCons (dC (.int 20)) dNil))))))
theorem len_is_body : ∀ ds P E, g_is_body ds P E → ds.length = 1 := fun ds P E ⟨v, e, _⟩ => by rw [e]; rfl
theorem t_is_body (ds : List D) (P : D → Prop) (h : g_is_body ds P fun _ => False) : b_is_body { nx := fun _ => P .non, rt := P } (startD N_is_body ds) := by
  obtain ⟨v, rfl, hp, q⟩ := h
  simp [b_is_body, startD, N_is_body]
  exact ⟨v, 4, 0, 20, rfl, hp, by decide, rfl, q⟩
/-! ### arguments checked -/
def chkR (v : D) (E : Str → Prop) (K : Rk → Prop) : Prop := plN 6 v = true ∧ if isRock v = true then ∀ r, v = rockD r → VR r → K r else E "InvalidRock"
def chkB (v : D) (E : Str → Prop) (K : Bd → Prop) : Prop := plN 6 v = true ∧ if arB v 4 0 20 = true then ∀ b, v = bodyD b → VB b → K b else E "InvalidBody"
theorem chkR_ok {r : Rk} {E : Str → Prop} {K : Rk → Prop} (h : VR r) : chkR (rockD r) E K ↔ K r := by
  unfold chkR
  rw [isRock_ok h]
  simp only [pl_rock, true_and, if_true]
  exact ⟨fun k => k r rfl h, fun k r' e _ => by rw [rockD_inj] at e; subst e; exact k⟩
theorem chkB_ok {b : Bd} {E : Str → Prop} {K : Bd → Prop} (h : VB b) : chkB (bodyD b) E K ↔ K b := by
  unfold chkB
  rw [arB_body h]
  simp only [pl_body, true_and, if_true]
  exact ⟨fun k => k b rfl h, fun k r' e _ => by rw [bodyD_inj] at e; subst e; exact k⟩
theorem chkR_bad {v : D} {E : Str → Prop} {K : Rk → Prop} (h : plN 6 v = true) (h2 : isRock v = false) : chkR v E K ↔ E "InvalidRock" := by
  unfold chkR
  simp [h, h2]
theorem chkB_bad {v : D} {E : Str → Prop} {K : Bd → Prop} (h : plN 6 v = true) (h2 : arB v 4 0 20 = false) : chkB v E K ↔ E "InvalidBody" := by
  unfold chkB
  simp [h, h2]
theorem chkR_mono {v : D} {E : Str → Prop} {K K' : Rk → Prop} (h : chkR v E K) (k : ∀ r, v = rockD r → VR r → K r → K' r) : chkR v E K' := by
  unfold chkR at h ⊢
  refine ⟨h.1, ?_⟩
  have h2 := h.2
  split
  · rename_i c
    rw [if_pos c] at h2
    exact fun r e hr => k r e hr (h2 r e hr)
  · rename_i c
    rw [if_neg c] at h2
    exact h2
theorem chkB_mono {v : D} {E : Str → Prop} {K K' : Bd → Prop} (h : chkB v E K) (k : ∀ r, v = bodyD r → VB r → K r → K' r) : chkB v E K' := by
  unfold chkB at h ⊢
  refine ⟨h.1, ?_⟩
  have h2 := h.2
  split
  · rename_i c
    rw [if_pos c] at h2
    exact fun r e hr => k r e hr (h2 r e hr)
  · rename_i c
    rw [if_neg c] at h2
    exact h2
theorem dedup_len {α : Type} [DecidableEq α] : ∀ {l : List α}, (dedup l).length ≤ l.length ∧ ((dedup l).length = l.length → l.Nodup)
  | [] => by simp [dedup]
  | x :: xs => by
    obtain ⟨h1, h2⟩ := dedup_len (l := xs)
    unfold dedup
    split
    · simp only [List.length_cons]
      exact ⟨by omega, fun h => by omega⟩
    · rename_i hx
      simp only [List.length_cons]
      refine ⟨by omega, fun h => List.nodup_cons.mpr ⟨hx, h2 (by omega)⟩⟩
theorem rock_of {v : D} (h : isRock v = true) : ∃ r, v = rockD r ∧ VR r := by
  unfold isRock at h
  split at h
  · rename_i ds
    simp only [Bool.and_eq_true, decide_eq_true_eq, List.all_eq_true] at h
    obtain ⟨⟨⟨h1, h2⟩, h3⟩, h4⟩ := h
    have key : ∀ l : List D, (∀ d ∈ l, isHold d = true) → ∃ r : Rk, l = r.map holdD ∧ ∀ h ∈ r, 0 ≤ h.1 ∧ h.1 ≤ 20 ∧ 0 ≤ h.2.1 ∧ h.2.1 ≤ 20 ∧ 1 ≤ h.2.2 ∧ h.2.2 ≤ 2 := fun l => by
      induction l with
      | nil => intro _; exact ⟨[], rfl, by simp⟩
      | cons d l ih =>
        intro hl
        obtain ⟨r, e, hr⟩ := ih fun d hd => hl d (by simp [hd])
        have hd := hl d (by simp)
        obtain ⟨a, b, c, rfl, _⟩ := hold_cut hd
        refine ⟨(a, b, c) :: r, by rw [List.map_cons, ← e]; rfl, fun h hh => ?_⟩
        rcases List.mem_cons.mp hh with z | z
        · subst z
          simp [isHold, arB, isBet] at hd
          simp; omega
        · exact hr h z
    obtain ⟨r, rfl, hr⟩ := key ds h3
    refine ⟨r, rfl, by simpa using h1, by simpa using h2, hr, ?_⟩
    rw [asT_rock] at h4
    simp only [List.length_map, Option.map_some, Option.getD_some] at h4
    rw [nodup_key]
    exact dedup_len.2 (by simp; omega)
  · cases h
theorem body_of {v : D} (h : arB v 4 0 20 = true) : ∃ b, v = bodyD b ∧ VB b := by
  obtain ⟨a, b, c, d, rfl, h1, h2, h3, h4⟩ := arB4 h
  exact ⟨(a, b, c, d), rfl, h1, h2, h3, h4⟩
def dCallX (E : Str → Prop) (g : GF) (ta : DA) : DE := fun ρ P => ta ρ fun ds => g ds P E
def dRaise (E : Str → Prop) (x : Str) : DS := fun _ _ => E x
@[simp] theorem z_callX {E : Str → Prop} {g : GF} {tr : DA} {ρ : R} {P : D → Prop} : dCallX E g tr ρ P ↔ tr ρ fun ds => g ds P E := .rfl
@[simp] theorem z_raise {E : Str → Prop} {x : Str} {Z : DEnds} {ρ : R} : dRaise E x Z ρ ↔ E x := .rfl
def g_check_rock : GF
  | [v], P, E => chkR v E fun _ => P .non
  | _, _, _ => False
/-! check_rock(rock): 0 rock -/
def N_check_rock : List Str := ["rock"]
def b_check_rock (E : Str → Prop) : DS := (dIfS (dNot (dTest (dCall g_is_rock (dCons (dVar 0) dNil)))) (dRaise E "InvalidRock") dNext)
theorem len_check_rock : ∀ ds P E, g_check_rock ds P E → ds.length = 1 := fun ds P E h => by
  unfold g_check_rock at h
  split at h <;> first | rfl | exact h.elim
theorem t_check_rock (ds : List D) (P : D → Prop) (E : Str → Prop) (h : g_check_rock ds P E) : b_check_rock E { nx := fun _ => P .non, rt := P } (startD N_check_rock ds) := by
  match ds, h with
  | [v], h =>
    simp [b_check_rock, startD, N_check_rock]
    refine ⟨_, rfl, h.1, ?_⟩
    have h2 := h.2
    cases hc : isRock v with
    | false => rw [if_neg (by simp [hc])] at h2; simpa using h2
    | true =>
      obtain ⟨r, e, hr⟩ := rock_of hc
      rw [if_pos hc] at h2
      simpa using h2 r e hr
def g_check_body : GF
  | [v], P, E => chkB v E fun _ => P .non
  | _, _, _ => False
/-! check_body(body): 0 body -/
def N_check_body : List Str := ["body"]
def b_check_body (E : Str → Prop) : DS := (dIfS (dNot (dTest (dCall g_is_body (dCons (dVar 0) dNil)))) (dRaise E "InvalidBody") dNext)
theorem len_check_body : ∀ ds P E, g_check_body ds P E → ds.length = 1 := fun ds P E h => by
  unfold g_check_body at h
  split at h <;> first | rfl | exact h.elim
theorem t_check_body (ds : List D) (P : D → Prop) (E : Str → Prop) (h : g_check_body ds P E) : b_check_body E { nx := fun _ => P .non, rt := P } (startD N_check_body ds) := by
  match ds, h with
  | [v], h =>
    simp [b_check_body, startD, N_check_body]
    refine ⟨_, rfl, ⟨6, by decide, h.1⟩, ?_⟩
    have h2 := h.2
    cases hc : arB v 4 0 20 with
    | false => rw [if_neg (by simp [hc])] at h2; simpa using h2
    | true =>
      obtain ⟨r, e, hr⟩ := body_of hc
      rw [if_pos hc] at h2
      simpa using h2 r e hr
def g_check_both : GF
  | [v, w], P, E => chkR v E fun _ => chkB w E fun _ => P .non
  | _, _, _ => False
/-! check_both(rock, body): 0 rock, 1 body -/
def N_check_both : List Str := ["rock", "body"]
def b_check_both (E : Str → Prop) : DS := (dSeq (dDrop (dCallX E g_check_rock (dCons (dVar 0) dNil)))
      (dDrop (dCallX E g_check_body (dCons (dVar 1) dNil))))
theorem len_check_both : ∀ ds P E, g_check_both ds P E → ds.length = 2 := fun ds P E h => by
  unfold g_check_both at h
  split at h <;> first | rfl | exact h.elim
theorem t_check_both (ds : List D) (P : D → Prop) (E : Str → Prop) (h : g_check_both ds P E) : b_check_both E { nx := fun _ => P .non, rt := P } (startD N_check_both ds) := by
  match ds, h with
  | [v, w], h =>
    simp [b_check_both, startD, N_check_both, g_check_rock, g_check_body]
    exact h
def g_apart_by : GF := fun ds P _ => ∃ (r : Rk) (i j : Nat), ds = [rockD r, .int i, .int j] ∧ i < r.length ∧ j < r.length ∧ P (.int (apart r i j))
/-! apart_by(rock, one, other): 0 rock, 1 one, 2 other -/
def N_apart_by : List Str := ["rock", "one", "other"]
def b_apart_by : DS := (dRet (dCB max2D (dCons (dCB absD (dCons (dBin subD (dBin ixD (dBin ixD (dVar 0) (dVar 1)) (dC (.int 0))) (dBin ixD (dBin ixD (dVar 0) (dVar 2)) (dC (.int 0)))) dNil)) (dCons (dCB absD (dCons (dBin subD (dBin ixD (dBin ixD (dVar 0) (dVar 1)) (dC (.int 1))) (dBin ixD (dBin ixD (dVar 0) (dVar 2)) (dC (.int 1)))) dNil)) dNil))))
theorem len_apart_by : ∀ ds P E, g_apart_by ds P E → ds.length = 3 := fun ds P E ⟨v, b, c, e, _⟩ => by rw [e]; rfl
theorem t_apart_by (ds : List D) (P : D → Prop) (h : g_apart_by ds P fun _ => False) : b_apart_by { nx := fun _ => P .non, rt := P } (startD N_apart_by ds) := by
  obtain ⟨r, i, j, rfl, hi, hj, q⟩ := h
  simp [b_apart_by, startD, N_apart_by, ix_rock hi, ix_rock hj]
  exact q
def g_have_room : GF := fun ds P _ => ∃ (r : Rk) (s : Sta), ds = [rockD r, staD s] ∧ InR r s ∧ P (.bl (roomOk r s))
/-! have_room(rock, stance): 0 rock, 1 stance, 2 hold -/
def N_have_room : List Str := ["rock", "stance", "hold"]
def b_have_room : DS := (dRet (dCB allD (dCons (dLc (diSeq (dVar 1)) (.nm 2) dYes (dCmpV leD (dCount (dVar 1) (dVar 2)) (dBin ixD (dBin ixD (dVar 0) (dVar 2)) (dC (.int 2)))) [2]) dNil)))
theorem len_have_room : ∀ ds P E, g_have_room ds P E → ds.length = 2 := fun ds P E ⟨v, b, e, _⟩ => by rw [e]; rfl
theorem InR.mem {r : Rk} {s : Sta} (h : InR r s) {i : Nat} (hi : i ∈ lst4 s) : i < r.length := by
  have := h.a; have := h.b; have := h.c; have := h.d
  simp [lst4] at hi
  omega
theorem count_sta {s : Sta} {i : Nat} : countD (staD s) (.int i) = some (.int ((lst4 s).countP (· == i) : Nat)) := by
  show countD (.tup ((lst4 s).map fun i => .int (i : Nat))) (.int i) = _
  rw [countD, if_pos ⟨rfl, by simp [plN]⟩, List.countP_map]
  congr 3
  apply List.countP_congr
  intro x _
  simp only [Function.comp, eqB_int]
  by_cases h : x = i
  · simp [h]
  · have : ¬ (x : Int) = i := by omega
    simp [h, this]
theorem t_have_room (ds : List D) (P : D → Prop) (h : g_have_room ds P fun _ => False) : b_have_room { nx := fun _ => P .non, rt := P } (startD N_have_room ds) := by
  obtain ⟨r, s, rfl, hs, q⟩ := h
  simp [b_have_room, startD, N_have_room]
  refine lc_map (e := fun i : Nat => .int i) (f := fun i => .bl (decide (((lst4 s).countP (· == i) : Int) ≤ mOf r i))) (lst4 s) [] (by simp [lst4]) (fun i hi K1 h1 => ?_) ?_
  · simp [wipeR, ix_rock (hs.mem hi)]
    refine ⟨⟨_, rfl⟩, ?_⟩
    simpa [count_sta] using h1
  · rw [List.nil_append, asBs_map (fun i => decide (((lst4 s).countP (· == i) : Int) ≤ mOf r i))]
    simpa [roomOk, List.all_map] using q
def g_are_sorted : GF := fun ds P _ => ∃ (r : Rk) (i j : Nat) (c : Int), ds = [rockD r, .int i, .int j, .int c] ∧ i < r.length ∧ j < r.length ∧ P (.bl (sortedX r i j c))
/-! are_sorted(rock, left, right, cross): 0 rock, 1 left, 2 right, 3 cross -/
def N_are_sorted : List Str := ["rock", "left", "right", "cross"]
def b_are_sorted : DS := (dRet (dCmpV leD (dBin ixD (dBin ixD (dVar 0) (dVar 1)) (dC (.int 0))) (dBin addD (dBin ixD (dBin ixD (dVar 0) (dVar 2)) (dC (.int 0))) (dVar 3))))
theorem len_are_sorted : ∀ ds P E, g_are_sorted ds P E → ds.length = 4 := fun ds P E ⟨v, b, c, d, e, _⟩ => by rw [e]; rfl
theorem t_are_sorted (ds : List D) (P : D → Prop) (h : g_are_sorted ds P fun _ => False) : b_are_sorted { nx := fun _ => P .non, rt := P } (startD N_are_sorted ds) := by
  obtain ⟨r, i, j, c, rfl, hi, hj, q⟩ := h
  simp [b_are_sorted, startD, N_are_sorted, ix_rock hi, ix_rock hj]
  exact q
theorem e_room {r : Rk} {s : Sta} {P : D → Prop} {E : Str → Prop} (h : InR r s) : g_have_room [rockD r, staD s] P E ↔ P (.bl (roomOk r s)) := ⟨fun ⟨r', s', e, _, p⟩ => by
  simp only [List.cons.injEq, rockD_inj, staD_inj, and_true] at e
  obtain ⟨rfl, rfl⟩ := e
  exact p, fun p => ⟨_, _, rfl, h, p⟩⟩
theorem e_apart {r : Rk} {i j : Nat} {P : D → Prop} {E : Str → Prop} (h : i < r.length) (h2 : j < r.length) : g_apart_by [rockD r, .int i, .int j] P E ↔ P (.int (apart r i j)) := ⟨fun ⟨r', i', j', e, _, _, p⟩ => by
  simp only [List.cons.injEq, rockD_inj, D.int.injEq, and_true] at e
  obtain ⟨rfl, e1, e2⟩ := e
  have e1 : i = i' := by omega
  have e2 : j = j' := by omega
  subst e1; subst e2
  exact p, fun p => ⟨_, _, _, rfl, h, h2, p⟩⟩
theorem e_sorted {r : Rk} {i j : Nat} {c : Int} {P : D → Prop} {E : Str → Prop} (h : i < r.length) (h2 : j < r.length) : g_are_sorted [rockD r, .int i, .int j, .int c] P E ↔ P (.bl (sortedX r i j c)) := ⟨fun ⟨r', i', j', c', e, _, _, p⟩ => by
  simp only [List.cons.injEq, rockD_inj, D.int.injEq, and_true] at e
  obtain ⟨rfl, e1, e2, rfl⟩ := e
  have e1 : i = i' := by omega
  have e2 : j = j' := by omega
  subst e1; subst e2
  exact p, fun p => ⟨_, _, _, _, rfl, h, h2, p⟩⟩
def g_is_kept : GF := fun ds P _ => ∃ (r : Rk) (b : Bd) (s : Sta), ds = [rockD r, bodyD b, staD s] ∧ InR r s ∧ P (.bl (kept r b s))
/-! is_kept(rock, body, stance): 0 rock, 1 body, 2 stance, 3 left, 4 right, 5 one, 6 other, 7 arms, 8 legs, 9 trunk, 10 cross, 11 hand, 12 foot -/
def N_is_kept : List Str := ["rock", "body", "stance", "left", "right", "one", "other", "arms", "legs", "trunk", "cross", "hand", "foot"]
def b_is_kept_L1 : DS := (dIfS (dOr (dCmp gtD (dCall g_apart_by (dCons (dVar 0) (dCons (dVar 11) (dCons (dVar 12) dNil)))) (dVar 9)) (dCmp gtD (dBin ixD (dBin ixD (dVar 0) (dVar 12)) (dC (.int 1))) (dBin ixD (dBin ixD (dVar 0) (dVar 11)) (dC (.int 1))))) (dRet (dC (.bl false))) dNext)
def b_is_kept_L2 : DS := (dFor (diSeq (dTup (dCons (dVar 5) (dCons (dVar 6) dNil)))) (.nm 12) b_is_kept_L1)
def b_is_kept : DS := (dSeq (dUnp (.tp [3, 4, 5, 6]) (dVar 2))
      (dSeq (dUnp (.tp [7, 8, 9, 10]) (dVar 1))
      (dSeq (dIfS (dOr (dNot (dTest (dCall g_have_room (dCons (dVar 0) (dCons (dVar 2) dNil))))) (dOr (dCmp gtD (dCall g_apart_by (dCons (dVar 0) (dCons (dVar 3) (dCons (dVar 4) dNil)))) (dVar 7)) (dCmp gtD (dCall g_apart_by (dCons (dVar 0) (dCons (dVar 5) (dCons (dVar 6) dNil)))) (dVar 8)))) (dRet (dC (.bl false))) dNext)
      (dSeq (dFor (diSeq (dTup (dCons (dVar 3) (dCons (dVar 4) dNil)))) (.nm 11) b_is_kept_L2)
      (dRet (dAndV (dCall g_are_sorted (dCons (dVar 0) (dCons (dVar 3) (dCons (dVar 4) (dCons (dVar 10) dNil))))) (dCall g_are_sorted (dCons (dVar 0) (dCons (dVar 5) (dCons (dVar 6) (dCons (dVar 10) dNil)))))))))))
theorem len_is_kept : ∀ ds P E, g_is_kept ds P E → ds.length = 3 := fun ds P E ⟨v, b, c, e, _⟩ => by rw [e]; rfl
theorem t_is_kept (ds : List D) (P : D → Prop) (h : g_is_kept ds P fun _ => False) : b_is_kept { nx := fun _ => P .non, rt := P } (startD N_is_kept ds) := by
  obtain ⟨r, b, s, rfl, hs, q⟩ := h
  simp [b_is_kept, b_is_kept_L1, b_is_kept_L2, startD, N_is_kept, e_room hs, e_apart hs.a hs.b, e_apart hs.c hs.d, e_apart hs.a hs.c, e_apart hs.a hs.d, e_apart hs.b hs.c, e_apart hs.b hs.d, e_sorted hs.a hs.b, e_sorted hs.c hs.d, ix_rock hs.a, ix_rock hs.b, ix_rock hs.c, ix_rock hs.d]
  have fin : ∀ (c : Prop) [Decidable c] (Y : Prop), (c → kept r b s = false) → (¬ c → Y) → (if c then P (.bl false) else Y) := fun c _ Y h1 h2 => by
    by_cases hc : c
    · rw [if_pos hc]; rw [h1 hc] at q; exact q
    · rw [if_neg hc]; exact h2 hc
  have fin2 : ∀ (c : Bool) (Y : Prop), (c = false → kept r b s = false) → (c = true → Y) → (if c = true then Y else P (.bl false)) := fun c Y h1 h2 => by
    cases c
    · rw [if_neg (by simp)]; rw [h1 rfl] at q; exact q
    · rw [if_pos rfl]; exact h2 rfl
  refine fin2 _ _ (fun h => by simp [kept, h]) fun h1 => ?_
  refine fin _ _ (fun h => by simp [kept, nearOk, yOf]; intros; omega) fun h2 => ?_
  refine fin _ _ (fun h => by simp [kept, nearOk, yOf]; intros; omega) fun h3 => ?_
  refine fin _ _ (fun h => by simp [kept, nearOk, yOf]; intros; omega) fun h4 => ?_
  refine fin _ _ (fun h => by simp [kept, nearOk, yOf]; intros; omega) fun h5 => ?_
  refine fin _ _ (fun h => by simp [kept, nearOk, yOf]; intros; omega) fun h6 => ?_
  refine fin _ _ (fun h => by simp [kept, nearOk, yOf]; intros; omega) fun h7 => ?_
  refine fin _ _ (fun h => by simp [kept, nearOk, yOf]; intros; omega) fun h8 => ?_
  refine fin _ _ (fun h => by simp [kept, nearOk, yOf]; intros; omega) fun h9 => ?_
  refine fin _ _ (fun h => by simp [kept, nearOk, yOf]; intros; omega) fun h10 => ?_
  refine fin _ _ (fun h => by simp [kept, nearOk, yOf]; intros; omega) fun h11 => ?_
  refine fin2 _ _ (fun h => by simp [kept, h]) fun h12 => ?_
  have e : kept r b s = sortedX r s.2.2.1 s.2.2.2 b.2.2.2 := by
    simp only [Int.not_lt] at h2 h3 h4 h5 h6 h7 h8 h9 h10 h11
    simp [kept, nearOk, h1, h2, h3, h4, h5, h6, h7, h8, h9, h10, h11, h12]
  rw [e] at q
  exact q
def goodB (r : Rk) (b : Bd) (v : D) : Bool := match v with
  | .tup [.int x, .int y, .int z, .int w] => (decide (0 ≤ x) && decide (0 ≤ y) && decide (0 ≤ z) && decide (0 ≤ w) && decide (x < r.length) && decide (y < r.length) && decide (z < r.length) && decide (w < r.length)) && kept r b (x.toNat, y.toNat, z.toNat, w.toNat)
  | _ => false
theorem goodB_sta {r : Rk} {b : Bd} {s : Sta} (h : InR r s) : goodB r b (staD s) = kept r b s := by
  have := h.a; have := h.b; have := h.c; have := h.d
  simp [goodB, staD, *]
theorem goodB_not {r : Rk} {b : Bd} {v : D} (h : arB v 4 0 ((r.length : Int) - 1) = false) : goodB r b v = false := by
  unfold goodB
  split
  · rw [Bool.and_eq_false_iff]
    left
    rw [Bool.eq_false_iff]
    intro h2
    simp at h2
    simp [arB, isBet] at h
    omega
  · rfl
theorem e_kept {r : Rk} {b : Bd} {s : Sta} {P : D → Prop} {E : Str → Prop} (h : InR r s) : g_is_kept [rockD r, bodyD b, staD s] P E ↔ P (.bl (kept r b s)) := ⟨fun ⟨r', b', s', e, _, p⟩ => by
  simp only [List.cons.injEq, rockD_inj, bodyD_inj, staD_inj, and_true] at e
  obtain ⟨rfl, rfl, rfl⟩ := e
  exact p, fun p => ⟨_, _, _, rfl, h, p⟩⟩
def g_is_good_one : GF := fun ds P _ => ∃ (r : Rk) (b : Bd) (v : D), ds = [rockD r, bodyD b, v] ∧ plN 6 v = true ∧ P (.bl (goodB r b v))
/-! is_good_one(rock, body, value): 0 rock, 1 body, 2 value -/
def N_is_good_one : List Str := ["rock", "body", "value"]
def b_is_good_one : DS := (dRet (dAndV (dCall g_are_between (dCons (dVar 2) (dCons (dC (.int 4)) (dCons (dC (.int 0)) (dCons (dBin subD (dCB lenD (dCons (dVar 0) dNil)) (dC (.int 1))) dNil))))) (dCall g_is_kept (dCons (dVar 0) (dCons (dVar 1) (dCons (dVar 2) dNil))))))
theorem len_is_good_one : ∀ ds P E, g_is_good_one ds P E → ds.length = 3 := fun ds P E ⟨v, b, c, e, _⟩ => by rw [e]; rfl
theorem t_is_good_one (ds : List D) (P : D → Prop) (h : g_is_good_one ds P fun _ => False) : b_is_good_one { nx := fun _ => P .non, rt := P } (startD N_is_good_one ds) := by
  obtain ⟨r, b, v, rfl, hv, q⟩ := h
  simp [b_is_good_one, startD, N_is_good_one]
  refine ⟨_, 4, _, _, rfl, ⟨6, by decide, hv⟩, by decide, ?_⟩
  cases ha : arB v 4 0 ((r.length : Int) - 1) with
  | false => rw [goodB_not ha] at q; simpa using q
  | true =>
    obtain ⟨s, rfl, hs⟩ := sta_of ha
    rw [goodB_sta hs] at q
    simpa [e_kept hs] using q
def chkS (r : Rk) (b : Bd) (v : D) (E : Str → Prop) (K : Sta → Prop) : Prop := plN 6 v = true ∧ if goodB r b v = true then ∀ s, v = staD s → InR r s → kept r b s = true → K s else E "InvalidStance"
def chkH (r : Rk) (v : D) (E : Str → Prop) (K : Nat → Prop) : Prop := plN 6 v = true ∧ if isBet v 0 ((r.length : Int) - 1) = true then ∀ i : Nat, v = .int i → i < r.length → K i else E "InvalidHold"
theorem good_of {r : Rk} {b : Bd} {v : D} (h : goodB r b v = true) : ∃ s, v = staD s ∧ InR r s ∧ kept r b s = true := by
  cases ha : arB v 4 0 ((r.length : Int) - 1) with
  | false => rw [goodB_not ha] at h; cases h
  | true =>
    obtain ⟨s, rfl, hs⟩ := sta_of ha
    rw [goodB_sta hs] at h
    exact ⟨s, rfl, hs, h⟩
theorem chkS_ok {r : Rk} {b : Bd} {s : Sta} {E : Str → Prop} {K : Sta → Prop} (h : InR r s) (h2 : kept r b s = true) : chkS r b (staD s) E K ↔ K s := by
  unfold chkS
  rw [goodB_sta h, h2]
  simp only [pl_sta, true_and, if_true]
  exact ⟨fun k => k s rfl h h2, fun k r' e _ _ => by rw [staD_inj] at e; subst e; exact k⟩
theorem chkS_bad {r : Rk} {b : Bd} {v : D} {E : Str → Prop} {K : Sta → Prop} (h : plN 6 v = true) (h2 : goodB r b v = false) : chkS r b v E K ↔ E "InvalidStance" := by
  unfold chkS
  simp [h, h2]
theorem chkS_mono {r : Rk} {b : Bd} {v : D} {E : Str → Prop} {K K' : Sta → Prop} (h : chkS r b v E K) (k : ∀ s, v = staD s → InR r s → kept r b s = true → K s → K' s) : chkS r b v E K' := by
  unfold chkS at h ⊢
  refine ⟨h.1, ?_⟩
  have h2 := h.2
  split
  · rename_i c
    rw [if_pos c] at h2
    exact fun s e hs hk => k s e hs hk (h2 s e hs hk)
  · rename_i c
    rw [if_neg c] at h2
    exact h2
theorem chkH_ok {r : Rk} {i : Nat} {E : Str → Prop} {K : Nat → Prop} (h : i < r.length) : chkH r (.int i) E K ↔ K i := by
  unfold chkH
  have hb : isBet (.int (i : Int)) 0 ((r.length : Int) - 1) = true := by simp [isBet]; omega
  rw [hb]
  simp only [plN, true_and, if_true]
  exact ⟨fun k => k i rfl h, fun k j e _ => by
    have : i = j := by have := D.int.inj e; omega
    subst this; exact k⟩
theorem chkH_bad {r : Rk} {v : D} {E : Str → Prop} {K : Nat → Prop} (h : plN 6 v = true) (h2 : isBet v 0 ((r.length : Int) - 1) = false) : chkH r v E K ↔ E "InvalidHold" := by
  unfold chkH
  simp [h, h2]
theorem chkH_mono {r : Rk} {v : D} {E : Str → Prop} {K K' : Nat → Prop} (h : chkH r v E K) (k : ∀ i : Nat, v = .int i → i < r.length → K i → K' i) : chkH r v E K' := by
  unfold chkH at h ⊢
  refine ⟨h.1, ?_⟩
  have h2 := h.2
  split
  · rename_i c
    rw [if_pos c] at h2
    exact fun s e hs => k s e hs (h2 s e hs)
  · rename_i c
    rw [if_neg c] at h2
    exact h2
theorem bet_of {r : Rk} {v : D} (h : isBet v 0 ((r.length : Int) - 1) = true) : ∃ i : Nat, v = .int i ∧ i < r.length := by
  unfold isBet at h
  split at h
  · rename_i i
    simp at h
    exact ⟨i.toNat, by congr 1; omega, by omega⟩
  · cases h
def g_is_good : GF
  | [rv, bv, v], P, E => chkR rv E fun r => chkB bv E fun b => plN 6 v = true ∧ P (.bl (goodB r b v))
  | _, _, _ => False
/-! is_good(rock, body, value): 0 rock, 1 body, 2 value -/
def N_is_good : List Str := ["rock", "body", "value"]
def b_is_good (E : Str → Prop) : DS := (dSeq (dDrop (dCallX E g_check_both (dCons (dVar 0) (dCons (dVar 1) dNil))))
      (dRet (dCall g_is_good_one (dCons (dVar 0) (dCons (dVar 1) (dCons (dVar 2) dNil))))))
theorem len_is_good : ∀ ds P E, g_is_good ds P E → ds.length = 3 := fun ds P E h => by
  unfold g_is_good at h
  split at h <;> first | rfl | exact h.elim
theorem t_is_good (ds : List D) (P : D → Prop) (E : Str → Prop) (h : g_is_good ds P E) : b_is_good E { nx := fun _ => P .non, rt := P } (startD N_is_good ds) := by
  match ds, h with
  | [rv, bv, v], h =>
    simp [b_is_good, startD, N_is_good, g_check_both]
    refine chkR_mono h fun r er hr h1 => chkB_mono h1 fun b eb hb h2 => ?_
    subst er; subst eb
    exact ⟨_, _, _, rfl, h2.1, by simpa using h2.2⟩
/-! ### all stances -/
def allSta (n : Nat) : List Sta := (List.range n).flatMap fun a => (List.range n).flatMap fun b => (List.range n).flatMap fun c => (List.range n).map fun d => (a, b, c, d)
def goods (r : Rk) (b : Bd) : List Sta := (allSta r.length).filter (kept r b)
theorem mem_allSta {r : Rk} {s : Sta} : s ∈ allSta r.length ↔ InR r s := by
  simp only [allSta, List.mem_flatMap, List.mem_map, List.mem_range]
  constructor
  · rintro ⟨a, ha, b, hb, c, hc, d, hd, rfl⟩
    exact ⟨ha, hb, hc, hd⟩
  · intro h
    exact ⟨_, h.a, _, h.b, _, h.c, _, h.d, rfl⟩
def tupN (l : List Nat) : D := .tup (l.map fun i => .int (i : Nat))
def moreK (n : Nat) (row : List Nat) : List (List Nat) := (List.range n).map fun h => row ++ [h]
def rowsK (n : Nat) : Nat → List (List Nat)
  | 0 => [[]]
  | k + 1 => (rowsK n k).flatMap (moreK n)
theorem rowsK_len {n k : Nat} : (rowsK n k).length = n ^ k := by
  induction k with
  | zero => rfl
  | succ k ih =>
    rw [rowsK, List.length_flatMap]
    have : ∀ l : List (List Nat), (l.map fun row => (moreK n row).length).sum = l.length * n := by
      intro l
      induction l with
      | nil => simp
      | cons a l ih2 => rw [List.map_cons, List.sum_cons, ih2]; simp [moreK, Nat.add_mul]; omega
    rw [this, ih, Nat.pow_succ]
theorem rowsK_row {n k : Nat} : ∀ row ∈ rowsK n k, row.length = k := by
  induction k with
  | zero => intro row h; simp [rowsK] at h; simp [h]
  | succ k ih =>
    intro row h
    simp only [rowsK, moreK, List.mem_flatMap, List.mem_map] at h
    obtain ⟨a, ha, b, hb, rfl⟩ := h
    simp [ih a ha]
theorem rowsK_all (n : Nat) : rowsK n 4 = (allSta n).map lst4 := by
  simp [rowsK, moreK, allSta, lst4, List.flatMap_map, List.flatMap_assoc, List.map_flatMap, Function.comp_def]
def g_good_stances : GF := fun ds P _ => ∃ (r : Rk) (b : Bd), ds = [rockD r, bodyD b] ∧ r.length ≤ 7 ∧ P (.lst ((goods r b).map staD))
/-! good_stances(rock, body): 0 rock, 1 body, 2 rows, 3 limb, 4 longer, 5 row, 6 hold -/
def N_good_stances : List Str := ["rock", "body", "rows", "limb", "longer", "row", "hold"]
def b_good_stances_L1 : DS := (fun E ρ => (∃ ds, ρ[4]? = some (some (Slot.own (.lst ds)))) ∧ dExt 4 (dLc (diRange (dCons (dCB lenD (dCons (dVar 0) dNil)) dNil)) (.nm 6) dYes (dBin addD (dVar 5) (dTup (dCons (dVar 6) dNil))) [6]) E ρ)
def b_good_stances_L2 : DS := (dSeq (dOwn 4 (dLst dNil))
      (dSeq (dFor (diSeq (dVar 2)) (.nm 5) b_good_stances_L1)
      (dFrz 4 (dSet 2 (dVar 4)))))
def b_good_stances : DS := (dSeq (dSet 2 (dLst (dCons (dTup dNil) dNil)))
      (dSeq (dFor (diRange (dCons (dC (.int 4)) dNil)) (.nm 3) b_good_stances_L2)
      (dRetF (dLc (diSeq (dVar 2)) (.nm 5) (dTest (dCall g_is_kept (dCons (dVar 0) (dCons (dVar 1) (dCons (dVar 5) dNil))))) (dVar 5) [5]))))
theorem len_good_stances : ∀ ds P E, g_good_stances ds P E → ds.length = 2 := fun ds P E ⟨v, b, e, _⟩ => by rw [e]; rfl
theorem t_good_stances (ds : List D) (P : D → Prop) (h : g_good_stances ds P fun _ => False) : b_good_stances { nx := fun _ => P .non, rt := P } (startD N_good_stances ds) := by
  obtain ⟨r, b, rfl, hr, q⟩ := h
  simp [b_good_stances, startD, N_good_stances]
  refine for_ind (e := fun i : Nat => .int i) (fun l ρ => l.length ≤ 4 ∧ ∃ x4 x5 x6 x3, ρ = [some (.sh (rockD r)), some (.sh (bodyD b)), some (.sh (.lst ((rowsK r.length (4 - l.length)).map tupN))), x3, x4, x5, x6]) ?_ ?_ (List.range 4) _ ⟨by decide, none, none, none, none, rfl⟩
  · rintro a l ρ N ⟨hl, x4, x5, x6, x3, rfl⟩ hN
    simp only [List.length_cons] at hl ⊢
    simp [b_good_stances_L2]
    have h7 : ∀ k, k ≤ 3 → (rowsK r.length k).length ≤ 343 := fun k hk => by
      rw [rowsK_len]
      have h1 : r.length ^ k ≤ 7 ^ k := Nat.pow_le_pow_left hr k
      have h2 : 7 ^ k ≤ 7 ^ 3 := Nat.pow_le_pow_right (by decide) hk
      omega
    have hq := h7 (3 - l.length) (by omega)
    have hstep : rowsK r.length (4 - l.length) = (rowsK r.length (3 - l.length)).flatMap (moreK r.length) := by
      have : 4 - l.length = (3 - l.length) + 1 := by omega
      rw [this, rowsK]
    refine for_ind (e := tupN) (fun l2 ρ => l2.length ≤ 343 ∧ ∃ x5 x6 acc, ρ = [some (.sh (rockD r)), some (.sh (bodyD b)), some (.sh (.lst ((rowsK r.length (3 - l.length)).map tupN))), some (.sh (.int a)), some (.own (.lst (acc.map tupN))), x5, x6] ∧ acc.length + 7 * l2.length ≤ 2401 ∧ (∀ row ∈ l2, row.length ≤ 4) ∧ acc ++ l2.flatMap (moreK r.length) = rowsK r.length (4 - l.length)) ?_ ?_ _ _ ⟨hq, x5, x6, [], rfl, ?_, ?_, ?_⟩
    · rintro row l2 ρ N2 ⟨hl2, x5, x6, acc, rfl, hacc, hw, hc⟩ hN2
      simp only [List.length_cons] at hacc hl2
      simp [b_good_stances_L1]
      refine ⟨by omega, ?_⟩
      refine lc_map (e := fun i : Nat => .int i) (f := fun i => tupN (row ++ [i])) (List.range r.length) [] (by simp; omega) (fun i hi K1 h1 => ?_) ?_
      · have := hw row (by simp)
        simp [wipeR, tupN, addD, show row.length + 1 ≤ 100000 by omega]
        simpa [tupN] using h1
      · simp
        refine ⟨by omega, hN2 _ ⟨by omega, some (.sh (tupN row)), x6, acc ++ moreK r.length row, ?_, ?_, fun row h => hw row (by simp [h]), ?_⟩⟩
        · simp [moreK, Function.comp_def]
        · simp [moreK]; omega
        · simpa [List.flatMap_cons] using hc
    · rintro ρ ⟨_, x5, x6, acc, rfl, _, _, hc⟩
      simp
      simp at hc
      rw [← hc] at hN
      exact hN _ ⟨by omega, _, _, _, _, rfl⟩
    · simp; omega
    · intro row h
      rw [rowsK_row row h]; omega
    · simp [hstep]
  · rintro ρ ⟨_, x4, x5, x6, x3, rfl⟩
    simp
    rw [rowsK_all, List.map_map]
    have e : (tupN ∘ lst4) = staD := by funext s; rfl
    rw [e]
    have hlen : (allSta r.length).length ≤ 2401 := by
      have h0 : ((allSta r.length).map lst4).length = (rowsK r.length 4).length := by rw [rowsK_all]
      rw [List.length_map, rowsK_len] at h0
      have h1 : r.length ^ 4 ≤ 7 ^ 4 := Nat.pow_le_pow_left hr 4
      omega
    refine lc_run (e := staD) (f := staD) (p := kept r b) (allSta r.length) [] (by simp; omega) (fun s hs K1 K0 h1 => ?_) ?_
    · simp [wipeR, e_kept (mem_allSta.mp hs)]
      exact h1
    · simp [goods] at q ⊢
      refine ⟨?_, q⟩
      simp [FrOk, Ims_all, Im_sta]
@[simp] theorem Im_stas {l : List Sta} : Im (.tup (l.map staD)) = true := by rw [Im_tup]; simp [Im_sta]
@[simp] theorem Im_stasR {l : List Sta} : Im (.tup (l.map staD).reverse) = true := by rw [← List.map_reverse, Im_stas]
@[simp] theorem Im_holds {l : List Hold} : Im (.tup (l.map holdD)) = true := by rw [Im_tup]; simp [Im_hold]
@[simp] theorem Im_rockS (r : Rk) : Im (rockD r) = true := Im_rock r
@[simp] theorem Im_staS (s : Sta) : Im (staD s) = true := Im_sta s
@[simp] theorem Im_holdS (s : Hold) : Im (holdD s) = true := Im_hold s
@[simp] theorem Im_bodyS (b : Bd) : Im (bodyD b) = true := by simp [bodyD]
def g_stances : GF
  | [rv, bv], P, E => chkR rv E fun r => chkB bv E fun b => P (.tup ((goods r b).map staD))
  | _, _, _ => False
/-! stances(rock, body): 0 rock, 1 body -/
def N_stances : List Str := ["rock", "body"]
def b_stances (E : Str → Prop) : DS := (dSeq (dDrop (dCallX E g_check_both (dCons (dVar 0) (dCons (dVar 1) dNil))))
      (dRet (dCB tupleD (dCons (dCall g_good_stances (dCons (dVar 0) (dCons (dVar 1) dNil))) dNil))))
theorem len_stances : ∀ ds P E, g_stances ds P E → ds.length = 2 := fun ds P E h => by
  unfold g_stances at h
  split at h <;> first | rfl | exact h.elim
theorem t_stances (ds : List D) (P : D → Prop) (E : Str → Prop) (h : g_stances ds P E) : b_stances E { nx := fun _ => P .non, rt := P } (startD N_stances ds) := by
  match ds, h with
  | [rv, bv], h =>
    simp [b_stances, startD, N_stances, g_check_both]
    refine chkR_mono h fun r er hr h1 => chkB_mono h1 fun b eb hb h2 => ?_
    subst er; subst eb
    refine ⟨_, _, rfl, hr.seven, ?_⟩
    simp
    exact h2
end WH

set_option Elab.async false
set_option linter.all false
set_option maxRecDepth 100000
set_option maxHeartbeats 4000000
namespace WH
open PySem L2
/-! ### equality of data without booleans -/
mutual
def nB : D → Bool
  | .non => true
  | .int _ => true
  | .str _ => true
  | .tup ds => nBs ds
  | .lst ds => nBs ds
  | _ => false
def nBs : List D → Bool
  | [] => true
  | d :: ds => nB d && nBs ds
end
theorem nBs_all : ∀ ds : List D, nBs ds = ds.all nB
  | [] => by rw [nBs]; rfl
  | d :: ds => by rw [nBs, nBs_all ds]; rfl
mutual
theorem eqv_iff : ∀ d e : D, nB d = true → nB e = true → (PyData.eqv (toPy d) (toPy e) = true ↔ d = e)
  | .non, e, _, h2 => by cases e <;> simp [nB, toPy, PyData.eqv] at *
  | .int i, e, _, h2 => by cases e <;> simp [nB, toPy, PyData.eqv] at *
  | .str i, e, _, h2 => by cases e <;> simp [nB, toPy, PyData.eqv] at *
  | .tup ds, e, h1, h2 => by
    cases e <;> simp only [nB, toPy, PyData.eqv, D.tup.injEq, reduceCtorEq] at * <;> try (simp at *; done)
    exact eqvs_iff ds _ h1 h2
  | .lst ds, e, h1, h2 => by
    cases e <;> simp only [nB, toPy, PyData.eqv, D.lst.injEq, reduceCtorEq] at * <;> try (simp at *; done)
    exact eqvs_iff ds _ h1 h2
  | .bl _, e, h1, _ => by simp [nB] at h1
  | .dct _, e, h1, _ => by simp [nB] at h1
  | .fn _, e, h1, _ => by simp [nB] at h1
  | .scr _, e, h1, _ => by simp [nB] at h1
  | .cell _, e, h1, _ => by simp [nB] at h1
  | .pr _, e, h1, _ => by simp [nB] at h1
theorem eqvs_iff : ∀ d e : List D, nBs d = true → nBs e = true → (PyData.eqvAll (toPys d) (toPys e) = true ↔ d = e)
  | [], [], _, _ => by simp [toPys, PyData.eqvAll]
  | [], _ :: _, _, _ => by simp [toPys, PyData.eqvAll]
  | _ :: _, [], _, _ => by simp [toPys, PyData.eqvAll]
  | d :: ds, e :: es, h1, h2 => by
    simp only [nBs, Bool.and_eq_true] at h1 h2
    simp only [toPys, PyData.eqvAll, Bool.and_eq_true, List.cons.injEq]
    rw [eqv_iff d e h1.1 h2.1, eqvs_iff ds es h1.2 h2.2]
end
theorem eqB_iff {d e : D} (h1 : nB d = true) (h2 : nB e = true) : eqB d e = true ↔ d = e := eqv_iff d e h1 h2
theorem eqB_of {d e : D} {p : Prop} [Decidable p] (h1 : nB d = true) (h2 : nB e = true) (h : d = e ↔ p) : eqB d e = decide p := by
  rw [Bool.eq_iff_iff, eqB_iff h1 h2, decide_eq_true_eq, h]
theorem eqD_of {d e : D} {p : Prop} [Decidable p] (g1 : plN 6 d = true) (g2 : plN 6 e = true) (h1 : nB d = true) (h2 : nB e = true) (h : d = e ↔ p) : eqD d e = some (decide p) := by
  unfold eqD
  rw [if_pos ⟨g1, g2⟩, eqB_of h1 h2 h]
theorem neD_of {d e : D} {p : Prop} [Decidable p] (g1 : plN 6 d = true) (g2 : plN 6 e = true) (h1 : nB d = true) (h2 : nB e = true) (h : d = e ↔ p) : neD d e = some (!decide p) := by
  unfold neD
  rw [if_pos ⟨g1, g2⟩, eqB_of h1 h2 h]
theorem inDD_of {α : Type} {f : α → D} {l : List α} {d : D} {p : Prop} [Decidable p] (g1 : plN 6 d = true) (g2 : ∀ a ∈ l, plN 5 (f a) = true) (h1 : nB d = true) (h2 : ∀ a ∈ l, nB (f a) = true) (h : (∃ a ∈ l, f a = d) ↔ p) : inDD d (.lst (l.map f)) = some (decide p) := by
  show (if plN 6 d = true ∧ (l.map f).all (plN 5) = true then some ((l.map f).any fun z => eqB z d) else none) = _
  rw [if_pos ⟨g1, by simpa using g2⟩]
  congr 1
  rw [Bool.eq_iff_iff, decide_eq_true_eq, ← h, List.any_eq_true]
  constructor
  · rintro ⟨x, hx, he⟩
    obtain ⟨a, ha, rfl⟩ := List.mem_map.mp hx
    exact ⟨a, ha, (eqB_iff (h2 a ha) h1).mp he⟩
  · rintro ⟨a, ha, rfl⟩
    exact ⟨_, List.mem_map.mpr ⟨a, ha, rfl⟩, (eqB_iff h1 h1).mpr rfl⟩
theorem inDD_ofT {α : Type} {f : α → D} {l : List α} {d : D} {p : Prop} [Decidable p] (g1 : plN 6 d = true) (g2 : ∀ a ∈ l, plN 5 (f a) = true) (h1 : nB d = true) (h2 : ∀ a ∈ l, nB (f a) = true) (h : (∃ a ∈ l, f a = d) ↔ p) : inDD d (.tup (l.map f)) = some (decide p) :=
  (show inDD d (.tup (l.map f)) = inDD d (.lst (l.map f)) from rfl).trans (inDD_of g1 g2 h1 h2 h)
theorem nB_sta (s : Sta) : nB (staD s) = true := by simp [staD, nB, nBs]
theorem nB_tup {ds : List D} : nB (.tup ds) = ds.all nB := by rw [nB, nBs_all]
theorem nB_lst {ds : List D} : nB (.lst ds) = ds.all nB := by rw [nB, nBs_all]
/-! ### loops that look for a fault -/
theorem for_check {α : Type} {T : Tg} {ts : DS} {E : DEnds} {e : α → D} (I : R → Prop) (ok : α → Bool) : ∀ (l : List α),
    (∀ a ∈ l, ∀ ρ (N : R → Prop), I ρ → (if ok a = true then ∀ ρ', I ρ' → N ρ' else E.rt (.bl false)) → dAsg T (e a) ρ fun ρ' => ts { E with nx := N, ct := N, bk := E.nx } ρ') →
    (l.all ok = true → ∀ ρ, I ρ → E.nx ρ) → (l.all ok = false → E.rt (.bl false)) → ∀ ρ, I ρ → forGo T ts E (l.map e) ρ
  | [], _, hd, _, ρ, h => hd rfl ρ h
  | a :: l, hs, hd, hf, ρ, h => by
    refine hs a (by simp) ρ _ h ?_
    by_cases q : ok a = true
    · rw [if_pos q]
      intro ρ' h'
      exact for_check I ok l (fun b hb => hs b (by simp [hb])) (fun h2 => hd (by simp [q, h2])) (fun h2 => hf (by simp [q, h2])) ρ' h'
    · rw [if_neg q]
      exact hf (by simp [q])
/-! ### what the laws draw -/
def g__law_draw : GT := fun ds P => ∃ (ns : List Int) (many : Int), ds = [.scr ns, .int many] ∧ ns.length ≤ 63 ∧ 1 ≤ many ∧ many ≤ 1000000 ∧ ∀ r, 0 ≤ r → r < many → P (.int r)
theorem e_draw {ns : List Int} {many : Int} {P : D → Prop} (h : ns.length ≤ 63) (h1 : 1 ≤ many) (h2 : many ≤ 1000000) : g__law_draw [.scr ns, .int many] P ↔ ∀ r, 0 ≤ r → r < many → P (.int r) := ⟨fun ⟨ns', m', e, _, _, _, p⟩ => by
  simp only [List.cons.injEq, D.scr.injEq, D.int.injEq, and_true] at e
  obtain ⟨rfl, rfl⟩ := e
  exact p, fun p => ⟨_, _, rfl, h, h1, h2, p⟩⟩
/-! ### _law_is -/
def g__law_is : GF := fun ds P _ => ∃ a b, ds = [.bl a, .bl b] ∧ P (.bl (a == b))
/-! _law_is(found, expected): 0 found, 1 expected -/
def N__law_is : List Str := ["found", "expected"]
def b__law_is : DS := (dRet (dAndV (dIsi "bool" (dVar 0)) (dCmpV eqD (dVar 0) (dVar 1))))
theorem len__law_is : ∀ ds P E, g__law_is ds P E → ds.length = 2 := fun ds P E ⟨v, b, e, _⟩ => by rw [e]; rfl
theorem eqB_bl {a b : Bool} : eqB (.bl a) (.bl b) = (a == b) := by
  cases a <;> cases b <;> simp [eqB, toPy, PyData.eqv]
@[simp] theorem z_eqBl {a b : Bool} : eqD (.bl a) (.bl b) = some (a == b) := by
  unfold eqD
  rw [if_pos ⟨rfl, rfl⟩, eqB_bl]
theorem t__law_is (ds : List D) (P : D → Prop) (h : g__law_is ds P fun _ => False) : b__law_is { nx := fun _ => P .non, rt := P } (startD N__law_is ds) := by
  obtain ⟨a, b, rfl, q⟩ := h
  simp [b__law_is, startD, N__law_is, isiD]
  exact q
/-! ### _law_body -/
/-- a drawn body, a drawn rock -/
structure DB (b : Bd) : Prop extends VB b where
  q0 : 1 ≤ b.1 ∧ b.1 ≤ 4
  q1 : 1 ≤ b.2.1 ∧ b.2.1 ≤ 4
  q2 : 2 ≤ b.2.2.1 ∧ b.2.2.1 ≤ 6
  q3 : 0 ≤ b.2.2.2 ∧ b.2.2.2 ≤ 3
structure DR (r : Rk) : Prop extends VR r where
  dr : ∀ h ∈ r, 8 ≤ h.1 ∧ h.1 ≤ 12 ∧ 0 ≤ h.2.1 ∧ h.2.1 ≤ 6
def g__law_body : GT := fun ds P => ∃ ns : List Int, ds = [.scr ns] ∧ ns.length ≤ 63 ∧ ∀ b, DB b → P (bodyD b)
/-! _law_body(script, town): 0 script, 1 town, 2 arms, 3 legs, 4 trunk -/
def N__law_body : List Str := ["script", "town", "arms", "legs", "trunk"]
def b__law_body : DS := (dSeq (dSet 2 (dBin addD (dC (.int 1)) (dCallT g__law_draw (dTown (dVar 0) 1 (dCons (dC (.int 4)) dNil)))))
      (dSeq (dSet 3 (dBin addD (dC (.int 1)) (dCallT g__law_draw (dTown (dVar 0) 1 (dCons (dC (.int 4)) dNil)))))
      (dSeq (dSet 4 (dBin addD (dC (.int 2)) (dCallT g__law_draw (dTown (dVar 0) 1 (dCons (dC (.int 5)) dNil)))))
      (dRet (dTup (dCons (dVar 2) (dCons (dVar 3) (dCons (dVar 4) (dCons (dCallT g__law_draw (dTown (dVar 0) 1 (dCons (dC (.int 4)) dNil))) dNil)))))))))
theorem len__law_body : ∀ ds Q, g__law_body ds Q → ds.length + 1 = 2 := fun ds P ⟨ns, e, _⟩ => by rw [e]; rfl
theorem t__law_body (ds : List D) (P : D → Prop) (h : g__law_body ds P) : b__law_body { nx := fun _ => P .non, rt := P } (startT N__law_body ds) := by
  obtain ⟨ns, rfl, hn, q⟩ := h
  simp [b__law_body, startT, N__law_body, e_draw hn]
  intro a ha ha2 b hb hb2 c hc hc2 d hd hd2
  refine q (1 + a, 1 + b, 2 + c, d) ⟨⟨?_, ?_, ?_, ?_⟩, ?_, ?_, ?_, ?_⟩ <;> simp <;> omega
/-! ### _law_rock -/
def g__law_rock : GT := fun ds P => ∃ (ns : List Int) (most : Int), ds = [.scr ns, .int most] ∧ ns.length ≤ 63 ∧ 1 ≤ most ∧ most ≤ 7 ∧ ∀ r, DR r → (r.length : Int) ≤ most → P (rockD r)
/-! _law_rock(script, town, most): 0 script, 1 town, 2 most, 3 found, 4 k, 5 x, 6 y, 7 one -/
def N__law_rock : List Str := ["script", "town", "most", "found", "k", "x", "y", "one"]
def b__law_rock_L1 : DS := (dSeq (dUnp (.tp [5, 6]) (dTup (dCons (dBin addD (dC (.int 8)) (dCallT g__law_draw (dTown (dVar 0) 1 (dCons (dC (.int 5)) dNil)))) (dCons (dCallT g__law_draw (dTown (dVar 0) 1 (dCons (dC (.int 7)) dNil))) dNil))))
      (dIfS (dThawT 3 (dCmp eqD (dLc (diSeq (dVar 3)) (.nm 7) (dCmp eqD (dSl slD (dVar 7) dNo (dSome (dC (.int 2)))) (dTup (dCons (dVar 5) (dCons (dVar 6) dNil)))) (dVar 7) [7]) (dLst dNil))) (fun E ρ => (∃ ds, ρ[3]? = some (some (Slot.own (.lst ds)))) ∧ dApp 3 (dTup (dCons (dVar 5) (dCons (dVar 6) (dCons (dBin addD (dC (.int 1)) (dIf (dCmp gtD (dCallT g__law_draw (dTown (dVar 0) 1 (dCons (dC (.int 3)) dNil))) (dC (.int 0))) (dC (.int 1)) (dC (.int 0)))) dNil)))) E ρ) dNext))
def b__law_rock : DS := (dSeq (dOwn 3 (dLst dNil))
      (dSeq (dFor (diRange (dCons (dBin addD (dC (.int 1)) (dCallT g__law_draw (dTown (dVar 0) 1 (dCons (dVar 2) dNil)))) dNil)) (.nm 4) b__law_rock_L1)
      (dFrz 3 (dRet (dCB tupleD (dCons (dVar 3) dNil))))))
@[simp] theorem sl_hold {h : Hold} : slD (holdD h) none (some 2) = some (.tup [.int h.1, .int h.2.1]) := rfl
theorem eqD_pair {a b x y : Int} : eqD (.tup [.int a, .int b]) (.tup [.int x, .int y]) = some (decide ((a, b) = (x, y))) :=
  eqD_of (by simp [plN]) (by simp [plN]) (by simp [nB, nBs]) (by simp [nB, nBs]) (by simp)
theorem eqD_nil {α : Type} {f : α → D} {l : List α} (g : ∀ a ∈ l, plN 5 (f a) = true) (h : ∀ a ∈ l, nB (f a) = true) : eqD (.lst (l.map f)) (.lst []) = some (decide (l = [])) :=
  eqD_of (by simpa [plN] using g) (by simp [plN]) (by simpa [nB_lst] using h) (by simp [nB, nBs]) (by simp)
theorem nB_hold (h : Hold) : nB (holdD h) = true := by simp [holdD, nB, nBs]
theorem len__law_rock : ∀ ds Q, g__law_rock ds Q → ds.length + 1 = 3 := fun ds P ⟨ns, m, e, _⟩ => by rw [e]; rfl
theorem t__law_rock (ds : List D) (P : D → Prop) (h : g__law_rock ds P) : b__law_rock { nx := fun _ => P .non, rt := P } (startT N__law_rock ds) := by
  obtain ⟨ns, most, rfl, hn, h1, h7, q⟩ := h
  simp [b__law_rock, startT, N__law_rock, e_draw hn h1 (by omega : most ≤ 1000000)]
  intro n hn0 hn1
  refine ⟨by omega, by omega, ?_⟩
  have en : (rangeD (1 + n)) = (List.range (n.toNat + 1)).map fun (i : Nat) => .int (i : Int) := by
    rw [rangeD]; congr 2; omega
  rw [en]
  refine for_ind (e := fun i : Nat => .int (i : Int)) (fun l ρ => l.length ≤ n.toNat + 1 ∧ ∃ (found : Rk) (x4 x5 x6 x7 : Option Slot), ρ = [some (.sh (.scr ns)), some .town, some (.sh (.int most)), some (.own (.lst (found.map holdD))), x4, x5, x6, x7] ∧ found.length + l.length ≤ n.toNat + 1 ∧
    (l.length < n.toNat + 1 → 1 ≤ found.length) ∧ (∀ h ∈ found, (0 ≤ h.1 ∧ h.1 ≤ 20 ∧ 0 ≤ h.2.1 ∧ h.2.1 ≤ 20 ∧ 1 ≤ h.2.2 ∧ h.2.2 ≤ 2) ∧ 8 ≤ h.1 ∧ h.1 ≤ 12 ∧ 0 ≤ h.2.1 ∧ h.2.1 ≤ 6) ∧ (found.map fun h => (h.1, h.2.1)).Nodup) ?_ ?_ _ _ ⟨by simp, [], none, none, none, none, rfl, by simp, by simp, by simp, by simp⟩
  · rintro k l ρ N ⟨hl, found, x4, x5, x6, x7, rfl, hlen, hpos, hok, hnd⟩ hN
    simp only [List.length_cons] at hl hlen hpos
    simp [b__law_rock_L1, e_draw hn]
    intro x hx0 hx1 y hy0 hy1
    refine lc_run (e := holdD) (f := holdD) (p := fun h => decide ((h.1, h.2.1) = (8 + x, y))) found [] (by simp; omega) (fun h hh K1 K0 h1 => ?_) ?_
    · simp [wipeR, eqD_pair]
      simpa using h1
    · simp
      rw [eqD_nil (fun h _ => pl_hold h) (fun h _ => nB_hold h)]
      simp only [z_oPs, decide_eq_true_eq]
      split
      · rename_i hf
        have fresh : (8 + x, y) ∉ found.map fun h => (h.1, h.2.1) := by
          intro hm
          obtain ⟨h, hh, e⟩ := List.mem_map.mp hm
          have : h ∈ found.filter (fun h => decide (h.1 = 8 + x) && decide (h.2.1 = y)) := by
            rw [List.mem_filter]
            refine ⟨hh, ?_⟩
            simp only [Prod.mk.injEq] at e
            simp [e.1, e.2]
          rw [hf] at this
          cases this
        have more : ∀ m : Int, 1 ≤ m → m ≤ 2 → N [some (Slot.sh (D.scr ns)), some Slot.town, some (Slot.sh (D.int most)), some (Slot.own (D.lst (List.map holdD found ++ [D.tup [D.int (8 + x), D.int y, D.int m]]))), some (Slot.sh (D.int ↑k)), some (Slot.sh (D.int (8 + x))), some (Slot.sh (D.int y)), x7] := fun m m1 m2 => by
          refine hN _ ⟨by omega, found ++ [(8 + x, y, m)], _, _, _, _, by rw [List.map_append]; rfl, by simp; omega, by simp, ?_, ?_⟩
          · intro h hh
            rw [List.mem_append] at hh
            rcases hh with hh | hh
            · exact hok h hh
            · simp at hh; subst hh; simp; omega
          · rw [List.map_append, List.nodup_append]
            refine ⟨hnd, by simp, ?_⟩
            intro a ha b hb e
            simp at hb
            subst e; subst hb
            exact fresh ha
        intro r hr0 hr1
        split
        · exact ⟨by omega, more 2 (by decide) (by decide)⟩
        · exact ⟨by omega, more 1 (by decide) (by decide)⟩
      · rename_i hf
        refine hN _ ⟨by omega, found, _, _, _, _, rfl, by omega, fun _ => ?_, hok, hnd⟩
        cases found with
        | nil => exact absurd rfl hf
        | cons => simp
  · rintro ρ ⟨_, found, x4, x5, x6, x7, rfl, hlen, hpos, hok, hnd⟩
    simp
    have := hpos (by simp)
    simp at hlen
    exact q found ⟨⟨this, by omega, fun h hh => (hok h hh).1, hnd⟩, fun h hh => (hok h hh).2⟩ (by omega)
theorem apart_le {r : Rk} {i j : Nat} {m : Int} : apart r i j ≤ m ↔ xOf r i - xOf r j ≤ m ∧ xOf r j - xOf r i ≤ m ∧ yOf r i - yOf r j ≤ m ∧ yOf r j - yOf r i ≤ m := by
  unfold apart maxI absI
  generalize xOf r i = a; generalize xOf r j = b; generalize yOf r i = c; generalize yOf r j = d
  split <;> split <;> split <;> omega
def pk (s : Sta) : Nat → Nat
  | 0 => s.1
  | 1 => s.2.1
  | 2 => s.2.2.1
  | _ => s.2.2.2
def lim (b : Bd) (p : Nat × Nat) : Int := if p.2 = 1 then b.1 else if p.1 = 2 then b.2.1 else b.2.2.1
def nearL (r : Rk) (i j : Nat) (m : Int) : Prop := xOf r i - xOf r j ≤ m ∧ xOf r j - xOf r i ≤ m ∧ yOf r i - yOf r j ≤ m ∧ yOf r j - yOf r i ≤ m
theorem kept_iff {r : Rk} {b : Bd} {s : Sta} : kept r b s = true ↔ roomOk r s = true ∧ nearL r s.1 s.2.1 b.1 ∧ nearL r s.2.2.1 s.2.2.2 b.2.1 ∧ (nearL r s.1 s.2.2.1 b.2.2.1 ∧ yOf r s.2.2.1 ≤ yOf r s.1) ∧ (nearL r s.1 s.2.2.2 b.2.2.1 ∧ yOf r s.2.2.2 ≤ yOf r s.1) ∧
    (nearL r s.2.1 s.2.2.1 b.2.2.1 ∧ yOf r s.2.2.1 ≤ yOf r s.2.1) ∧ (nearL r s.2.1 s.2.2.2 b.2.2.1 ∧ yOf r s.2.2.2 ≤ yOf r s.2.1) ∧ xOf r s.1 ≤ xOf r s.2.1 + b.2.2.2 ∧ xOf r s.2.2.1 ≤ xOf r s.2.2.2 + b.2.2.2 := by
  simp only [kept, nearOk, sortedX, Bool.and_eq_true, decide_eq_true_eq, nearL, ← apart_le, and_assoc]
/-! ### _law_kept -/
def g__law_kept : GF := fun ds P _ => ∃ (r : Rk) (b : Bd) (s : Sta), ds = [rockD r, bodyD b, staD s] ∧ InR r s ∧ P (.bl (kept r b s))
/-! _law_kept(holds, parts, pose): 0 holds, 1 parts, 2 pose, 3 one, 4 other, 5 limb, 6 most, 7 at, 8 here, 9 there, 10 foot, 11 left -/
def N__law_kept : List Str := ["holds", "parts", "pose", "one", "other", "limb", "most", "at", "here", "there", "foot", "left"]
def b__law_kept_L1 : DS := (dIfS (dCmp gtD (dCB lenD (dCons (dLc (diSeq (dVar 2)) (.nm 4) (dCmp eqD (dVar 4) (dVar 3)) (dVar 4) [4]) dNil)) (dBin ixD (dBin ixD (dVar 0) (dVar 3)) (dC (.int 2)))) (dRet (dC (.bl false))) dNext)
def b__law_kept_L2 : DS := (dIfS (dOr (dCmp gtD (dBin subD (dBin ixD (dVar 8) (dVar 7)) (dBin ixD (dVar 9) (dVar 7))) (dVar 6)) (dCmp gtD (dBin subD (dBin ixD (dVar 9) (dVar 7)) (dBin ixD (dVar 8) (dVar 7))) (dVar 6))) (dRet (dC (.bl false))) dNext)
def b__law_kept_L3 : DS := (dSeq (dPar 8 9 (kSh (dBin ixD (dVar 0) (dBin ixD (dVar 2) (dVar 5))) (kSh (dBin ixD (dVar 0) (dBin ixD (dVar 2) (dVar 4))) kNil)))
      (dSeq (dSet 6 (dIf (dCmp eqD (dVar 4) (dC (.int 1))) (dBin ixD (dVar 1) (dC (.int 0))) (dIf (dCmp eqD (dVar 5) (dC (.int 2))) (dBin ixD (dVar 1) (dC (.int 1))) (dBin ixD (dVar 1) (dC (.int 2))))))
      (dFor (diSeq (dTup (dCons (dC (.int 0)) (dCons (dC (.int 1)) dNil)))) (.nm 7) b__law_kept_L2)))
def b__law_kept_L4 : DS := (dIfS (dOr (dCmp gtD (dBin ixD (dBin ixD (dVar 0) (dBin ixD (dVar 2) (dVar 10))) (dC (.int 1))) (dBin ixD (dBin ixD (dVar 0) (dBin ixD (dVar 2) (dC (.int 0)))) (dC (.int 1)))) (dCmp gtD (dBin ixD (dBin ixD (dVar 0) (dBin ixD (dVar 2) (dVar 10))) (dC (.int 1))) (dBin ixD (dBin ixD (dVar 0) (dBin ixD (dVar 2) (dC (.int 1)))) (dC (.int 1))))) (dRet (dC (.bl false))) dNext)
def b__law_kept_L5 : DS := (dIfS (dCmp gtD (dBin ixD (dBin ixD (dVar 0) (dBin ixD (dVar 2) (dVar 11))) (dC (.int 0))) (dBin addD (dBin ixD (dBin ixD (dVar 0) (dBin ixD (dVar 2) (dBin addD (dVar 11) (dC (.int 1))))) (dC (.int 0))) (dBin ixD (dVar 1) (dC (.int 3))))) (dRet (dC (.bl false))) dNext)
def b__law_kept : DS := (dSeq (dFor (diSeq (dVar 2)) (.nm 3) b__law_kept_L1)
      (dSeq (dFor (diSeq (dTup (dCons (dTup (dCons (dC (.int 0)) (dCons (dC (.int 1)) dNil))) (dCons (dTup (dCons (dC (.int 2)) (dCons (dC (.int 3)) dNil))) (dCons (dTup (dCons (dC (.int 0)) (dCons (dC (.int 2)) dNil))) (dCons (dTup (dCons (dC (.int 0)) (dCons (dC (.int 3)) dNil))) (dCons (dTup (dCons (dC (.int 1)) (dCons (dC (.int 2)) dNil))) (dCons (dTup (dCons (dC (.int 1)) (dCons (dC (.int 3)) dNil))) dNil)))))))) (.tp [5, 4]) b__law_kept_L3)
      (dSeq (dFor (diSeq (dTup (dCons (dC (.int 2)) (dCons (dC (.int 3)) dNil)))) (.nm 10) b__law_kept_L4)
      (dSeq (dFor (diSeq (dTup (dCons (dC (.int 0)) (dCons (dC (.int 2)) dNil)))) (.nm 11) b__law_kept_L5)
      (dRet (dC (.bl true)))))))
theorem len__law_kept : ∀ ds P E, g__law_kept ds P E → ds.length = 3 := fun ds P E ⟨v, b, c, e, _⟩ => by rw [e]; rfl
theorem t__law_kept (ds : List D) (P : D → Prop) (h : g__law_kept ds P fun _ => False) : b__law_kept { nx := fun _ => P .non, rt := P } (startD N__law_kept ds) := by
  obtain ⟨r, b, s, rfl, hs, q⟩ := h
  have hq0 : kept r b s = false → P (.bl false) := fun h => by rw [h] at q; exact q
  have fin : ∀ (c : Prop) [Decidable c] (Y : Prop), (c → kept r b s = true → False) → (¬ c → Y) → (if c then P (.bl false) else Y) := fun c _ Y h1 h2 => by
    by_cases hc : c
    · rw [if_pos hc]
      exact hq0 (Bool.eq_false_iff.mpr (h1 hc))
    · rw [if_neg hc]; exact h2 hc
  simp only [b__law_kept, startD, N__law_kept, z_seq, z_for, z_seqI, z_var, z_getS]
  simp
  refine for_check (e := fun i : Nat => .int (i : Int)) (fun ρ => ∃ x3, ρ = [some (.sh (rockD r)), some (.sh (bodyD b)), some (.sh (staD s)), x3, none, none, none, none, none, none, none, none]) (fun i => decide (((lst4 s).countP (· == i) : Int) ≤ mOf r i)) (lst4 s) ?_ ?_ ?_ _ ⟨none, rfl⟩
  · rintro i hi ρ N ⟨x3, rfl⟩ hN
    simp [b__law_kept_L1, ix_rock (hs.mem hi)]
    refine lc_run (e := fun i : Nat => .int (i : Int)) (f := fun i : Nat => .int (i : Int)) (p := fun j => decide (j = i)) (lst4 s) [] (by simp [lst4]) (fun j hj K1 K0 h1 => ?_) ?_
    · simp [wipeR]
      by_cases e : j = i
      · simpa [e] using h1
      · have e' : ¬ (j : Int) = i := by omega
        rw [if_neg e']
        simpa [e] using h1
    · simp
      have ec : ((lst4 s).filter fun j => decide (j = i)).length = (lst4 s).countP (· == i) := by
        rw [← List.countP_eq_length_filter]
        exact List.countP_congr fun x _ => by simp
      rw [ec]
      by_cases hle : ((lst4 s).countP (· == i) : Int) ≤ mOf r i
      · simp only [hle, decide_true, if_true] at hN
        rw [if_neg (by show ¬ mOf r i < _; omega)]
        exact hN _ ⟨_, rfl⟩
      · simp only [hle, decide_false] at hN
        rw [if_pos (by show mOf r i < _; omega)]
        simpa using hN
  · rintro hroom ρ ⟨x3, rfl⟩
    have hroom : roomOk r s = true := hroom
    simp only [z_seq, z_for, z_seqI, z_tup, z_cons, z_nil, z_c, z_itT, z_oPs, List.length_cons, List.length_nil]
    refine ⟨by decide, by decide, by decide, by decide, by decide, by decide, by decide, ?_⟩
    refine for_check (e := fun p : Nat × Nat => .tup [.int p.1, .int p.2]) (fun ρ => ∃ x3 x4 x5 x6 x7 x8 x9, ρ = [some (.sh (rockD r)), some (.sh (bodyD b)), some (.sh (staD s)), x3, x4, x5, x6, x7, x8, x9, none, none]) (fun p => decide (apart r (pk s p.1) (pk s p.2) ≤ lim b p)) [(0, 1), (2, 3), (0, 2), (0, 3), (1, 2), (1, 3)] ?_ ?_ ?_ _ ⟨x3, _, _, _, _, _, _, rfl⟩
    · rintro p hp ρ N ⟨x3, x4, x5, x6, x7, x8, x9, rfl⟩ hN
      simp only [apart_le, xOf, yOf, decide_eq_true_eq] at hN
      have hend : ∀ (Z : Prop) (c : Int) (c2 : Int), (c < c2 → Z) → (¬ c < c2 → Z) → Z := fun Z c c2 => by
        by_cases h : c < c2
        · exact fun a _ => a h
        · exact fun _ a => a h
      simp only [List.mem_cons, List.not_mem_nil, or_false] at hp
      rcases hp with rfl | rfl | rfl | rfl | rfl | rfl <;> simp [ix_rock hs.a, ix_rock hs.b, ix_rock hs.c, ix_rock hs.d, b__law_kept_L2, b__law_kept_L3, pk, lim] at hN ⊢ <;>
      · (repeat' split)
        all_goals first
          | (rw [if_neg (by rintro ⟨_, _, _, _⟩; omega)] at hN; exact hN)
          | (rw [if_pos (by refine ⟨?_, ?_, ?_, ?_⟩ <;> omega)] at hN; exact hN _ _ _ _ _ _ _ _ rfl)
    · rintro hnear ρ ⟨x3, x4, x5, x6, x7, x8, x9, rfl⟩
      simp only [List.all_cons, List.all_nil, Bool.and_true, Bool.and_eq_true, decide_eq_true_eq, pk, lim] at hnear
      simp at hnear
      simp only [z_seq, z_for, z_seqI, z_tup, z_cons, z_nil, z_c, z_itT, z_oPs, List.length_cons, List.length_nil]
      refine ⟨by decide, ?_⟩
      refine for_check (e := fun i : Nat => .int (i : Int)) (fun ρ => ∃ x3 x4 x5 x6 x7 x8 x9 x10, ρ = [some (.sh (rockD r)), some (.sh (bodyD b)), some (.sh (staD s)), x3, x4, x5, x6, x7, x8, x9, x10, none]) (fun i => decide (yOf r (pk s i) ≤ yOf r s.1) && decide (yOf r (pk s i) ≤ yOf r s.2.1)) [2, 3] ?_ ?_ ?_ _ ⟨x3, x4, x5, x6, x7, x8, x9, _, rfl⟩
      · rintro p hp ρ N ⟨x3, x4, x5, x6, x7, x8, x9, x10, rfl⟩ hN
        simp only [yOf, Bool.and_eq_true, decide_eq_true_eq] at hN
        simp only [List.mem_cons, List.not_mem_nil, or_false] at hp
        rcases hp with rfl | rfl <;> simp [ix_rock hs.a, ix_rock hs.b, ix_rock hs.c, ix_rock hs.d, b__law_kept_L4, pk] at hN ⊢ <;>
        · (repeat' split)
          all_goals first
            | (rw [if_neg (by rintro ⟨_, _⟩; omega)] at hN; exact hN)
            | (rw [if_pos (by refine ⟨?_, ?_⟩ <;> omega)] at hN; exact hN _ _ _ _ _ _ _ _ _ rfl)
      · rintro hfeet ρ ⟨x3, x4, x5, x6, x7, x8, x9, x10, rfl⟩
        simp [pk] at hfeet
        simp only [z_seq, z_for, z_seqI, z_tup, z_cons, z_nil, z_c, z_itT, z_oPs, List.length_cons, List.length_nil]
        refine ⟨by decide, ?_⟩
        refine for_check (e := fun i : Nat => .int (i : Int)) (fun ρ => ∃ x3 x4 x5 x6 x7 x8 x9 x10 x11, ρ = [some (.sh (rockD r)), some (.sh (bodyD b)), some (.sh (staD s)), x3, x4, x5, x6, x7, x8, x9, x10, x11]) (fun i => decide (xOf r (pk s i) ≤ xOf r (pk s (i + 1)) + b.2.2.2)) [0, 2] ?_ ?_ ?_ _ ⟨x3, x4, x5, x6, x7, x8, x9, x10, _, rfl⟩
        · rintro p hp ρ N ⟨x3, x4, x5, x6, x7, x8, x9, x10, x11, rfl⟩ hN
          simp only [xOf, decide_eq_true_eq] at hN
          simp only [List.mem_cons, List.not_mem_nil, or_false] at hp
          rcases hp with rfl | rfl <;> simp [ix_rock hs.a, ix_rock hs.b, ix_rock hs.c, ix_rock hs.d, b__law_kept_L5, pk] at hN ⊢ <;>
          · (repeat' split)
            all_goals first
              | (rw [if_neg (by omega)] at hN; exact hN)
              | (rw [if_pos (by omega)] at hN; exact hN _ _ _ _ _ _ _ _ _ _ rfl)
        · rintro hx ρ ⟨x3, x4, x5, x6, x7, x8, x9, x10, x11, rfl⟩
          simp [pk] at hx
          have hk : kept r b s = true := by
            simp only [kept, nearOk, sortedX, Bool.and_eq_true, decide_eq_true_eq, xOf, yOf]
            simp only [yOf, xOf] at hnear hfeet hx
            simp [hroom, hnear, hfeet, hx]
          rw [hk] at q
          simpa using q
        · intro hx
          refine hq0 (Bool.eq_false_iff.mpr fun h => ?_)
          have := kept_iff.mp h
          simp [pk] at hx
          omega
      · intro hx
        refine hq0 (Bool.eq_false_iff.mpr fun h => ?_)
        have := kept_iff.mp h
        simp [pk] at hx
        omega
    · intro hx
      refine hq0 (Bool.eq_false_iff.mpr fun h => ?_)
      have := kept_iff.mp h
      simp only [nearL, ← apart_le] at this
      simp [pk, lim] at hx
      omega
  · intro hroom
    refine hq0 (Bool.eq_false_iff.mpr fun h => ?_)
    have : roomOk r s = true := (kept_iff.mp h).1
    unfold roomOk at this
    rw [this] at hroom
    cases hroom
end WH

set_option Elab.async false
set_option linter.all false
set_option maxRecDepth 100000
set_option maxHeartbeats 4000000
namespace WH
open PySem L2
/-! ### _law_all -/
def g__law_all : GF := fun ds P _ => ∃ (r : Rk) (b : Bd), ds = [rockD r, bodyD b] ∧ r.length ≤ 7 ∧ P (.lst ((goods r b).map staD))
/-! _law_all(holds, parts): 0 holds, 1 parts, 2 found, 3 many, 4 left, 5 right, 6 foot, 7 other -/
def N__law_all : List Str := ["holds", "parts", "found", "many", "left", "right", "foot", "other"]
def b__law_all_L1 : DS := (dIfS (dTest (dCall g__law_kept (dCons (dVar 0) (dCons (dVar 1) (dCons (dTup (dCons (dVar 4) (dCons (dVar 5) (dCons (dVar 6) (dCons (dVar 7) dNil))))) dNil))))) (fun E ρ => (∃ ds, ρ[2]? = some (some (Slot.own (.lst ds)))) ∧ dApp 2 (dTup (dCons (dVar 4) (dCons (dVar 5) (dCons (dVar 6) (dCons (dVar 7) dNil))))) E ρ) dNext)
def b__law_all_L2 : DS := (dFor (diSeq (dVar 3)) (.nm 7) b__law_all_L1)
def b__law_all_L3 : DS := (dFor (diSeq (dVar 3)) (.nm 6) b__law_all_L2)
def b__law_all_L4 : DS := (dFor (diSeq (dVar 3)) (.nm 5) b__law_all_L3)
def b__law_all : DS := (dSeq (dPar 2 3 (kOwn (dLst dNil) (kSh (dLstRg (dCB lenD (dCons (dVar 0) dNil))) kNil)))
      (dSeq (dFor (diSeq (dVar 3)) (.nm 4) b__law_all_L4)
      (dRetO 2)))
theorem len__law_all : ∀ ds P E, g__law_all ds P E → ds.length = 2 := fun ds P E ⟨v, b, e, _⟩ => by rw [e]; rfl
theorem e_lkept {r : Rk} {b : Bd} {s : Sta} {P : D → Prop} {E : Str → Prop} (h : InR r s) : g__law_kept [rockD r, bodyD b, staD s] P E ↔ P (.bl (kept r b s)) := ⟨fun ⟨r', b', s', e, _, p⟩ => by
  simp only [List.cons.injEq, rockD_inj, bodyD_inj, staD_inj, and_true] at e
  obtain ⟨rfl, rfl, rfl⟩ := e
  exact p, fun p => ⟨_, _, _, rfl, h, p⟩⟩
theorem goods_len {r : Rk} {b : Bd} (hr : r.length ≤ 7) : (goods r b).length ≤ 2401 := by
  have h0 : ((allSta r.length).map lst4).length = (rowsK r.length 4).length := by rw [rowsK_all]
  rw [List.length_map, rowsK_len] at h0
  have h1 : r.length ^ 4 ≤ 7 ^ 4 := Nat.pow_le_pow_left hr 4
  have h2 : (goods r b).length ≤ (allSta r.length).length := List.length_filter_le _ _
  omega
abbrev allR (r : Rk) (b : Bd) (acc : List Sta) (x4 x5 x6 x7 : Option Slot) : R := [some (.sh (rockD r)), some (.sh (bodyD b)), some (.own (.lst (acc.map staD))), some (.sh (.lst (rangeD (r.length : Int)))), x4, x5, x6, x7]
theorem rangeD_nat {n : Nat} : rangeD (n : Int) = (List.range n).map fun (i : Nat) => .int (i : Int) := by rw [rangeD]; rfl
theorem all_L1 {r : Rk} {b : Bd} (hr : r.length ≤ 7) {x y z : Nat} (hx : x < r.length) (hy : y < r.length) (hz : z < r.length) {E : DEnds} : ∀ (l : List Nat) (acc : List Sta) (x7 : Option Slot), (∀ i ∈ l, i < r.length) → acc.length + l.length ≤ 50000 →
    (∀ x7, E.nx (allR r b (acc ++ (l.map fun w => (x, y, z, w)).filter (kept r b)) (some (.sh (.int x))) (some (.sh (.int y))) (some (.sh (.int z))) x7)) →
    forGo (.nm 7) b__law_all_L1 E (l.map fun (i : Nat) => .int (i : Int)) (allR r b acc (some (.sh (.int x))) (some (.sh (.int y))) (some (.sh (.int z))) x7)
  | [], acc, x7, _, _, h => by simpa using h x7
  | w :: l, acc, x7, hl, hc, h => by
    have hs : InR r (x, y, z, w) := ⟨hx, hy, hz, hl w (by simp)⟩
    have e := @e_lkept r b (x, y, z, w)
    simp only [staD] at e
    simp only [List.length_cons] at hc
    have i1 : kept r b (x, y, z, w) = true → forGo (.nm 7) b__law_all_L1 E (l.map fun (i : Nat) => .int (i : Int)) (allR r b (acc ++ [(x, y, z, w)]) (some (.sh (.int x))) (some (.sh (.int y))) (some (.sh (.int z))) (some (.sh (.int w)))) := fun k =>
      all_L1 hr hx hy hz l _ _ (fun i hi => hl i (by simp [hi])) (by simp; omega) (fun x7 => by
        have := h x7
        simpa [List.filter_cons, k] using this)
    have i2 : ¬ kept r b (x, y, z, w) = true → forGo (.nm 7) b__law_all_L1 E (l.map fun (i : Nat) => .int (i : Int)) (allR r b acc (some (.sh (.int x))) (some (.sh (.int y))) (some (.sh (.int z))) (some (.sh (.int w)))) := fun k =>
      all_L1 hr hx hy hz l _ _ (fun i hi => hl i (by simp [hi])) (by omega) (fun x7 => by
        have := h x7
        simpa [List.filter_cons, k] using this)
    rw [List.map_cons, z_for1]
    generalize forGo (.nm 7) b__law_all_L1 E (l.map fun (i : Nat) => .int (i : Int)) = N at i1 i2 ⊢
    simp [b__law_all_L1, e hs]
    by_cases k : kept r b (x, y, z, w) = true
    · rw [if_pos k]
      refine ⟨by omega, ?_⟩
      simpa [allR, staD] using i1 k
    · rw [if_neg k]
      exact i2 k
theorem filt_len {n k m : Nat} {f : Nat → List Sta} {p : Sta → Bool} (hf : ∀ i, ((f i).filter p).length ≤ m) : ∀ l : List Nat, ((l.flatMap f).filter p).length ≤ m * l.length
  | [] => by simp
  | a :: l => by
    have := filt_len (n := n) (k := k) hf l
    have := hf a
    simp only [List.flatMap_cons, List.filter_append, List.length_append, List.length_cons, Nat.mul_add]
    omega
def bl1 (n x y z : Nat) : List Sta := (List.range n).map fun w => (x, y, z, w)
def bl2 (n x y : Nat) : List Sta := (List.range n).flatMap fun z => bl1 n x y z
def bl3 (n x : Nat) : List Sta := (List.range n).flatMap fun y => bl2 n x y
theorem bl1_len {n x y z : Nat} {p : Sta → Bool} (hr : n ≤ 7) : ((bl1 n x y z).filter p).length ≤ 7 := by
  have := List.length_filter_le p (bl1 n x y z)
  have e : (bl1 n x y z).length = n := by simp [bl1]
  omega
theorem bl2_len {n x y : Nat} {p : Sta → Bool} (hr : n ≤ 7) : ((bl2 n x y).filter p).length ≤ 49 :=
  Nat.le_trans (filt_len (n := 0) (k := 0) (f := fun z => bl1 n x y z) (p := p) (m := 7) (fun i => bl1_len hr) (List.range n)) (by rw [List.length_range]; omega)
theorem bl3_len {n x : Nat} {p : Sta → Bool} (hr : n ≤ 7) : ((bl3 n x).filter p).length ≤ 343 :=
  Nat.le_trans (filt_len (n := 0) (k := 0) (f := fun z => bl2 n x z) (p := p) (m := 49) (fun i => bl2_len hr) (List.range n)) (by rw [List.length_range]; omega)
theorem all_L2 {r : Rk} {b : Bd} (hr : r.length ≤ 7) {x y : Nat} (hx : x < r.length) (hy : y < r.length) {E : DEnds} : ∀ (l : List Nat) (acc : List Sta) (x6 x7 : Option Slot), (∀ i ∈ l, i < r.length) → acc.length + 7 * l.length ≤ 40000 →
    (∀ x6 x7, E.nx (allR r b (acc ++ (l.flatMap fun z => bl1 r.length x y z).filter (kept r b)) (some (.sh (.int x))) (some (.sh (.int y))) x6 x7)) →
    forGo (.nm 6) b__law_all_L2 E (l.map fun (i : Nat) => .int (i : Int)) (allR r b acc (some (.sh (.int x))) (some (.sh (.int y))) x6 x7)
  | [], acc, x6, x7, _, _, h => by simpa using h x6 x7
  | z :: l, acc, x6, x7, hl, hc, h => by
    simp only [List.length_cons] at hc
    simp [b__law_all_L2, rangeD_nat]
    rw [← rangeD_nat]
    refine all_L1 hr hx hy (hl z (by simp)) _ acc x7 (fun i hi => List.mem_range.mp hi) (by simp; omega) fun x7 => ?_
    refine all_L2 hr hx hy l _ _ x7 (fun i hi => hl i (by simp [hi])) ?_ fun x6 x7 => ?_
    · rw [List.length_append]
      exact Nat.le_trans (Nat.add_le_add_right (Nat.add_le_add_left (bl1_len (x := x) (y := y) (z := z) (p := kept r b) hr) _) _) (by omega)
    · have := h x6 x7
      simp [List.flatMap_cons, List.append_assoc] at this ⊢
      exact this
theorem all_L3 {r : Rk} {b : Bd} (hr : r.length ≤ 7) {x : Nat} (hx : x < r.length) {E : DEnds} : ∀ (l : List Nat) (acc : List Sta) (x5 x6 x7 : Option Slot), (∀ i ∈ l, i < r.length) → acc.length + 49 * l.length ≤ 30000 →
    (∀ x5 x6 x7, E.nx (allR r b (acc ++ (l.flatMap fun y => bl2 r.length x y).filter (kept r b)) (some (.sh (.int x))) x5 x6 x7)) →
    forGo (.nm 5) b__law_all_L3 E (l.map fun (i : Nat) => .int (i : Int)) (allR r b acc (some (.sh (.int x))) x5 x6 x7)
  | [], acc, x5, x6, x7, _, _, h => by simpa using h x5 x6 x7
  | y :: l, acc, x5, x6, x7, hl, hc, h => by
    simp only [List.length_cons] at hc
    simp [b__law_all_L3, rangeD_nat]
    rw [← rangeD_nat]
    refine all_L2 hr hx (hl y (by simp)) _ acc x6 x7 (fun i hi => List.mem_range.mp hi) (by simp; omega) fun x6 x7 => ?_
    refine all_L3 hr hx l _ _ x6 x7 (fun i hi => hl i (by simp [hi])) ?_ fun x5 x6 x7 => ?_
    · rw [List.length_append]
      exact Nat.le_trans (Nat.add_le_add_right (Nat.add_le_add_left (bl2_len (x := x) (y := y) (p := kept r b) hr) _) _) (by omega)
    · have := h x5 x6 x7
      simp [List.flatMap_cons, List.append_assoc] at this ⊢
      exact this
theorem all_L4 {r : Rk} {b : Bd} (hr : r.length ≤ 7) {E : DEnds} : ∀ (l : List Nat) (acc : List Sta) (x4 x5 x6 x7 : Option Slot), (∀ i ∈ l, i < r.length) → acc.length + 343 * l.length ≤ 20000 →
    (∀ x4 x5 x6 x7, E.nx (allR r b (acc ++ (l.flatMap fun x => bl3 r.length x).filter (kept r b)) x4 x5 x6 x7)) →
    forGo (.nm 4) b__law_all_L4 E (l.map fun (i : Nat) => .int (i : Int)) (allR r b acc x4 x5 x6 x7)
  | [], acc, x4, x5, x6, x7, _, _, h => by simpa using h x4 x5 x6 x7
  | x :: l, acc, x4, x5, x6, x7, hl, hc, h => by
    simp only [List.length_cons] at hc
    simp [b__law_all_L4, rangeD_nat]
    rw [← rangeD_nat]
    refine all_L3 hr (hl x (by simp)) _ acc x5 x6 x7 (fun i hi => List.mem_range.mp hi) (by simp; omega) fun x5 x6 x7 => ?_
    refine all_L4 hr l _ _ x5 x6 x7 (fun i hi => hl i (by simp [hi])) ?_ fun x4 x5 x6 x7 => ?_
    · rw [List.length_append]
      exact Nat.le_trans (Nat.add_le_add_right (Nat.add_le_add_left (bl3_len (x := x) (p := kept r b) hr) _) _) (by omega)
    · have := h x4 x5 x6 x7
      simp [List.flatMap_cons, List.append_assoc] at this ⊢
      exact this
theorem t__law_all (ds : List D) (P : D → Prop) (h : g__law_all ds P fun _ => False) : b__law_all { nx := fun _ => P .non, rt := P } (startD N__law_all ds) := by
  obtain ⟨r, b, rfl, hr, q⟩ := h
  simp [b__law_all, startD, N__law_all]
  refine ⟨by omega, ?_⟩
  rw [rangeD_nat, ← rangeD_nat]
  refine all_L4 hr (List.range r.length) [] none none none none (fun i hi => List.mem_range.mp hi) (by simp; omega) fun x4 x5 x6 x7 => ?_
  simp [FrOk, Ims_all, Im_sta]
  exact q
/-! ### rules for calls -/
section
variable {r : Rk} {b : Bd} {s : Sta} {ns : List Int} {P : D → Prop} {E : Str → Prop}
theorem e_lrock {most : Int} (h : ns.length ≤ 63) (h1 : 1 ≤ most) (h2 : most ≤ 7) : g__law_rock [.scr ns, .int most] P ↔ ∀ r, DR r → (r.length : Int) ≤ most → P (rockD r) := ⟨fun ⟨ns', m', e, _, _, _, p⟩ => by
  simp only [List.cons.injEq, D.scr.injEq, D.int.injEq, and_true] at e
  obtain ⟨rfl, rfl⟩ := e
  exact p, fun p => ⟨_, _, rfl, h, h1, h2, p⟩⟩
theorem e_lbody (h : ns.length ≤ 63) : g__law_body [.scr ns] P ↔ ∀ b, DB b → P (bodyD b) := ⟨fun ⟨ns', e, _, p⟩ => by
  simp only [List.cons.injEq, D.scr.injEq, and_true] at e
  subst e
  exact p, fun p => ⟨_, rfl, h, p⟩⟩
theorem e_lall (h : r.length ≤ 7) : g__law_all [rockD r, bodyD b] P E ↔ P (.lst ((goods r b).map staD)) := ⟨fun ⟨r', b', e, _, p⟩ => by
  simp only [List.cons.injEq, rockD_inj, bodyD_inj, and_true] at e
  obtain ⟨rfl, rfl⟩ := e
  exact p, fun p => ⟨_, _, rfl, h, p⟩⟩
theorem e_stances (h : VR r) (h2 : VB b) : g_stances [rockD r, bodyD b] P E ↔ P (.tup ((goods r b).map staD)) := by simp only [g_stances, chkR_ok h, chkB_ok h2]
theorem e_isgood {v : D} (h : VR r) (h2 : VB b) (h3 : plN 6 v = true) : g_is_good [rockD r, bodyD b, v] P E ↔ P (.bl (goodB r b v)) := by simp only [g_is_good, chkR_ok h, chkB_ok h2, h3, true_and]
@[simp] theorem e_is {x y : Bool} : g__law_is [.bl x, .bl y] P E ↔ P (.bl (x == y)) := ⟨fun ⟨x', y', e, p⟩ => by
  simp only [List.cons.injEq, D.bl.injEq, and_true] at e
  obtain ⟨rfl, rfl⟩ := e
  exact p, fun p => ⟨_, _, rfl, p⟩⟩
theorem mem_goods : s ∈ goods r b ↔ InR r s ∧ kept r b s = true := by rw [goods, List.mem_filter, mem_allSta]
end
theorem neD_self {d : D} (h : plN 6 d = true) (h2 : nB d = true) : neD d d = some false := neD_of (p := True) h h h2 h2 (by simp)
theorem eqD_self {d : D} (h : plN 6 d = true) (h2 : nB d = true) : eqD d d = some true := (eqD_of (p := True) h h h2 h2 (by simp)).trans (by simp)
theorem pl_stas {n : Nat} {l : List Sta} : plN (n + 2) (.tup (l.map staD)) = true := by simp [plN]; intro a b c d _; exact pl_sta _
theorem nB_stas {l : List Sta} : nB (.tup (l.map staD)) = true := by rw [nB_tup]; simp [nB_sta]
theorem pl_stasL {n : Nat} {l : List Sta} : plN (n + 2) (.lst (l.map staD)) = true := by simp [plN]; intro a b c d _; exact pl_sta _
theorem nB_stasL {l : List Sta} : nB (.lst (l.map staD)) = true := by rw [nB_lst]; simp [nB_sta]
theorem cutL_map {α β : Type} {f : α → β} {l : List α} {x y : Option Int} : cutL (l.map f) x y = (cutL l x y).map f := by
  unfold cutL
  rw [List.length_map, List.map_take, List.map_drop]
theorem mem_cutL {α : Type} {l : List α} {x y : Option Int} {a : α} (h : a ∈ cutL l x y) : a ∈ l := List.mem_of_mem_drop (List.mem_of_mem_take h)
theorem cutL_len {α : Type} {l : List α} {x y : Option Int} : (cutL l x y).length ≤ l.length := by
  unfold cutL
  rw [List.length_take, List.length_drop]
  omega
section
variable {s : Sta} {x y : D}
@[simp] theorem sl_s1 : slD (staD s) (some 1) none = some (.tup [.int s.2.1, .int s.2.2.1, .int s.2.2.2]) := rfl
@[simp] theorem sl_s01 : slD (staD s) none (some 1) = some (.tup [.int s.1]) := rfl
@[simp] theorem sl_s03 : slD (staD s) none (some 3) = some (.tup [.int s.1, .int s.2.1, .int s.2.2.1]) := rfl
@[simp] theorem list_s : listD [staD s] = some (.lst [.int s.1, .int s.2.1, .int s.2.2.1, .int s.2.2.2]) := rfl
@[simp] theorem add_s1 : addD (staD s) (.tup [x]) = some (.tup [.int s.1, .int s.2.1, .int s.2.2.1, .int s.2.2.2, x]) := rfl
theorem add_LL {a b : List D} (h : a.length + b.length ≤ 100000) : addD (.lst a) (.lst b) = some (.lst (a ++ b)) := by rw [addD, if_pos h]
theorem add_TT {a b : List D} (h : a.length + b.length ≤ 100000) : addD (.tup a) (.tup b) = some (.tup (a ++ b)) := by rw [addD, if_pos h]
theorem add_31 {a b c : D} : addD (.tup [a, b, c]) (.tup [x]) = some (.tup [a, b, c, x]) := rfl
end
theorem rangeD4 : rangeD 4 = [.int 0, .int 1, .int 2, .int 3] := rfl
theorem plN_tup {n : Nat} {ds : List D} : plN (n + 1) (.tup ds) = ds.all (plN n) := rfl
theorem plN_lst {n : Nat} {ds : List D} : plN (n + 1) (.lst ds) = ds.all (plN n) := rfl
@[simp] theorem plN_int {n : Nat} {i : Int} : plN n (.int i) = true := by cases n <;> rfl
@[simp] theorem plN_non {n : Nat} : plN n .non = true := by cases n <;> rfl
@[simp] theorem plN_bl {n : Nat} {b : Bool} : plN n (.bl b) = true := by cases n <;> rfl
theorem asg_n {i : Nat} {d : D} {ρ : R} {k : R → Prop} : dAsg (.nm i) d ρ k ↔ k (ρ.set i (some (.sh d))) := .rfl
end WH

set_option Elab.async false
set_option linter.all false
set_option maxRecDepth 100000
set_option maxHeartbeats 4000000
namespace WH
open PySem L2 PyProof.Rows
/-! ### _law_draw, over the heap -/
def tCnt : TE := tDGet (tVar 1) (tC (.str "count"))
def tRst : TE := tDGet (tVar 1) (tC (.str "rests"))
def tScr (K : PySem.W.Frag) : TT := fun σ H Q => tVar 0 σ H fun x H' => ∃ k, TruV K x H' k ∧ Q k H'
abbrev rAdd : R2 := rI0 fun i j => .int (i + j)
abbrev rMod : R2 := rI (fun _ j => 0 < j) fun i j => .int (i % j)
abbrev rDiv : R2 := rI CDiv fun i j => .int (i / j)
abbrev rMul : R2 := rI CMul fun i j => .int (i * j)
abbrev rPow : R2 := rI CPow fun i j => .int (i ^ j.toNat)
abbrev rGe : R2 := rI0 fun i j => .bl (decide (j ≤ i))
abbrev rLenS (K : PySem.W.Frag) : List V → Hp → VK → Prop := fun xs H Q => ∃ p ys, xs = [.ref p] ∧ (SqL K H p ys ∨ SqT K H p ys) ∧ Q (.int ys.length) H
def dr1 : TS := sDPut (tVar 1) (tC (.str "count")) (tOp rAdd tCnt (tC (.int 1)))
def dr2 (K : PySem.W.Frag) : TS := tAsg (tIf (tScr K) (tOp rMod tCnt (tCB (rLenS K) (tCons (tVar 0) tNil))) (tC (.int 0))) (gName 3)
def dr3 (K : PySem.W.Frag) : TS := tAsg (tDGet2 tRst (tVar 3) (tIf (tScr K) (tOp (rIxL K) (tVar 0) (tVar 3)) (tC (.int 0)))) (gName 4)
def dr4 : TS := tIfS (tTest (tOp rGe (tVar 4) (tOp rPow (tC (.int 10)) (tC (.int 18))))) (tSeq (sDPut tRst (tVar 3) (tOp rDiv (tVar 4) (tVar 2))) (tRet (tOp rMod (tVar 4) (tVar 2)))) tNext
def dr5 : TS := tAsg (tOp rMod (tOp rAdd (tVar 4) (tOp rMul (tC (.int 104729)) tCnt)) (tC (.int 4294967291))) (gName 5)
def dr6 : TS := tAsg (tOp rMod (tOp rPow (tVar 5) (tC (.int 5))) (tC (.int 4294967279))) (gName 5)
def dr7 : TS := tRet (tOp rMod (tOp rDiv (tOp rMod (tOp rAdd (tOp rMul (tOp rDiv (tVar 5) (tC (.int 64))) (tC (.int 69621))) (tVar 5)) (tC (.int 4294967231))) (tC (.int 8))) (tVar 2))
def trDraw (K : PySem.W.Frag) : TS := tSeq dr1 (tSeq (dr2 K) (tSeq (dr3 K) (tSeq dr4 (tSeq dr5 (tSeq dr6 dr7)))))
abbrev N__law_draw : List Str := ["script", "town", "many", "at", "rest", "number"]
theorem nodup_le {α : Type} [BEq α] [LawfulBEq α] {l : List α} {m : List α} (h : l.Nodup) (s : ∀ x ∈ l, x ∈ m) : l.length ≤ m.length := nodup_len h s
theorem kvs_len {kvs : List (Key × V)} (h : ∀ k v, (k, v) ∈ kvs → ∃ i n : Int, k = .inl i ∧ v = .int n ∧ 0 ≤ i ∧ i < 64) (nd : (kvs.map (·.1)).Nodup) : kvs.length ≤ 64 := by
  have key : (kvs.map fun p => match p.1 with | .inl i => i.toNat | .inr _ => 0).Nodup := by
    have : (kvs.map fun p => match p.1 with | .inl i => i.toNat | .inr _ => 0) = (kvs.map (·.1)).map fun k => match k with | .inl i => i.toNat | .inr _ => 0 := by rw [List.map_map]; rfl
    rw [this]
    refine List.Pairwise.map _ ?_ (List.Pairwise.and_mem.mp nd)
    rintro a b ⟨ha, hb, hne⟩ e
    obtain ⟨pa, ha', rfl⟩ := List.mem_map.mp ha
    obtain ⟨pb, hb', rfl⟩ := List.mem_map.mp hb
    obtain ⟨i, n, e1, _, i0, i1⟩ := h pa.1 pa.2 ha'
    obtain ⟨j, m, e2, _, j0, j1⟩ := h pb.1 pb.2 hb'
    rw [e1, e2] at e hne
    simp only at e
    exact hne (by rw [show i = j by omega])
  have := nodup_le (m := List.range 64) key fun x hx => by
    obtain ⟨p, hp, rfl⟩ := List.mem_map.mp hx
    obtain ⟨i, n, e1, _, i0, i1⟩ := h p.1 p.2 hp
    rw [e1]
    simp only [List.mem_range]
    omega
  simpa using this
theorem put_count (c : Int) (b : Addr) (x : V) : putK [((.inr "count" : Key), V.int c), (.inr "rests", .ref b)] (.inr "count") x = [(.inr "count", x), (.inr "rests", .ref b)] := by
  have h1 : ¬ ((.inr "rests" : Key) = .inr "count") := by decide +kernel
  simp [putK, h1]
theorem val_count (x : V) (b : Addr) : valV [((.inr "count" : Key), x), (.inr "rests", .ref b)] (.inr "count") = some x := by simp [valV]
theorem val_rests (x : V) (b : Addr) : valV [((.inr "count" : Key), x), (.inr "rests", .ref b)] (.inr "rests") = some (.ref b) := by
  have h1 : ¬ ((.inr "count" : Key) = .inr "rests") := by decide +kernel
  simp [valV, List.find?_cons, h1]
theorem mem_putK {kvs : List (Key × V)} {k : Key} {x : V} {p : Key × V} (h : p ∈ putK kvs k x) : p ∈ kvs ∨ p = (k, x) := by
  unfold putK at h
  split at h
  · obtain ⟨q, hq, e⟩ := List.mem_map.mp h
    by_cases z : q.1 = k
    · rw [if_pos z] at e
      exact .inr (by rw [← e, z])
    · rw [if_neg z] at e
      exact .inl (e ▸ hq)
  · rcases List.mem_append.mp h with h | h
    · exact .inl h
    · exact .inr (by simpa using h)
theorem keys_putK {kvs : List (Key × V)} {k : Key} {x : V} (h : (kvs.map (·.1)).Nodup) : ((putK kvs k x).map (·.1)).Nodup := by
  unfold putK
  split
  · rename_i q
    have : (kvs.map fun kv => if kv.1 = k then (kv.1, x) else kv).map (·.1) = kvs.map (·.1) := by
      rw [List.map_map]
      apply List.map_congr_left
      intro p _
      simp only [Function.comp]
      split <;> rfl
    rw [this]
    exact h
  · rename_i q
    rw [List.map_append, List.nodup_append]
    refine ⟨h, by simp, fun a ha b hb e => ?_⟩
    simp at hb
    subst e; subst hb
    obtain ⟨p, hp, e⟩ := List.mem_map.mp ha
    exact q (List.any_eq_true.mpr ⟨p, hp, by simp [e]⟩)
theorem valV_mem {kvs : List (Key × V)} {k : Key} {v : V} (h : valV kvs k = some v) : (k, v) ∈ kvs := by
  unfold valV at h
  obtain ⟨p, hp, e⟩ := Option.map_eq_some_iff.mp h
  have h1 := List.find?_some hp
  have h2 := List.mem_of_find?_eq_some hp
  simp only [decide_eq_true_eq] at h1
  rw [← h1, ← e]
  exact h2
theorem p_draw {C : CK} (vs : List V) (H : Hp) (Q : VK) (E : XK) (h : spT C g__law_draw vs H Q E) : trDraw C.K { nx := fun _ H' => Q .non H', rt := Q } (start N__law_draw vs) H := by
  obtain ⟨t, b, v0, vr, ds, P, rfl, to, dv, ⟨ns, many, rfl, hn, m1, m2, hP⟩, hQ⟩ := h
  obtain ⟨w0, w1, e, d0, d1⟩ := dvs2 dv
  cases e
  cases d1
  cases d0 with
  | scr hS =>
  rename_i a
  obtain ⟨c, kvs, ht, hb, hne, hk, hnd⟩ := to
  have hlk := kvs_len hk hnd
  have exV : ∀ H' : Hp, (∀ x, x ≠ t → x ≠ b → H' x = H x) → SqL C.K H' a (ns.map V.int) := fun H' k => by
    refine Ex.l (fun x o hx => ?_) hS
    obtain ⟨h1, h2⟩ := hid_some.mp hx
    have h3 : ¬ x = t ∧ ¬ x = b := by simpa [volT, volOf] using h2
    rw [k x h3.1 h3.2]
    exact h1
  have hbt : b ≠ t := fun z => hne z.symm
  generalize hH1 : upd H t (.dK [(.inr "count", .int (c + 1)), (.inr "rests", .ref b)]) = H1
  have ht1 : H1 t = some (.dK [(.inr "count", .int (c + 1)), (.inr "rests", .ref b)]) := by rw [← hH1]; exact upd_same
  have hb1 : H1 b = some (.dK kvs) := by rw [← hH1, upd_ne hbt]; exact hb
  have hS1 : SqL C.K H1 a (ns.map V.int) := exV H1 fun x h1 _ => by rw [← hH1, upd_ne h1]
  have hcnt : DGet H1 t (.str "count") (some (.int (c + 1))) := by
    have := DGet.k (k := .inr "count") ht1
    rw [val_count] at this
    exact this
  have hrst : DGet H1 t (.str "rests") (some (.ref b)) := by
    have := DGet.k (k := .inr "rests") ht1
    rw [val_rests] at this
    exact this
  have fin : ∀ (at_ rest : Int), 0 ≤ at_ → at_ < 64 → tSeq dr4 (tSeq dr5 (tSeq dr6 dr7)) { nx := fun _ H' => Q .non H', rt := Q } [some (.ref a), some (.ref t), some (.int many), some (.int at_), some (.int rest), none] H1 := by
    intro at_ rest a0 a1
    refine ⟨.int rest, rfl, 10, 18, rfl, rfl, ⟨by decide, by decide, by decide⟩, rest, _, rfl, rfl, _, rfl, ?_⟩
    show (if _ then _ else _)
    split
    · refine ⟨.int rest, rfl, .int many, rfl, rest, many, rfl, rfl, ⟨by omega, by omega⟩, .ref t, rfl, t, .ref b, rfl, hrst, .int at_, rfl, b, _, rfl, DPut.k (k := .inl at_) hb1 (by rw [sizeLine_eq]; omega), ?_⟩
      refine ⟨.int rest, rfl, .int many, rfl, rest, many, rfl, rfl, by omega, ?_⟩
      refine hQ (.int (rest % many)) _ _ (fun _ => none) (hP _ (Int.emod_nonneg _ (by omega)) (Int.emod_lt_of_pos _ (by omega))) ⟨fun x o hv hx => ?_, ⟨c + 1, _, by rw [upd_ne hne]; exact ht1, upd_same, hne, fun k v hkv => ?_, keys_putK hnd⟩, fun x o hx => by cases hx⟩ (.int _)
      · have h3 : ¬ x = t ∧ ¬ x = b := by simpa [volT, volOf] using hv
        rw [upd_ne h3.2, ← hH1, upd_ne h3.1]
        exact hx
      · rcases mem_putK hkv with z | z
        · exact hk k v z
        · cases z
          exact ⟨_, _, rfl, rfl, a0, a1⟩
    · refine ⟨.int rest, rfl, .ref t, rfl, t, _, rfl, hcnt, 104729, c + 1, rfl, rfl, .inl ⟨by decide, by decide⟩, rest, _, rfl, rfl, _, 4294967291, rfl, rfl, (by show (0 : Int) < 4294967291; decide), ?_⟩
      show tSeq dr6 dr7 _ [some (.ref a), some (.ref t), some (.int many), some (.int at_), some (.int rest), some (.int ((rest + 104729 * (c + 1)) % 4294967291))] H1
      generalize hn1 : (rest + 104729 * (c + 1)) % 4294967291 = n1
      have n1a : 0 ≤ n1 := by omega
      have n1b : n1 < 4294967291 := by omega
      refine ⟨.int n1, rfl, n1, 5, rfl, rfl, ⟨by decide, by decide, by omega⟩, _, 4294967279, rfl, rfl, (by show (0 : Int) < 4294967279; decide), ?_⟩
      show dr7 _ [some (.ref a), some (.ref t), some (.int many), some (.int at_), some (.int rest), some (.int (n1 ^ (5 : Int).toNat % 4294967279))] H1
      generalize hn2 : n1 ^ (5 : Int).toNat % 4294967279 = n2
      refine ⟨.int n2, rfl, n2, 64, rfl, rfl, ⟨by decide, by decide⟩, _, 69621, rfl, rfl, .inr ⟨by decide, by decide⟩, .int n2, rfl, _, n2, rfl, rfl, _, 4294967231, rfl, rfl, (by show (0 : Int) < 4294967231; decide), _, 8, rfl, rfl, ⟨by decide, by decide⟩, .int many, rfl, _, many, rfl, rfl, (by show (0 : Int) < many; omega), ?_⟩
      refine hQ _ _ _ (fun _ => none) (hP _ (Int.emod_nonneg _ (by omega)) (Int.emod_lt_of_pos _ (by omega))) ⟨fun x o hv hx => ?_, ⟨c + 1, kvs, ht1, hb1, hne, hk, hnd⟩, fun x o hx => by cases hx⟩ (.int _)
      have h3 : ¬ x = t ∧ ¬ x = b := by simpa [volT, volOf] using hv
      rw [← hH1, upd_ne h3.1]
      exact hx
  have third : ∀ (at_ : Int), 0 ≤ at_ → at_ < 64 → (ns ≠ [] → at_ < ns.length) → tSeq (dr3 C.K) (tSeq dr4 (tSeq dr5 (tSeq dr6 dr7))) { nx := fun _ H' => Q .non H', rt := Q } [some (.ref a), some (.ref t), some (.int many), some (.int at_), none, none] H1 := by
    intro at_ a0 a1 a2
    have val : ∀ n0 : Int, ∃ n : Int, (valV kvs (.inl at_)).getD (.int n0) = .int n := fun n0 => by
      cases z : valV kvs (.inl at_) with
      | none => exact ⟨n0, rfl⟩
      | some v =>
        obtain ⟨i, n, _, e2, _⟩ := hk _ _ (valV_mem z)
        exact ⟨n, e2⟩
    refine ⟨.ref t, rfl, t, .ref b, rfl, hrst, b, rfl, .inl ⟨kvs, .inl hb1⟩, .int at_, rfl, .ref a, rfl, _, .inl ⟨_, hS1, rfl⟩, ?_⟩
    by_cases hz : ns = []
    · subst hz
      refine ⟨_, DGet.k (k := .inl at_) hb1, ?_⟩
      obtain ⟨n, en⟩ := val 0
      rw [en]
      exact fin at_ n a0 a1
    · have hz2 : (ns.map V.int).isEmpty = false := by cases ns <;> simp at hz ⊢
      have hlt := a2 hz
      obtain ⟨k, rfl⟩ := Int.eq_ofNat_of_zero_le a0
      have hk2 : k < ns.length := by omega
      rw [hz2]
      refine ⟨.ref a, rfl, .int k, rfl, a, _, k, .int ns[k], rfl, rfl, hS1, atI_nat (by simp [hk2]), ?_⟩
      refine ⟨_, DGet.k (k := .inl (k : Int)) hb1, ?_⟩
      obtain ⟨n, en⟩ := val ns[k]
      rw [en]
      exact fin k n a0 a1
  have h0 : DGet H t (.str "count") (some (.int c)) := by
    have := DGet.k (k := .inr "count") ht
    rw [val_count] at this
    exact this
  refine ⟨.ref t, rfl, t, .int c, rfl, h0, c, 1, rfl, rfl, .ref t, rfl, t, H1, rfl, ?_, ?_⟩
  · have := DPut.k (k := .inr "count") (v := .int (c + 1)) ht (by rw [sizeLine_eq]; simp)
    rw [put_count, hH1] at this
    exact this
  · refine ⟨.ref a, rfl, _, .inl ⟨_, hS1, rfl⟩, ?_⟩
    by_cases hz : ns = []
    · subst hz
      exact third 0 (by decide) (by decide) (fun z => absurd rfl z)
    · have hz2 : (ns.map V.int).isEmpty = false := by cases ns <;> simp at hz ⊢
      have hl0 : 0 < ns.length := List.length_pos_iff.mpr hz
      rw [hz2]
      refine ⟨.ref t, rfl, t, _, rfl, hcnt, .ref a, rfl, a, _, rfl, .inl hS1, c + 1, _, rfl, rfl, by simp; omega, ?_⟩
      refine third _ (Int.emod_nonneg _ (by simp; omega)) ?_ fun _ => ?_
      · have := Int.emod_lt_of_pos (c + 1) (show (0 : Int) < ((ns.map V.int).length : Nat) by simp; omega)
        have e : ((ns.map V.int).length : Int) = ns.length := by simp
        omega
      · have := Int.emod_lt_of_pos (c + 1) (show (0 : Int) < ((ns.map V.int).length : Nat) by simp; omega)
        have e : ((ns.map V.int).length : Int) = ns.length := by simp
        omega
theorem len_draw {C : CK} (vs : List V) (H : Hp) (Q : VK) (E : XK) (h : spT C g__law_draw vs H Q E) : vs.length = 3 := by
  obtain ⟨t, b, v0, vr, ds, P, rfl, to, dv, ⟨ns, many, rfl, _⟩, _⟩ := h
  have := dv.length
  simp only [List.length_cons, List.length_nil] at this ⊢
  omega
/-! ### _law_begun -/
def trBegun : TS := tRet (tDisp [(tC (.str "count"), tC (.int 0)), (tC (.str "rests"), tDNewK)])
theorem p_begun (vs : List V) (H : Hp) (Q : VK) (E : XK) (h : spBegun vs H Q E) : trBegun { nx := fun _ H' => Q .non H', rt := Q } (start [] vs) H := by
  obtain ⟨rfl, hQ⟩ := h
  intro t ht b hb
  have hbt : b ≠ t := fun z => by rw [z, upd_same] at hb; cases hb
  have hb0 : H b = none := by rw [upd_ne hbt] at hb; exact hb
  refine ⟨by rw [upd_ne (Ne.symm hbt)]; exact upd_same, [(.inr "count", .int 0), (.inr "rests", .ref b)], rfl, by simp, ?_⟩
  have e1 : mergeK [] [((.inr "count" : Key), V.int 0), (.inr "rests", .ref b)] = [(.inr "count", .int 0), (.inr "rests", .ref b)] := by
    have h1 : ¬ ((.inr "count" : Key) = .inr "rests") := by decide +kernel
    simp [mergeK, putK, h1]
  have e2 : upd (upd (upd H t (.dK [])) b (.dK [])) t (.dK (mergeK [] [((.inr "count" : Key), V.int 0), (.inr "rests", .ref b)])) = upd (upd H b (.dK [])) t (.dK [(.inr "count", .int 0), (.inr "rests", .ref b)]) := by
    rw [e1]
    funext x
    by_cases hx : x = t
    · rw [hx, upd_same, upd_same]
    · rw [upd_ne hx, upd_ne hx]
      by_cases hxb : x = b
      · rw [hxb, upd_same, upd_same]
      · rw [upd_ne hxb, upd_ne hxb, upd_ne hx]
  rw [e2]
  exact hQ t b ht hb0 (Ne.symm hbt)
end WH

set_option Elab.async false
set_option linter.all false
set_option maxRecDepth 100000
set_option maxHeartbeats 4000000
namespace WH
open PySem PySem.Spec L2 PyProof.Rows
/-! ### a caught error that is kept -/
/-- the error at a: its class, its dict -/
def XO (cls : Value) (d : Option Addr) (a : Addr) : HO := .ext fun h => ∃ (oe : Obj) (vs : Array Value), h.get? a = some oe ∧ Zc cls d oe ∧ oe.data = .fields vs
theorem xo_ok {P : Program} {w : World} {H : Hp} {h : Heap} {a : Addr} {cls : Value} {d : Option Addr} {oe : Obj} {vs : Array Value} (e : h.get? a = some oe) (z : Zc cls d oe) (f : oe.data = .fields vs) : ObjOk P w H h a (XO cls d a) :=
  ⟨⟨oe, vs, e, z, f⟩, ⟨oe, e⟩, fun _ _ ⟨o, v, q, r⟩ k => ⟨o, v, k o q, r⟩⟩
section
variable {X : Cx} {pp : List (Addr × Obj)} {τ : L2.St} {H : Hp} {s : Shared} {a : Addr} {o : HO}
/-- an object of the heap, unknown so far, is known from now on -/
theorem inv_track (I : Inv X pp τ H s) (ha : H a = none) (h0 : X.s_0.heap.get? a = none) (nL : a ≠ X.env.locals) (nc : ∀ y c, X.env.cells.lookup y = some c → c ≠ a) (np : ∀ p ∈ X.pn ++ pp, p.1 ≠ a) (ok : ObjOk X.prog X.w (upd H a o) s.heap a o) : Inv X pp τ (upd H a o) s where
  ok := I.ok
  os := I.os
  bare := I.bare
  base := {
    keep := I.base.keep
    slot := I.base.slot
    free := fun b u q n x => by
      rw [upd_ne (fun z => by rw [z, h0] at q; cases q)]
      exact I.base.free b u q n x
    there := I.base.there
    tups := fun b xs q => by
      have z := I.base.tups b xs q
      rw [upd_ne (ne_of_none z ha)]
      exact z
    frzs := fun b u v q => by
      have z := I.base.frzs b u v q
      rw [upd_ne (ne_of_none z ha)]
      exact z
    tbls := fun b ps q => by
      obtain ⟨m, z⟩ := I.base.tbls b ps q
      exact ⟨m, by rw [upd_ne (ne_of_none z ha)]; exact z⟩ }
  loc := I.loc
  cell := I.cell
  free := by rw [upd_ne (Ne.symm nL)]; exact I.free
  freeC := fun y c q => by rw [upd_ne (nc y c q)]; exact I.freeC y c q
  pin := fun p hp => by
    obtain ⟨q1, q2, q3⟩ := I.pin p hp
    exact ⟨q1, by rw [upd_ne (np p hp)]; exact q2, q3⟩
  hok := fun b u q => by
    by_cases hb : b = a
    · subst hb
      rw [upd_same] at q
      cases q
      exact ok
    · rw [upd_ne hb] at q
      exact (I.hok b u q).stay (fun _ _ _ z => z) (fun c z => by rw [upd_ne (ne_of_none z ha)]; exact z) fun c xs z => by rw [upd_ne (ne_of_none z ha)]; exact z
  len := I.len
end
/-- what is asked of an error of the body; n's slot is i -/
def wKeep (K : PySem.W.Frag) (c : Value) (i : Nat) (ts : Addr → TS) (D : Ends) : WX := fun cls d τ H =>
  PySem.W.exmOne K cls c = some true ∧ ∀ a, H a = none → ts a { nx := fun τ' H' => H' a = none → D.nx (τ'.set i none) (upd H' a (XO cls d a)), rt := fun _ _ => False } (τ.set i (some (.ref a))) H
section
variable {X : Cx} {x n : Str} {c : Value} {i : Nat} {body suite : List Stmt} {b1 : Stmt} {np pos pos2 : Pos} {tb : WX → TS} {ts : Addr → TS}
theorem ps_try_keep (hs : X.stack = X.env :: X.outer) (hf : X.env.frame = some X.env.locals) (hN : X.N.Nodup) (hi : X.N[i]? = some n) (hln : X.env.kindOf n = some .local) (hc : Names X x c) (hx : X.ex = [])
    (hb : ∀ (W : WX) (pn : List (Addr × Obj)) (xe : Value → Shared → Prop), Takes (X.tr pn xe) W → PSs (X.tr pn xe) body (tb W))
    (hsu : ∀ (a : Addr) (oe : Obj) (pn : List (Addr × Obj)), PSs (X.suite a ((a, oe) :: pn)) (b1 :: suite) (ts a)) :
    PS X (.Try body [.ExceptHandler (some (.Name x np)) (some n) (b1 :: suite) pos2] [] [] pos) (fun D τ H => tb (wKeep X.K c i ts D) D τ H) := by
  refine ⟨fun pp s τ H D I h => ?_⟩
  have okX := I.ok
  have frX : X.A.frames = some (X.env :: X.outer) := okX.frames.trans (by rw [hs])
  refine wpAny_Try_except ?_
  refine wpAny_mono ((hb (wKeep X.K c i ts D) (X.pn ++ pp) (fun e s1 => wpAny (model X.prog X.w) X.A (noteFrame e X.env) (fun _ s2 => wpAny (model X.prog X.w) X.A (setFlight e none) (fun _ s3 => wpAny (model X.prog X.w) X.A (handleBy e X.env [.ExceptHandler (some (.Name x np)) (some n) (b1 :: suite) pos2]) (SP X pp D) X.xe s3) X.xe s2) X.xe s1) (fun u s' xx => ?_)).run [] s τ H D (I.toTry _) h) (fun f s1 z => ?_) (fun e s1 z => z)
  · obtain ⟨a, B, t, pp2, τ2, H2, cls, d, rfl, I2, nb, up, sky, na, os, ag, yes, go⟩ := xx
    have J : Inv X pp τ2 H2 t := I2.ofTry okX
    rw [hs] at sky
    show wpAny (model X.prog X.w) X.A (noteFrame (.ref a) X.env) _ _ _
    refine Sky.land Zc.steady frX hf sky fun h3 fl3 up3 => ?_
    have J3 : Inv X pp τ2 H2 { s' with heap := h3 } := J.landed nb fl3.1 (up.trans up3) os ag
    obtain ⟨o3, v3, he3, hz3, hd3⟩ := fl3.there
    have out : a ∉ frs (X.env :: X.outer) := fun hm => by
      obtain ⟨_, o2, e2, nf⟩ := fl3.2.2.1.mem hm
      rw [he3] at e2
      cases e2
      exact nf _ hd3
    have nL : a ≠ X.env.locals := fun z => out (List.mem_filterMap.mpr ⟨X.env, List.mem_cons_self, by rw [hf, z]⟩)
    have nF : a ∉ X.fs := fun hm => by
      obtain ⟨e, he, q⟩ := List.mem_filterMap.mp hm
      exact out (List.mem_filterMap.mpr ⟨e, List.mem_cons_of_mem _ he, q⟩)
    have fresh : t.heap.get? a = none := by
      cases e : t.heap.get? a with
      | none => rfl
      | some o =>
        have := nb a o e (by rw [hs]; exact out)
        rw [fl3.2.1] at this
        cases this
    have old : X.s_0.heap.get? a = none := by
      cases e : X.s_0.heap.get? a with
      | none => rfl
      | some o =>
        obtain ⟨o2, e2⟩ := J.base.there a o e (by rw [hx]; simp)
        rw [fresh] at e2
        cases e2
    have S3 := J3.suite he3 hd3 na nL nF
    refine wpAny_handleBy_cons (codeAny_handlers_test ?_) (by intro q; cases q)
    have LT : PySem.W.Looks (model X.prog X.w) h3 (typeOf (.ref a)) cls := fun A Q E s k q => wpAny_typeOf_ref (k _ _ he3) (by rw [hz3.1]; exact q)
    have LM := PySem.W.exm_one (M := model X.prog X.w) J3.kIn LT yes
    have test : ∀ {Q : Value → Shared → Prop} {E : Value → Shared → Prop}, Q c { s' with heap := h3 } → wpAny (model X.prog X.w) (X.A.mark (some (.ref a))) (eval (.Name x np) X.env) Q E { s' with heap := h3 } := fun {Q E} q => by
      rcases hc with ⟨g1, g2, g3 | ⟨g3, g4, g5⟩⟩
      · exact ld_glob (X := X.suite a ((a, o3) :: (X.pn ++ pp))) S3 g1 g3 q g2
      · exact ld_blt (X := X.suite a ((a, o3) :: (X.pn ++ pp))) S3 g1 g3 g4 q g5 g2
    refine test (LM.here ?_)
    refine codeAny_handlers_suite_as ?_
    refine HandSPX.lands_againZ fl3 fun h4 fl4 up4 => ?_
    have J4 : Inv X pp τ2 H2 { s' with heap := h4 } := J.landed nb fl4.1 ((up.trans up3).trans up4) os ag
    obtain ⟨o4, v4, he4, hz4, hd4⟩ := fl4.there
    have S4 := J4.suite he4 hd4 na nL nF
    refine store_ok (X := X.suite a ((a, o4) :: (X.pn ++ pp))) (v := .ref a) S4 hN hi (.inl hln) rfl (fun s5 S5 => ?_) (.inr hln)
    refine wpAny_mono ((hsu a o4 (X.pn ++ pp)).run [] s5 _ H2 _ S5 (go a na)) (fun f s6 z => ?_) (fun _ _ z => False.elim z)
    cases f with
    | next =>
      obtain ⟨τ6, H6, S6, q6⟩ := z
      obtain ⟨p1, p2, p3, p4, p5⟩ := S6.pin (a, o4) (List.mem_append.mpr (.inl List.mem_cons_self))
      have J6 : Inv X pp τ6 H6 s6 := S6.unsuite okX
      have cellN : ∀ y c, X.env.cells.lookup y = some c → c ≠ a := fun y c q z => by
        obtain ⟨v, ob, e1, e2⟩ := J6.cell y c q
        rw [z, p1] at e1
        cases e1
        exact p5 _ e2
      have pinN : ∀ p ∈ X.pn ++ pp, p.1 ≠ a := fun p hp z => by
        have := (J.pin p hp).1
        rw [z, fresh] at this
        cases this
      have J7 := inv_track (o := XO cls d a) J6 p2 old nL cellN pinN (xo_ok p1 hz4 hd4)
      exact gone_ok J7 hN hi hln fun s7 J8 => ⟨_, _, J8, q6 p2⟩
    | brk => obtain ⟨_, _, _, q⟩ := z; exact q.elim
    | cont => obtain ⟨_, _, _, q⟩ := z; exact q.elim
    | ret u => obtain ⟨_, _, _, _, _, q⟩ := z; exact q.elim
  · cases f with
    | next =>
      obtain ⟨τ2, H2, J2, q⟩ := z
      exact wpAny_execs_nil ⟨τ2, H2, J2.ofTry okX, q⟩
    | brk =>
      obtain ⟨τ2, H2, J2, q⟩ := z
      exact ⟨τ2, H2, J2.ofTry okX, q⟩
    | cont =>
      obtain ⟨τ2, H2, J2, q⟩ := z
      exact ⟨τ2, H2, J2.ofTry okX, q⟩
    | ret u =>
      obtain ⟨v, τ2, H2, J2, r, q⟩ := z
      exact ⟨v, τ2, H2, J2.ofTry okX, r, q⟩
end
/-- isinstance of a kept error -/
def rIsX (K : PySem.W.Frag) : List V → Hp → VK → Prop := fun xs H Q => ∃ (a D : Addr) (c : V) (cv : Value) (b : Bool), xs = [.ref a, c] ∧ H a = some (XO (.ref D) none a) ∧ ExcC K D ∧ (∀ u, RelV c u → u = cv) ∧ PySem.W.kitOne K (.ref D) cv = some b ∧ Q (.bl b) H
theorem call_isX {X : Cx} : CallR X (.builtin "isinstance") (rIsX X.K) := by
  intro pp s τ H xs us Q I r h
  obtain ⟨a, D, c, cv, b, rfl, ha, C, hcv, e, q⟩ := h
  cases r with
  | cons rx rr =>
    cases rr with
    | cons rt rr =>
      cases rr
      cases rx
      cases hcv _ rt
      obtain ⟨⟨oe, vs, h1, h2, h3⟩, _, _⟩ := I.hok a _ ha
      have J : PySem.W.InstAt s.heap a oe D none := by
        obtain ⟨k1, k2, k3, k4⟩ := oe
        obtain ⟨z1, z2⟩ := h2
        dsimp only at z1 z2 h3
        subst z1 z2 h3
        exact ⟨h1, rfl, rfl, trivial⟩
      exact PySem.W.kia_one (PySem.W.handS_kitx_exc C.hg C.hk C.hs C.hd C.ha C.hn C.ht C.hm) I.kIn J e (fun z => nomatch z) fun tk => ⟨.bl b, H, I.kept (t' := tk) fun _ _ z => z, rfl, q⟩
/-- d.update(d2), both with texts as keys -/
def rUpd : V → List V → Hp → VK → Prop := fun x vs H Q => ∃ (a b : Addr) (kvs more : List (Key × V)), x = .ref a ∧ vs = [.ref b] ∧ H a = some (.dK kvs) ∧ H b = some (.dK more) ∧ a ≠ b ∧ kvs.length + more.length ≤ 1000 ∧ Q .non (upd H a (.dK (mergeK kvs more)))
theorem putK_len (kvs : List (Key × V)) (k : Key) (x : V) : (putK kvs k x).length ≤ kvs.length + 1 := by
  unfold putK
  split <;> simp
theorem mergeK_len : ∀ (more kvs : List (Key × V)), (mergeK kvs more).length ≤ kvs.length + more.length
  | [], kvs => by simp [mergeK]
  | p :: more, kvs => by
    have h1 := mergeK_len more (putK kvs p.1 p.2)
    have h2 := putK_len kvs p.1 p.2
    have e : mergeK kvs (p :: more) = mergeK (putK kvs p.1 p.2) more := rfl
    rw [e]
    simp only [List.length_cons]
    omega
theorem mt_upd {X : Cx} : MtR X "dict.update" rUpd := by
  intro pp s τ H x vs v us Q I rx rv h
  obtain ⟨a, b, kvs, more, ex, ev, ha, hb, hne, hl, q⟩ := h
  subst ex
  subst ev
  obtain rfl : v = Value.ref a := rx
  cases rv with
  | cons r1 rr =>
    cases rr
    cases r1
    obtain ⟨z1, d1, w1, k1, dd1⟩ := dk_of I.hok ha
    obtain ⟨z2, d2, w2, k2, dd2⟩ := dk_of I.hok hb
    have hln : kvs.length + more.length ≤ sizeLine := by rw [sizeLine_eq]; omega
    refine call_meetsIn PySem.F.slot_dict_update dd1.typeIs PySem.F.entry_dict_update (PySem.F.args_dict_update_2 _ _) (meets_dict_update (mixKind X.prog X.w) a b hne d2) ⟨w1, w2, dd1, dd2, by rw [← k1.length, ← k2.length]; exact hln, fun h' dd' _ hs => ?_⟩
    have he : ∃ q, h'.get? a = some q := let ⟨q, _, _, hq, _⟩ := dd'; ⟨q, hq⟩
    refine ⟨.non, _, d_write (t' := s.toks) I (by rw [ha]; exact True.intro) hs he (dk_new (Nat.le_trans (mergeK_len more kvs) hln) d1 (KV.merge k2 k1) dd'), rfl, q⟩
end WH

set_option Elab.async false
set_option linter.all false
set_option maxRecDepth 100000
set_option maxHeartbeats 4000000
namespace WH
open PySem PySem.Spec L2 PyProof.Rows
/-! ### defs that raise -/
/-- what a def that may raise is worth: Ee, the errors' names -/
def spX (C : CK) (g : GF) : Sp := fun vs H Q E => ∃ ds P Ee, DVs C H vs ds ∧ g ds P Ee ∧ (∀ d v H' N, P d → NewT H H' N → DV C N v d → Q v H') ∧ ∀ x D, Ee x → C.mg x = some (.ref D) → ∀ H', Ex H H' → E (.ref D) none H'
/-- what the context takes of errors named by Ee -/
structure FX (Ee : Str → Prop) (C : Ctx) (X : Cx) : Prop where
  ex : ∃ E : XK, Takes X (fun cls d _ H => E cls d H) ∧ ∀ x D, Ee x → C.mg x = some (.ref D) → ∀ H, (∀ a o, C.vol0 a = false → C.H0 a = some o → H a = some o) → E (.ref D) none H
structure FNX (P : Program) (w : World) (K : PySem.W.Frag) (mg : Str → Option Value) (base : Heap) (k : Nat) (x : Str) (ps : List Str) (kn : List Nat) (sp : Sp) : Prop where
  ex : ∃ f fd, FnOk P w K mg base (L2.CX P w) k f fd ps sp ∧ mg x = some (.ref f) ∧ PySem.W.keepIn K (.ref f) = true ∧ Binds K fd ps [] ∧
    ∀ n, n ∈ kn → KBn K fd ps n (ps.drop n) (fun us ws => us ++ ws) (fun vs zs => vs ++ zs)
/-- an own class of errors over ValueError -/
structure ExF (K : PySem.W.Frag) (mg : Str → Option Value) (x : Str) : Prop where
  ex : ∃ D, mg x = some (.ref D) ∧ PySem.W.excIn K D He.veBase "ValueError.__new__" = true ∧ PySem.W.keepIn K (.ref D) = true ∧ PySem.W.subIn K (.ref D) (.type "BaseException") = some true ∧ PySem.W.typeIn K (.ref D) = some (.type "type")
section
variable {P : Program} {w : World} {K : PySem.W.Frag} {mg : Str → Option Value} {base : Heap} {X : Cx} {C : Ctx} {e : Expr} {es : List Expr} {tr tr2 : DA} {pos p p2 pos2 : Pos} {k : Nat} {ps : List Str} {kn : List Nat} {g : GF} {x : Str} {Ee : Str → Prop}
theorem fc_callX (hX : Fit P w K mg base C X) (hE : FX Ee C X) (F : FNX P w K mg base k x ps kn (spX ⟨K, mg, P, w⟩ g)) (hr : Room k X.A) (ha : PA X (e :: es) (liAB C tr)) (hg : Gl X x := by rfl)
    (hdb : (x == ("__debug__" : Str)) = false := by decide) (hs : starEach (e :: es) X.env = (false, eval e X.env) :: starEach es X.env := by rfl) (hpl : (backTo pos (starEach es X.env)).any (·.1) = false := by rfl) :
    PE X (.Call (.Name x p) (e :: es) [] pos) (liE C (dCallX Ee g tr)) := by
  obtain ⟨f, fd, F1, m, kp, b, _⟩ := F.ex
  obtain ⟨⟨hK, hM, hu, hc, hn, hP, hw⟩, rfl, hck⟩ := hX
  obtain ⟨E, tk, hEe⟩ := hE.ex
  obtain ⟨⟨K', mg', P', w'⟩, H0, tb0, T0⟩ := C
  cases hck
  simp only at hP hw
  subst hP; subst hw
  simp only at hK hM
  rw [← hK] at kp b
  rw [← hK, ← hM] at F1
  rw [← hM] at m
  refine PE.to (pe_call F1 hr hg m kp b (Paired.nil) (passes_call (E := E) tk fun _ _ _ _ h => h) ha hdb hs hpl) fun σ H Q ⟨pn, G, ρ, P, rp, t, q⟩ => ⟨pn, G, ρ, _, rp, t, fun ds vs S' H' p s dv => ?_⟩
  show spX ⟨X.K, X.mg, X.prog, X.w⟩ g (vs ++ []) H' Q E
  rw [List.append_nil]
  refine ⟨ds, P, Ee, ?_, p, fun d v H2 N pd n dn => ?_, fun y D hy hm H2 ex => ?_⟩
  · rw [hK, hM]; exact dv.mono hid_le
  · rw [hK, hM] at dn
    exact q d v _ H2 pd (Step.trans rp s (NewT.step (rp.step s) n)) (dn.mono (un_r (H := H2) (s.exH.trans n.ex) fun a o z => (n.new a o z).1))
  · exact hEe y D hy (by rw [← hM]; exact hm) H2 fun a o h1 h2 => ex a o ((rp.step s).h0 a o h1 h2)
theorem ds_raise {m : Str} {j : Nat} (hX : Fit P w K mg base C X) (hE : FX Ee C X) (hx : ExF K mg x) (hg : Gl X x := by rfl) (hdb : (x == ("__debug__" : Str)) = false := by decide) :
    PS X (.Raise (some (.Call (.Name x p) [.Constant (.str m) j p2] [] pos)) none pos2) (liS C (dRaise Ee x)) := by
  obtain ⟨D, h1, h2, h3, h4, h5⟩ := hx.ex
  obtain ⟨E, tk, hEe⟩ := hE.ex
  have hK : X.K = K := hX.toFits.K.trans (congrArg CK.K hX.ck)
  have hM : C.mg = mg := congrArg CK.mg hX.ck
  have hMX : X.mg = mg := hX.toFits.mg.trans hM
  refine PS.to (ps_raise hX.toFits.calm tk (pmk_own (C := D) (bmB := He.veBase) (B := "ValueError") (newId := "ValueError.__new__") (initId := "ValueError.__init__") PySem.F.excBase_ValueError (by rw [hK]; exact h2) (by rw [hMX]; exact h1) (by rw [hK]; exact h3) (raises_own (by rw [hK]; exact h4) (by rw [hK]; exact h5)) hg hdb)) fun Z σ H ⟨pn, G, ρ, E0, r, t, k⟩ => ?_
  exact hEe x D t (by rw [hM]; exact h1) H fun a o v h => r.h0 a o v h
end
/-- the rule of a def that may raise -/
theorem okX {P : Program} {w : World} {K : PySem.W.Frag} {mg : Str → Option Value} {base : Heap} {x : Str} {st : Stmt} {f : Addr} {fd : FuncData} {N ps : List Str} {kn : List Nat} {k : Nat} {g : GF} {body : (Str → Prop) → DS} (F : FunD K x x (defArgs st) (defBody st) (defScope st) [] [] f fd) (hm : mg x = some (.ref f)) (S : FnScope N ps (defScope st))
    (hb1 : ∀ (kV doc pm : Value) (an : Option Addr) (cdv ct : Value) (us : List Value), us.length = ps.length → bindArgs (PySem.W.fnOf x x (defArgs st) (defBody st) (defScope st) .none kV doc pm an cdv ct) ⟨us, []⟩ = pure (ps.zip us))
    (hb2 : ∀ (n : Nat), n ∈ kn → ∀ (kV doc pm : Value) (an : Option Addr) (cdv ct : Value) (us ws : List Value), us.length = n → ws.length = (ps.drop n).length → bindArgs (PySem.W.fnOf x x (defArgs st) (defBody st) (defScope st) .none kV doc pm an cdv ct) ⟨us, (ps.drop n).zip ws⟩ = pure (ps.zip (us ++ ws)))
    (hlen : ∀ ds Q E, g ds Q E → ds.length = ps.length) (ht : ∀ ds Q E, g ds Q E → body E { nx := fun _ => Q .non, rt := Q } (startD N ds))
    (hb : ∀ (Ee : Str → Prop) (C : Ctx) (cdv : Value) (A : Around) (outer : List Env) (s : Shared) (H : Hp) (E : XK), C.tb0 = none → C.T0 = [] → Fit P w K mg base C (cxOf (L2.CX P w) P w K mg base N x (defScope st) f cdv A outer s H E) → FX Ee C (cxOf (L2.CX P w) P w K mg base N x (defScope st) f cdv A outer s H E) → Room k (cxOf (L2.CX P w) P w K mg base N x (defScope st) f cdv A outer s H E).A →
      PSs (cxOf (L2.CX P w) P w K mg base N x (defScope st) f cdv A outer s H E) (defBody st) (liS C (body Ee))) :
    FNX P w K mg base (k + 1) x ps kn (spX ⟨K, mg, P, w⟩ g) := by
  refine ⟨f, fd, ?_, hm, F.kp, F.bindsN hb1, fun n hn => ?_⟩
  · refine F.ok S (fun vs H Q E ⟨ds, P, Ee, h1, h2, _⟩ => by rw [h1.length]; exact hlen _ _ _ h2) fun cdv A outer s H vs Q E hr ⟨ds, P', Ee, h1, h2, h3, h4⟩ => ?_
    refine ⟨_, hb Ee { toCK := ⟨K, mg, P, w⟩, H0 := H, tb0 := none, T0 := [] } cdv A outer s H E rfl rfl ⟨⟨rfl, rfl, ?_, rfl, S.nd, rfl, rfl⟩, rfl, rfl⟩ ⟨E, takes_of rfl rfl rfl rfl, fun y D hy hmy H' hk => h4 y D hy hmy H' fun a o q => hk a o rfl q⟩ hr, ?_⟩
    · have := hr.un
      show (A.deeper (envOfC x (defScope st) s.heap.objs.size f cdv)).units + 65 < cLine
      omega
    · refine ⟨[], _, _, _, start_rep h1, ht ds P' Ee h2, fun G ρ σ H' r p => ?_, fun G ρ σ H' r p => p.elim, fun G ρ σ H' r p => p.elim, fun G ρ σ H' d v N' r p n dv => ?_⟩
      · exact h3 .non .non H' (fun _ => none) p ⟨fun a o q => r.h0 a o rfl q, fun a o q => by cases q⟩ .non
      · exact h3 d v H' N' p ⟨fun a o q => r.h0 a o rfl q, fun a o q => n a o q⟩ dv
  · obtain ⟨oc, od, dV, kV, doc, pm, an, cdv, ct, osl, rfl, lk, hcd, hD, hK⟩ := F.ex
    rcases hD with ⟨_, rfl⟩ | ⟨e, _⟩
    · exact ⟨fun s us ws _ l1 l2 => .of_eq (hb2 n hn kV doc pm an cdv ct us ws l1 l2), fun r1 r2 => r1.append r2⟩
    · exact absurd rfl e
end WH

set_option Elab.async false
set_option linter.all false
set_option maxRecDepth 100000
set_option maxHeartbeats 4000000
namespace WH
open PySem PySem.Spec L2 PyProof.Rows
/-! ### _law_result, over the heap -/
def eTab : List (Str × Str) := [("InvalidRock", "rock"), ("InvalidBody", "body"), ("InvalidHold", "grip"), ("InvalidLimb", "limb"), ("InvalidNumber", "number"), ("InvalidStance", "pose"), ("InvalidText", "text"), ("NoMove", "no"), ("NothingToUndo", "undo")]
def tIsX (K : PySem.W.Frag) (v : V) : TE := tCB (rIsX K) (tCons (tVar 1) (tCons (tC v) tNil))
def dispL (K : PySem.W.Frag) (l : List (Str × Addr)) : TE := tDisp (l.map fun q => (tC (.str q.1), tIsX K (.ref q.2)))
def tUpd (K : PySem.W.Frag) (l : List (Str × Addr)) : TS := tDrop (tBM K "dict" rUpd (tVar 4) (tCons (dispL K l) tNil))
def tNames (K : PySem.W.Frag) : TS := tLock (tAsg (tLc (iKeys (tVar 4)) (gName 6) (fun σ H Q => tDGet (tVar 4) (tVar 6) σ H fun x H' => ∃ k, TruV K x H' k ∧ Q k H') (tVar 6) [6]) (gName 5))
def tLast (K : PySem.W.Frag) : TS := tRet (tIf (tAnd (tTest (tOp rEq (tCB (rLenS K) (tCons (tVar 5) tNil)) (tC (.int 1)))) (tB (tIsX K (.ty "ValueError")))) (tTupF (tCons (tOp (rIxL K) (tVar 5) (tC (.int 0))) tNil)) (tTupF (tCons (tC (.str "other error")) tNil)))
def trTail (K : PySem.W.Frag) (c : Nat → Addr) : TS :=
  tSeq (tAsg (dispL K [("rock", c 0), ("body", c 1)]) (gName 4)) (tSeq (tUpd K [("grip", c 2), ("limb", c 3)]) (tSeq (tUpd K [("number", c 4), ("pose", c 5)]) (tSeq (tUpd K [("text", c 6), ("no", c 7)]) (tSeq (tUpd K [("undo", c 8)]) (tSeq (tNames K) (tLast K))))))
section
variable {K : PySem.W.Frag} {σ : L2.St} {H : Hp} {Q : VK} {a D : Addr}
theorem isX_run {v : V} {cv : Value} {b : Bool} (h1 : σ[1]? = some (some (.ref a))) (ha : H a = some (XO (.ref D) none a)) (C : ExcC K D) (hv : ∀ u, RelV v u → u = cv) (e : PySem.W.kitOne K (.ref D) cv = some b) (q : Q (.bl b) H) : tIsX K v σ H Q :=
  ⟨.ref a, h1, a, D, v, cv, b, rfl, ha, C, hv, e, q⟩
theorem ref_only {c : Addr} : ∀ u, RelV (.ref c) u → u = .ref c := fun u r => by cases r; rfl
theorem pairs_run : ∀ (l : List (Str × Addr)) (bs : Addr → Bool) {R : List (V × V) → Hp → Prop}, σ[1]? = some (some (.ref a)) → H a = some (XO (.ref D) none a) → ExcC K D → (∀ q ∈ l, PySem.W.kitOne K (.ref D) (.ref q.2) = some (bs q.2)) → R (l.map fun q => (V.str q.1, V.bl (bs q.2))) H → tPairs (l.map fun q => (tC (.str q.1), tIsX K (.ref q.2))) σ H R
  | [], bs, R, _, _, _, _, r => r
  | q :: l, bs, R, h1, ha, C, hk, r => by
    refine isX_run h1 ha C ref_only (hk q (by simp)) ?_
    exact pairs_run l bs h1 ha C (fun q hq => hk q (by simp [hq])) r
/-- the dict of a display -/
def dOf (l : List (Str × Addr)) (bs : Addr → Bool) : List (Key × V) := l.map fun q => (.inr q.1, .bl (bs q.2))
theorem putK_new {kvs : List (Key × V)} {k : Key} {x : V} (h : k ∉ kvs.map (·.1)) : putK kvs k x = kvs ++ [(k, x)] := by
  unfold putK
  rw [if_neg]
  intro z
  obtain ⟨p, hp, e⟩ := List.any_eq_true.mp z
  exact h (List.mem_map.mpr ⟨p, hp, by simpa using e⟩)
theorem mergeK_new : ∀ (more kvs : List (Key × V)), ((kvs ++ more).map (·.1)).Nodup → mergeK kvs more = kvs ++ more
  | [], kvs, _ => by simp [mergeK]
  | p :: more, kvs, h => by
    have e : mergeK kvs (p :: more) = mergeK (putK kvs p.1 p.2) more := rfl
    have hn : p.1 ∉ kvs.map (·.1) := fun z => by
      rw [List.map_append, List.nodup_append] at h
      exact h.2.2 _ z _ (by simp) rfl
    rw [e, putK_new hn, mergeK_new more _ (by simpa using h)]
    simp
theorem disp_run (l : List (Str × Addr)) (bs : Addr → Bool) (h1 : σ[1]? = some (some (.ref a))) (ha : H a = some (XO (.ref D) none a)) (C : ExcC K D) (hk : ∀ q ∈ l, PySem.W.kitOne K (.ref D) (.ref q.2) = some (bs q.2)) (hl : l.length ≤ 15) (hn : (l.map (·.1)).Nodup)
    (q : ∀ p H', H p = none → (∀ b o, H b = some o → H' b = some o) → H' p = some (.dK (dOf l bs)) → (∀ b, b ≠ p → H' b = H b) → Q (.ref p) H') : dispL K l σ H Q := by
  intro p hp
  have hap : a ≠ p := ne_of_none ha hp
  refine pairs_run l bs h1 (by rw [upd_ne hap]; exact ha) C hk ⟨upd_same, dOf l bs, ?_, by simpa [dOf] using hl, ?_⟩
  · unfold dOf
    rw [List.map_map]
    rfl
  · have e : mergeK [] (dOf l bs) = dOf l bs := by
      rw [mergeK_new]
      · rfl
      · rw [List.nil_append]
        unfold dOf
        rw [List.map_map, List.Nodup, List.pairwise_map]
        rw [List.Nodup, List.pairwise_map] at hn
        exact hn.imp fun {x y} z e => z (by simpa using e)
    rw [e]
    refine q p _ hp (fun b o hb => ?_) upd_same fun b hb => by rw [upd_ne hb, upd_ne hb]
    have hbp : b ≠ p := ne_of_none hb hp
    rw [upd_ne hbp, upd_ne hbp]
    exact hb
theorem upd_run {Z : Ends} {d : Addr} {kvs : List (Key × V)} (l : List (Str × Addr)) (bs : Addr → Bool) (h4 : σ[4]? = some (some (.ref d))) (h1 : σ[1]? = some (some (.ref a))) (ha : H a = some (XO (.ref D) none a)) (C : ExcC K D) (hd : H d = some (.dK kvs)) (hk : ∀ q ∈ l, PySem.W.kitOne K (.ref D) (.ref q.2) = some (bs q.2)) (hl : l.length ≤ 15) (hkl : kvs.length ≤ 15)
    (hn : ((kvs ++ dOf l bs).map (·.1)).Nodup) (q : ∀ H', (∀ b o, b ≠ d → H b = some o → H' b = some o) → H' d = some (.dK (kvs ++ dOf l bs)) → Z.nx σ H') : tUpd K l Z σ H := by
  refine ⟨.ref d, h4, .inr (.inr (.inl ⟨rfl, .inl ⟨kvs, hd⟩⟩)), ?_⟩
  have hn2 : (l.map (·.1)).Nodup := by
    rw [List.map_append, List.nodup_append] at hn
    have := hn.2.1
    unfold dOf at this
    rw [List.map_map, List.Nodup, List.pairwise_map] at this
    rw [List.Nodup, List.pairwise_map]
    exact this.imp fun {x y} z e => z (by simpa using e)
  refine disp_run l bs h1 ha C hk hl hn2 fun p H' hp hx hpd hne => ?_
  have hdp : d ≠ p := ne_of_none hd hp
  refine ⟨d, p, kvs, dOf l bs, rfl, rfl, hx d _ hd, hpd, hdp, by simp [dOf]; omega, ?_⟩
  rw [mergeK_new _ _ hn]
  exact q _ (fun b o hb hh => by rw [upd_ne hb]; exact hx b o hh) upd_same
theorem valV_at {kvs : List (Key × V)} (hn : (kvs.map (·.1)).Nodup) {i : Nat} {k : Key} {v : V} (h : kvs[i]? = some (k, v)) : valV kvs k = some v := by
  have hm := List.mem_of_getElem? h
  unfold valV
  have : kvs.find? (fun kv => decide (kv.1 = k)) = some (k, v) := by
    clear h
    induction kvs with
    | nil => cases hm
    | cons p kvs ih =>
      rw [List.map_cons, List.nodup_cons] at hn
      rw [List.find?_cons]
      rcases List.mem_cons.mp hm with z | z
      · subst z; simp
      · have : p.1 ≠ k := fun e => hn.1 (List.mem_map.mpr ⟨_, z, e.symm⟩)
        simp only [this, decide_false]
        exact ih hn.2 z
  rw [this]
  rfl
/-- the names of a dict's texts whose value is true -/
def yesOf (kvs : List (Str × Bool)) : List V := (kvs.filter (·.2)).map fun p => .str p.1
def dkOf (kvs : List (Str × Bool)) : List (Key × V) := kvs.map fun p => (.inr p.1, .bl p.2)
theorem names_run {Z : Ends} {d : Addr} {kvs : List (Str × Bool)} {x0 x1 x2 x3 x5 x6 : Option V} (hs : σ = [x0, x1, x2, x3, some (.ref d), x5, x6]) (hd : H d = some (.dK (dkOf kvs))) (hn : (kvs.map (·.1)).Nodup) (hl : kvs.length ≤ 100)
    (q : ∀ L H', H L = none → (∀ b o, H b = some o → H' b = some o) → H' L = some (.lst (yesOf kvs)) → Z.nx [x0, x1, x2, x3, some (.ref d), some (.ref L), x6] H') : tNames K Z σ H := by
  subst hs
  have hn' : ((dkOf kvs).map (·.1)).Nodup := by
    unfold dkOf
    rw [List.map_map, List.Nodup, List.pairwise_map]
    rw [List.Nodup, List.pairwise_map] at hn
    exact hn.imp fun {x y} z e => z (by simpa using e)
  refine ⟨d, .dK (dkOf kvs), hd, True.intro, fun od => ?_⟩
  refine ⟨.ref d, rfl, d, od, rfl, .inl ⟨dkOf kvs, upd_same, ?_⟩⟩
  intro L hL
  have hLd : L ≠ d := fun z => by rw [z, upd_same] at hL; cases hL
  have hL0 : H L = none := by rw [upd_ne hLd] at hL; exact hL
  refine ⟨fun i m H' => i ≤ kvs.length ∧ m = kvs.length - i ∧ H' = upd (upd H d (.frz od (.dK (dkOf kvs)))) L (.lst (yesOf (kvs.take i))), ⟨kvs.length, Nat.zero_le _, by simp, by simp [yesOf]⟩, ?_⟩
  rintro i m H' ⟨hi, rfl, rfl⟩
  have hdd : (upd (upd H d (.frz od (.dK (dkOf kvs)))) L (.lst (yesOf (kvs.take i)))) d = some (.frz od (.dK (dkOf kvs))) := by rw [upd_ne (Ne.symm hLd), upd_same]
  by_cases hlt : i < kvs.length
  · refine .inr ⟨⟨hdd, by simpa [dkOf] using hlt⟩, fun H' => H' = upd (upd H d (.frz od (.dK (dkOf kvs)))) L (.lst (yesOf (kvs.take (i + 1)))), fun H' e => ⟨kvs.length - (i + 1), by omega, hlt, rfl, e⟩, ?_⟩
    rintro x H' ⟨rfl, k, v, hkv, rfl⟩
    have hg : (dkOf kvs)[i]? = some (.inr kvs[i].1, .bl kvs[i].2) := by
      unfold dkOf
      rw [List.getElem?_map, List.getElem?_eq_getElem hlt]
      rfl
    rw [hg] at hkv
    cases hkv
    refine ⟨rfl, .ref d, rfl, .str kvs[i].1, rfl, d, .bl kvs[i].2, rfl, ?_, kvs[i].2, rfl, ?_⟩
    · refine .inl ⟨dkOf kvs, .inr kvs[i].1, .inr ⟨od, hdd⟩, rfl, (valV_at hn' hg).symm⟩
    · have et : kvs.take (i + 1) = kvs.take i ++ [kvs[i]] := by rw [List.take_succ, List.getElem?_eq_getElem hlt]; rfl
      cases hb : kvs[i].2 with
      | true =>
        refine ⟨.str kvs[i].1, rfl, yesOf (kvs.take i), upd_same, ?_, ?_⟩
        · have h1 : (yesOf (kvs.take i)).length ≤ 100 := by
            unfold yesOf
            rw [List.length_map]
            have := List.length_filter_le (·.2) (kvs.take i)
            have h2 := List.length_take_le i kvs
            omega
          rw [sizeLine_eq]
          omega
        · have e2 : yesOf (kvs.take (i + 1)) = yesOf (kvs.take i) ++ [.str kvs[i].1] := by
            rw [et]
            unfold yesOf
            rw [List.filter_append, List.map_append, List.filter_cons, hb]
            rfl
          rw [e2]
          funext b
          by_cases h : b = L
          · rw [h, upd_same, upd_same]
          · rw [upd_ne h, upd_ne h, upd_ne h]
      | false =>
        have e2 : yesOf (kvs.take (i + 1)) = yesOf (kvs.take i) := by
          rw [et]
          unfold yesOf
          rw [List.filter_append, List.map_append, List.filter_cons, hb]
          exact List.append_nil _
        show _ = _
        rw [e2]
  · refine .inl ⟨⟨hdd, by simp [dkOf]; omega⟩, ?_⟩
    have : kvs.take i = kvs := List.take_of_length_le (by omega)
    rw [this] at hdd ⊢
    refine ⟨hdd, q L _ hL0 (fun b o hb => ?_) ?_⟩
    · by_cases h : b = d
      · rw [h, upd_same]
        rw [h, hd] at hb
        exact hb
      · rw [upd_ne h, upd_ne (ne_of_none hb hL0), upd_ne h]
        exact hb
    · rw [upd_ne hLd, upd_same]
theorem last_run {Z : Ends} {L : Addr} {n : Str} (h5 : σ[5]? = some (some (.ref L))) (hL : H L = some (.lst [.str n])) (h1 : σ[1]? = some (some (.ref a))) (ha : H a = some (XO (.ref D) none a)) (C : ExcC K D) (hv : PySem.W.kitOne K (.ref D) (.type "ValueError") = some true)
    (q : ∀ T u, H T = none → u.dict = none → Z.rt (.ref T) (upd H T (.frz u (.tup [.str n])))) : tLast K Z σ H := by
  refine ⟨.ref L, h5, L, [.str n], rfl, .inl (SqL.of hL), rfl, ?_⟩
  refine ⟨true, by simp, ?_⟩
  refine isX_run h1 ha C (fun u r => by cases r; rfl) hv ⟨true, rfl, ?_⟩
  refine ⟨.ref L, h5, L, [.str n], 0, .str n, rfl, rfl, SqL.of hL, rfl, ?_⟩
  exact ⟨by rw [sizeLine_eq]; simp, fun T u hT hu => q T u hT hu⟩
def eTxt (n : Nat) : Str := (eTab.map (·.2)).getD n "other error"
theorem tail_run {Z : Ends} {c : Nat → Addr} {n : Nat} {x0 x2 x3 x4 x5 x6 : Option V} (hn : n < 9) (ha : H a = some (XO (.ref D) none a)) (C : ExcC K D) (hk : ∀ i, i < 9 → PySem.W.kitOne K (.ref D) (.ref (c i)) = some (decide (i = n))) (hv : PySem.W.kitOne K (.ref D) (.type "ValueError") = some true)
    (q : ∀ T u H', (∀ b o, H b = some o → H' b = some o) → H' T = none → u.dict = none → Z.rt (.ref T) (upd H' T (.frz u (.tup [.str (eTxt n)])))) : trTail K c Z [x0, some (.ref a), x2, x3, x4, x5, x6] H := by
  have inj : ∀ i j, i < 9 → j < 9 → c i = c j → decide (i = n) = decide (j = n) := fun i j hi hj e => by
    have h1 := hk i hi
    rw [e, hk j hj] at h1
    exact (Option.some.inj h1).symm
  obtain ⟨bs, hbs⟩ : ∃ bs : Addr → Bool, ∀ i, i < 9 → bs (c i) = decide (i = n) := ⟨fun x => (PySem.W.kitOne K (.ref D) (.ref x)).getD false, fun i hi => by show (PySem.W.kitOne K (.ref D) (.ref (c i))).getD false = _; rw [hk i hi]; rfl⟩
  have hq : ∀ i, i < 9 → PySem.W.kitOne K (.ref D) (.ref (c i)) = some (bs (c i)) := fun i hi => by rw [hbs i hi]; exact hk i hi
  simp only [trTail, tSeq, tAsg]
  refine disp_run [("rock", c 0), ("body", c 1)] bs rfl ha C (fun q hq' => ?_) (by simp) (by simp only [List.map_cons, List.map_nil]; decide +kernel) fun d H1 hd0 x1 hd1 _ => ?_
  · simp at hq'
    rcases hq' with rfl | rfl
    · exact hq 0 (by decide)
    · exact hq 1 (by decide)
  have hda : d ≠ a := fun z => by rw [z, ha] at hd0; cases hd0
  simp only [gName, List.set_cons_succ, List.set_cons_zero]
  refine upd_run [("grip", c 2), ("limb", c 3)] bs rfl rfl (x1 a _ ha) C hd1 (fun q hq' => ?_) (by simp) (by simp [dOf]) (by simp only [dOf, List.map_cons, List.map_nil, List.cons_append, List.nil_append]; decide +kernel) fun H2 x2' hd2 => ?_
  · simp at hq'
    rcases hq' with rfl | rfl
    · exact hq 2 (by decide)
    · exact hq 3 (by decide)
  refine upd_run [("number", c 4), ("pose", c 5)] bs rfl rfl (x2' a _ (Ne.symm hda) (x1 a _ ha)) C hd2 (fun q hq' => ?_) (by simp) (by simp [dOf]) (by simp only [dOf, List.map_cons, List.map_nil, List.cons_append, List.nil_append]; decide +kernel) fun H3 x3' hd3 => ?_
  · simp at hq'
    rcases hq' with rfl | rfl
    · exact hq 4 (by decide)
    · exact hq 5 (by decide)
  have ha3 := x3' a _ (Ne.symm hda) (x2' a _ (Ne.symm hda) (x1 a _ ha))
  refine upd_run [("text", c 6), ("no", c 7)] bs rfl rfl ha3 C hd3 (fun q hq' => ?_) (by simp) (by simp [dOf]) (by simp only [dOf, List.map_cons, List.map_nil, List.cons_append, List.nil_append]; decide +kernel) fun H4 x4' hd4 => ?_
  · simp at hq'
    rcases hq' with rfl | rfl
    · exact hq 6 (by decide)
    · exact hq 7 (by decide)
  have ha4 := x4' a _ (Ne.symm hda) ha3
  refine upd_run [("undo", c 8)] bs rfl rfl ha4 C hd4 (fun q hq' => ?_) (by simp) (by simp [dOf]) (by simp only [dOf, List.map_cons, List.map_nil, List.cons_append, List.nil_append]; decide +kernel) fun H5 x5' hd5 => ?_
  · simp at hq'
    subst hq'
    exact hq 8 (by decide)
  have ha5 := x5' a _ (Ne.symm hda) ha4
  have ext : ∀ b o, H b = some o → H5 b = some o := fun b o hb => by
    have hbd : b ≠ d := ne_of_none hb hd0
    exact x5' b o hbd (x4' b o hbd (x3' b o hbd (x2' b o hbd (x1 b o hb))))
  refine names_run (kvs := [("rock", decide (0 = n)), ("body", decide (1 = n)), ("grip", decide (2 = n)), ("limb", decide (3 = n)), ("number", decide (4 = n)), ("pose", decide (5 = n)), ("text", decide (6 = n)), ("no", decide (7 = n)), ("undo", decide (8 = n))]) (x6 := x6) rfl ?_ (by simp only [List.map_cons, List.map_nil]; decide +kernel) (by simp) fun L H6 hL x6' hL6 => ?_
  · rw [hd5]
    simp only [dOf, dkOf, List.map_cons, List.map_nil, List.cons_append, List.nil_append, hbs 0 (by decide), hbs 1 (by decide), hbs 2 (by decide), hbs 3 (by decide), hbs 4 (by decide), hbs 5 (by decide), hbs 6 (by decide), hbs 7 (by decide), hbs 8 (by decide)]
  have ey : yesOf [("rock", decide (0 = n)), ("body", decide (1 = n)), ("grip", decide (2 = n)), ("limb", decide (3 = n)), ("number", decide (4 = n)), ("pose", decide (5 = n)), ("text", decide (6 = n)), ("no", decide (7 = n)), ("undo", decide (8 = n))] = [.str (eTxt n)] := by
    have : n = 0 ∨ n = 1 ∨ n = 2 ∨ n = 3 ∨ n = 4 ∨ n = 5 ∨ n = 6 ∨ n = 7 ∨ n = 8 := by omega
    rcases this with rfl | rfl | rfl | rfl | rfl | rfl | rfl | rfl | rfl <;> rfl
  rw [ey] at hL6
  refine last_run (n := eTxt n) rfl hL6 rfl (x6' a _ ha5) C hv fun T u hT hu => ?_
  exact q T u H6 (fun b o hb => x6' b o (ext b o hb)) hT hu
/-! ### the whole of it -/
def eCls (n : Nat) : Str := (eTab.map (·.1)).getD n ""
def cOf (K : PySem.W.Frag) (n : Nat) : Addr := He.ga K (eCls n)
structure ResF (K : PySem.W.Frag) (mg : Str → Option Value) : Prop where
  glo : ∀ n, n < 9 → mg (eCls n) = some (.ref (cOf K n))
  exc : ∀ n, n < 9 → ExcC K (cOf K n)
  is : ∀ n, n < 9 → ∀ i, i < 9 → PySem.W.kitOne K (.ref (cOf K n)) (.ref (cOf K i)) = some (decide (i = n))
  ve : ∀ n, n < 9 → PySem.W.kitOne K (.ref (cOf K n)) (.type "ValueError") = some true
  top : mg "ClimbError" = some (.ref (He.ga K "ClimbError"))
  exm : ∀ n, n < 9 → PySem.W.exmOne K (.ref (cOf K n)) (.ref (He.ga K "ClimbError")) = some true
abbrev N__law_result : List Str := ["call", "raised", "answer", "e", "some", "names", "name"]
abbrev rIsNo : R2 := fun x y H Q => y = .non ∧ Q (.bl (decide (x = .non))) H
def tAct (f c' : Addr) (q : Str) (tl : XK → Hp → VK → Prop) (W : WX) : TS := fun D σ H =>
  ∃ Ech : XK, (∀ cls d σ' H', Ech cls d H' → σ'.length = 7 → W cls d σ' H') ∧ σ[0]? = some (some (.ref f)) ∧ H c' = some (LamX.CodeO c' q) ∧ ∃ Qr : VK, tl Ech H Qr ∧ ∀ v H', Qr v H' → D.nx (σ.set 2 (some v)) H'
def trRes (K : PySem.W.Frag) (f c' : Addr) (q : Str) (tl : XK → Hp → VK → Prop) : TS :=
  tSeq (tAsg (tTup (tCons (tC .non) (tCons (tC .non) tNil))) (gTup K 2 (gCons (gName 1) (gCons (gName 2) gNil)))) (tSeq (fun D τ H => tAct f c' q tl (wKeep K (.ref (He.ga K "ClimbError")) 3 (fun _ => tAsg (tVar 3) (gName 1)) D) D τ H)
    (tSeq (tIfS (tTest (tOp rIsNo (tVar 1) (tC .non))) (tRet (tTupF (tCons (tC (.str "returns")) (tCons (tVar 2) tNil)))) tNext) (trTail K (cOf K))))
/-- what _law_result makes of a call's reading -/
def TTres (K : PySem.W.Frag) : (XK → Hp → VK → Prop) → Hp → VK → Prop := fun tl H0 Q => ∀ H, (∀ b o, H0 b = some o → H b = some o) →
  tl (fun cls d H' => ∃ n, n < 9 ∧ cls = .ref (cOf K n) ∧ d = none ∧ ∀ T u H2, (∀ b o, H' b = some o → H2 b = some o) → H2 T = none → u.dict = none → Q (.ref T) (upd H2 T (.frz u (.tup [.str (eTxt n)])))) H
    fun v H' => ∀ (p : Addr) (u : Obj), H' p = none → u.dict = none → Q (.ref p) (upd H' p (.frz u (.tup [.str "returns", v])))
/-- answer = call() -/
theorem act_body {X : Cx} {pn : List (Addr × Obj)} {xe : Value → Shared → Prop} {W : WX} {f c' : Addr} {q : Str} {tl : XK → Hp → VK → Prop} {x a : Str} {px p1 p2 pos : Pos} (hN : X.N.length = 7)
    (act : ∀ (E : XK) (p1 p2 : Pos), Takes (X.tr pn xe) (fun cls d σ' H' => σ'.length = 7 → W cls d σ' H') → (∀ cls d σ' H', E cls d H' → σ'.length = 7 → W cls d σ' H') → PE (X.tr pn xe) (.Call (.Name a p1) [] [] p2) (fun σZ HZ Q => σZ[0]? = some (some (.ref f)) ∧ HZ c' = some (LamX.CodeO c' q) ∧ tl E HZ Q))
    (tk : Takes (X.tr pn xe) W) (nd : X.N.Nodup) (hi : X.N[2]? = some x) (hx : Loc X.env.scope x) (hlo : X.env.scope.names.lookup x = some .local) (hsw : swapsWithSole [.Name x px] (.Call (.Name a p1) [] [] p2) pos.line X.env = pure false := by rfl) (hw : swappedStores [.Name x px] (.Call (.Name a p1) [] [] p2) X.env = pure none := by rfl)
    (h1 : (assignEach [.Name x px] X.env).map (·.2) = [assign (.Name x px) X.env] := by rfl) : PSs (X.tr pn xe) [.Assign [.Name x px] (.Call (.Name a p1) [] [] p2) pos] (tAct f c' q tl W) := by
  refine ⟨fun pins s σ H D I ⟨Ech, hW, e0, ec, Qr, h3, h4⟩ => ?_⟩
  have tk2 : Takes (X.tr pn xe) (fun cls d σ' H' => σ'.length = 7 → W cls d σ' H') := fun u s' ⟨a, B, sI, pins, σ, H, cls, d, e, I, nb, up, sky, na, os, ag, w⟩ => tk u s' ⟨a, B, sI, pins, σ, H, cls, d, e, I, nb, up, sky, na, os, ag, w (I.len.trans hN)⟩
  have hp := act Ech p1 p2 tk2 hW
  have he : PE (X.tr pn xe) (.Call (.Name a p1) [] [] p2) (fun σ H Q => ∃ Qr : VK, (σ[0]? = some (some (.ref f)) ∧ H c' = some (LamX.CodeO c' q) ∧ tl Ech H Qr) ∧ ∀ v H', Qr v H' → Q v H') :=
    ⟨fun pins s σ H Q I ⟨Qr, h1, h2⟩ => wpAny_mono (hp.run pins s σ H Qr I h1) (fun u s' ⟨v, H', J, r, k⟩ => ⟨v, H', J, r, h2 v H' k⟩) fun _ _ z => z⟩
  have hq : PSs (X.tr pn xe) [.Assign [.Name x px] (.Call (.Name a p1) [] [] p2) pos] _ := pss_one (ps_asg he (pg_name (i := 2) nd hi hx (hf := .inr hlo)) hsw hw h1)
  exact hq.run pins s σ H D I ⟨Qr, ⟨e0, ec, h3⟩, fun v H' k => h4 v H' k⟩
theorem p_res {K : PySem.W.Frag} {mg : Str → Option Value} (F : ResF K mg) {f c' : Addr} {q : Str} {tl : XK → Hp → VK → Prop} {H : Hp} {Q : VK} (hc : H c' = some (LamX.CodeO c' q)) (h : TTres K tl H Q) : trRes K f c' q tl { nx := fun _ H' => Q .non H', rt := Q } (L2.start N__law_result [.ref f]) H := by
  refine ⟨by rw [sizeLine_eq]; simp, fun p hp => ⟨p, [.non, .non], rfl, .inl (.inl upd_same), rfl, .non, _, rfl, .non, _, rfl, rfl, ?_⟩⟩
  have hx : ∀ b o, H b = some o → (upd H p (.tup [.non, .non])) b = some o := fun b o hb => by
    rw [upd_ne (ne_of_none hb hp)]
    exact hb
  refine ⟨_, ?_, rfl, hx _ _ hc, _, h _ hx, fun v H' hv => ?_⟩
  rotate_left
  · exact ⟨.non, rfl, rfl, true, rfl, v, rfl, by rw [sizeLine_eq]; simp, fun p u hp hu => hv p u hp hu⟩
  · rintro cls d σ' H' ⟨n, hn, e1, e2, k⟩ hl
    subst e1; subst e2
    refine ⟨F.exm n hn, fun a ha => ?_⟩
    obtain ⟨y0, y1, y2, y3, y4, y5, y6, rfl⟩ : ∃ y0 y1 y2 y3 y4 y5 y6, σ' = [y0, y1, y2, y3, y4, y5, y6] := by
      match σ', hl with
      | [y0, y1, y2, y3, y4, y5, y6], _ => exact ⟨_, _, _, _, _, _, _, rfl⟩
    refine ⟨.ref a, rfl, fun ha2 => ?_⟩
    refine ⟨.ref a, rfl, rfl, _, rfl, ?_⟩
    refine tail_run hn upd_same (F.exc n hn) (F.is n hn) (F.ve n hn) fun T u H2 hx hT hu => k T u H2 (fun b o hb => hx b o ?_) hT hu
    rw [upd_ne (ne_of_none hb ha)]
    exact hb
end
end WH

set_option Elab.async false
set_option linter.all false
set_option maxRecDepth 100000
set_option maxHeartbeats 4000000
namespace WH
open PySem PySem.Spec L2 PyProof.Rows LamX
section
variable {X : Cx} {pp : List (Addr × Obj)} {τ : L2.St} {H : Hp} {s : Shared}
/-- a lambda is made: nothing but the table at A changes -/
theorem lam_new {T : List (Addr × Str)} {c A : Addr} {prm : Arguments} {bod : Expr} {sco : Scope} {pos : Pos} {E : Value → Shared → Prop} {Q : Value → Shared → Prop} (I : Inv X pp τ H s) (TB : TabB X.base X.mg c A) (hcode : X.env.code = .ref c) (hm : (A, X.env.qual ++ "<lambda>") ∈ T) (hu : ∀ p ∈ T, p.1 = A → p.2 = X.env.qual ++ "<lambda>") (hT : Tabs T H)
    (hdef : defaultsOf prm X.env = ([], [])) (hfree : ∀ y ∈ sco.names, y.2 = .free → ∃ c, X.env.cells.lookup y.1 = some c)
    (go : ∀ (f d : Addr) (pm ct : Value) (H1 : Hp) (s1 : Shared), Inv X pp τ H1 s1 → (∀ b o, b ≠ A → H b = some o → H1 b = some o) → Tabs T H1 → s1.heap.get? f = some (PySem.W.kla_obj "<lambda>" (X.env.qual ++ "<lambda>") prm bod sco (cloFrom X.env.cells sco.names []) pm d ct) → H1 f = none → f ∉ frs X.stack → H1 d = some (CodeO d (X.env.qual ++ "<lambda>")) → Q (.ref f) s1) :
    wpAny (model X.prog X.w) X.A (eval (.Lambda prm bod sco pos) X.env) Q E s := by
  obtain ⟨tb, hA, hok, hcod⟩ := hT _ hm
  refine PySem.W.kla_eval hdef ?_
  have bA : s.heap.BuiltinsAt X.mg A := TB.bm.keeps I.bk
  have gA : s.heap.get? A = some { cls := .none, data := .fields tb } := I.hok A _ hA
  have out : ∀ f, s.heap.objs.size ≤ f → f ∉ frs X.stack := fun f hf z => by
    rcases List.mem_cons.mp (I.stkSub _ z) with e | e
    · have hl := I.lt
      rw [← e] at hl
      exact Nat.not_lt.mpr hf hl
    · exact I.nofs hf e
  cases look : codeAmong pos tb.toList with
  | some cv =>
    obtain ⟨d, rfl, hd⟩ := hcod pos cv look
    refine PySem.W.kla_makeFunctionHit (mg := X.mg) (c := c) (P := A) (ps := tb) (closure_ok hfree) I.ok.glob (I.mod.glob.keeps I.bk) hcode (TB.code.keeps I.bk) gA hok look bA fun ct h1 tk hx hsz => ?_
    have J : Inv X pp τ H { s with heap := h1.push (PySem.W.kla_obj "<lambda>" (X.env.qual ++ "<lambda>") prm bod sco (cloFrom X.env.cells sco.names []) ((X.mg "__name__").getD .none) d ct), toks := tk } := I.kept fun b o e => Heap.get?_push_of_some _ (hx b o e)
    exact go _ d _ ct H _ J (fun _ _ _ e => e) hT (Heap.get?_push_size _ rfl) (I.hok.fresh hsz) (out _ hsz) hd
  | none =>
    refine PySem.W.kla_makeFunction (mg := X.mg) (c := c) (P := A) (ps := tb) (closure_ok hfree) I.ok.glob (I.mod.glob.keeps I.bk) hcode (TB.code.keeps I.bk) gA hok look TB.gP bA fun d ct h1 tk hx hge hlt hrec htb => ?_
    obtain ⟨d2, oc, vs, t, e2, w1, w2, w3⟩ := hrec
    cases e2
    have hsz : s.heap.objs.size ≤ h1.objs.size := Nat.le_of_lt (Nat.lt_of_le_of_lt hge hlt)
    have nD : H d = none := I.hok.fresh hge
    have J := inv_table (t' := tk) (more := #[rawInt pos.line, rawInt pos.col, .ref d]) (h' := h1.push (PySem.W.kla_obj "<lambda>" (X.env.qual ++ "<lambda>") prm bod sco (cloFrom X.env.cells sco.names []) ((X.mg "__name__").getD .none) d ct)) I hA (fun b o hb e => Heap.get?_push_of_some _ (hx b o hb e)) (Heap.get?_push_of_some _ htb) hge ⟨oc, vs, t, Heap.get?_push_of_some _ w1, w2, w3⟩
    have kp : ∀ b o, b ≠ A → H b = some o → (upd (upd H A (.tbl (tb ++ #[rawInt pos.line, rawInt pos.col, .ref d]))) d (CodeO d (X.env.qual ++ "<lambda>"))) b = some o := fun b o hb e => by
      rw [upd_ne (ne_of_none e nD), upd_ne hb]
      exact e
    have keepC : ∀ d0 q, H d0 = some (CodeO d0 q) → (upd (upd H A (.tbl (tb ++ #[rawInt pos.line, rawInt pos.col, .ref d]))) d (CodeO d (X.env.qual ++ "<lambda>"))) d0 = some (CodeO d0 q) := fun d0 q e => kp d0 _ (fun z => by rw [z, hA] at e; cases e) e
    have eL : (tb ++ #[rawInt pos.line, rawInt pos.col, .ref d]).toList = tb.toList ++ [rawInt pos.line, rawInt pos.col, .ref d] := by simp
    refine go h1.objs.size d _ ct _ _ J kp (fun p hp => ?_) (Heap.get?_push_size _ rfl) ?_ (out _ hsz) upd_same
    · by_cases hb : p.1 = A
      · rw [hu p hp hb, hb]
        refine ⟨_, by rw [upd_ne (ne_of_none hA nD), upd_same], by rw [eL]; exact PySem.TriplesOk_snoc _ _ _ _ hok, fun p2 cv hcv => ?_⟩
        rw [eL] at hcv
        rcases among_app _ hok hcv with z | z
        · obtain ⟨d0, e1, e2⟩ := hcod p2 cv z
          exact ⟨d0, e1, keepC _ _ e2⟩
        · exact ⟨d, z, upd_same⟩
      · obtain ⟨tb2, a1, a2, a3⟩ := hT p hp
        refine ⟨tb2, kp _ _ hb a1, a2, fun p2 cv hcv => ?_⟩
        obtain ⟨d0, e1, e2⟩ := a3 p2 cv hcv
        exact ⟨d0, e1, keepC _ _ e2⟩
    · have n1 : h1.objs.size ≠ d := Nat.ne_of_gt hlt
      have n2 : h1.objs.size ≠ A := Nat.ne_of_gt (Nat.lt_of_lt_of_le (Heap.lt_size gA) hsz)
      rw [upd_ne n1, upd_ne n2]
      exact I.hok.fresh hsz
/-- f(lambda: body), f told by TT -/
def tLamA (A : Addr) (T : List (Addr × Str)) (TT : (XK → Hp → VK → Prop) → Hp → VK → Prop) (t : XK → TE) : TE := fun τ H Q => Tabs T H ∧ ∀ H1, (∀ b o, b ≠ A → H b = some o → H1 b = some o) → Tabs T H1 → TT (fun E H' Q' => t E τ H' Q') H1 Q
theorem pe_lamA {T : List (Addr × Str)} {TT : (XK → Hp → VK → Prop) → Hp → VK → Prop} {x a : Str} {g c A : Addr} {k : Nat} {pg : Arguments} {bg : List Stmt} {sg : Scope} {dV kV doc pm cdv ct oc : Value} {an od : Option Addr} {osl : Array (Option Value)} {Ng : List Str} {prm : Arguments} {bod : Expr} {sco : Scope} {t : XK → TE} {p lpos pos : Pos}
    (hg : Gl X x) (hm : X.mg x = some (.ref g)) (hk : PySem.W.keepIn X.K (.ref g) = true) (lk : X.K.lookup g = some ⟨oc, od, .func (PySem.W.fnOf x x pg bg sg dV kV doc pm an cdv ct), osl⟩) (hcg : PySem.W.codeIn X.K cdv x = true) (hb : L2.Binds X.K (PySem.W.fnOf x x pg bg sg dV kV doc pm an cdv ct) [a] []) (Sg : FnScope Ng [a] sg) (hNg : Ng[0]? = some a) (hva : Vis sg a)
    (hG : GivesTo X Ng x sg g cdv bg a (X.env.qual ++ "<lambda>") TT) (TB : TabB X.base X.mg c A) (hcode : X.env.code = .ref c) (hmT : (A, X.env.qual ++ "<lambda>") ∈ T) (hu : ∀ p ∈ T, p.1 = A → p.2 = X.env.qual ++ "<lambda>") (hr : Room (k + 2) X.A) (L : LamS X.env.scope sco) (hdef : defaultsOf prm X.env = ([], []))
    (hbind : ∀ (q : Str) (cl : List (Str × Addr)) (pm cv ctv : Value), bindArgs (PySem.W.kla_fn "<lambda>" q prm bod sco cl pm cv ctv) ⟨[], []⟩ = pure []) (hbody : ∀ (Ar : Around) (outer : List Env) (s : Shared) (H : Hp) (E : XK) (f c' : Addr), Room k (Ar.deeper (lamEnv X sco s.heap.objs.size f c')) → PE (lamCx X Ar outer s H E sco f c') bod (t E))
    (hdb : (x == ("__debug__" : Str)) = false := by decide) (hd : (a == ("__debug__" : Str)) = false := by decide) (hcd : (a == ("__classdict__" : Str)) = false := by decide) : PE X (.Call (.Name x p) [.Lambda prm bod sco lpos] [] pos) (tLamA A T TT t) := by
  refine ⟨fun pp s τ H Q I ⟨hT, h⟩ => ?_⟩
  refine wpAny_Call_Name_kw (ld_glob I hg hm ?_ hdb)
  refine PySem.W.callWith_K (h₀ := X.base) I.ok.mod.kin hk ?_ (by rfl) (by rfl)
  show wpAny _ _ (spliced ((false, eval (.Lambda prm bod sco lpos) X.env) :: backTo pos (starEach [] X.env))) _ _ s
  refine Calls.spliced_cons (lam_new I TB hcode hmT hu hT hdef (L.has I.ok) fun f d pm1 ct1 H1 s1 J kp T1 e1 e2 e3 e4 => Calls.spliced_nil ⟨J.kIn, ?_⟩)
  have rc : codeAny (model X.prog X.w) X.A (.call (.ref g) ⟨[.ref f], []⟩) (CR C8.CX0 X.stack X.prog X.w H1 s1 Q C8.E0) s1 := by
    refine run_ofS (N := Ng) (ps := [a]) (us := [.ref f]) (vs := [.ref f]) lk hcg Sg hr J.env0 (hb s1 [.ref f] J.kIn rfl) (.cons rfl .nil) rfl fun hr2 => ?_
    obtain ⟨t2, ht2, hq2⟩ := hG f d s1 H1 Q (fun E H' Q' => t E τ H' Q') (fun W pn xe E p1 p2 tk hW => pe_act (i := 0) J L e1 e2 e3 (hbind _ _ _ _ _) tk hW hr2 (fun Ar outer s H hr3 => hbody Ar outer s H E f d hr3) hNg hva hd hcd) e4 (h H1 kp T1)
    exact ⟨t2, ht2.nox, hq2⟩
  refine wpAny_call (codeAny_mono rc fun r s2 hq => ?_)
  cases r with
  | error e => exact (show False from hq).elim
  | ok fl => cases fl with
    | ret u => exact J.after hq
    | next => exact False.elim hq
    | brk => exact False.elim hq
    | cont => exact False.elim hq
end
end WH

set_option Elab.async false
set_option linter.all false
set_option maxRecDepth 100000
set_option maxHeartbeats 4000000
namespace WH
open PySem PySem.Spec L2 PyProof.Rows LamX
/-! ### a call within a lambda -/
def liX (C : Ctx) (te : (Str → Prop) → DE) (E : XK) : TE := fun σ H Q => ∃ pn G ρ P Ee, Rep C pn G ρ σ H ∧ te Ee ρ P ∧ (∀ d v S' H', P d → Step G H S' H' → DV C.ck S' v d → Q v H') ∧ ∀ x D, Ee x → C.mg x = some (.ref D) → ∀ S' H' H2, Step G H S' H' → Ex H' H2 → E (.ref D) none H2
def dResult (te : (Str → Prop) → DE) : DE := fun ρ P => te (fun x => ∃ n, n < 9 ∧ eCls n = x ∧ P (.tup [.str (eTxt n)])) ρ fun d => P (.tup [.str "returns", d])
section
variable {P : Program} {w : World} {K : PySem.W.Frag} {mg : Str → Option Value} {base : Heap} {X : Cx} {C : Ctx} {e : Expr} {es : List Expr} {tr tr2 : DA} {pos p p2 pos2 lpos : Pos} {k : Nat} {ps : List Str} {kn : List Nat} {g : GF} {x : Str}
theorem fx_call {E : XK} (hX : Fit P w K mg base C X) (tk : Takes X (fun cls d _ H => E cls d H)) (F : FNX P w K mg base k x ps kn (spX ⟨K, mg, P, w⟩ g)) (hr : Room k X.A) (ha : PA X (e :: es) (liAB C tr)) (hg : Gl X x := by rfl)
    (hdb : (x == ("__debug__" : Str)) = false := by decide) (hs : starEach (e :: es) X.env = (false, eval e X.env) :: starEach es X.env := by rfl) (hpl : (backTo pos (starEach es X.env)).any (·.1) = false := by rfl) :
    PE X (.Call (.Name x p) (e :: es) [] pos) (liX C (fun Ee => dCallX Ee g tr) E) := by
  obtain ⟨f, fd, F1, m, kp, b, _⟩ := F.ex
  obtain ⟨⟨hK, hM, hu, hc, hn, hP, hw⟩, rfl, hck⟩ := hX
  obtain ⟨⟨K', mg', P', w'⟩, H0, tb0, T0⟩ := C
  cases hck
  simp only at hP hw
  subst hP; subst hw
  simp only at hK hM
  rw [← hK] at kp b
  rw [← hK, ← hM] at F1
  rw [← hM] at m
  refine PE.to (pe_call F1 hr hg m kp b (Paired.nil) (passes_call (E := E) tk fun _ _ _ _ h => h) ha hdb hs hpl) fun σ H Q ⟨pn, G, ρ, P, Ee, rp, t, q, q2⟩ => ⟨pn, G, ρ, _, rp, t, fun ds vs S' H' p s dv => ?_⟩
  show spX ⟨X.K, X.mg, X.prog, X.w⟩ g (vs ++ []) H' Q E
  rw [List.append_nil]
  refine ⟨ds, P, Ee, ?_, p, fun d v H2 N pd n dn => ?_, fun y D hy hm H2 ex => ?_⟩
  · rw [hK, hM]; exact dv.mono hid_le
  · rw [hK, hM] at dn
    exact q d v _ H2 pd (Step.trans rp s (NewT.step (rp.step s) n)) (dn.mono (un_r (H := H2) (s.exH.trans n.ex) fun a o z => (n.new a o z).1))
  · exact q2 y D hy (by rw [← hM]; exact hm) S' H' H2 s ex
theorem fx_kw0 {E : XK} {kws : List Keyword} (hX : Fit P w K mg base C X) (tk : Takes X (fun cls d _ H => E cls d H)) (F : FNX P w K mg base k x ps kn (spX ⟨K, mg, P, w⟩ g)) (hr : Room k X.A) (ha : PK X kws (liAB C tr)) (hkn : 0 ∈ kn) (hlen : ∀ ds P E, g ds P E → ds.length = ps.length) (hg : Gl X x := by rfl)
    (hall : (backToKw pos (keywordEach kws X.env)).all (·.1.isSome) = true := by rfl) (hks : (backToKw pos (keywordEach kws X.env)).filterMap (·.1) = ps := by rfl) (hdb : (x == ("__debug__" : Str)) = false := by decide)
    (hpl : ((backTo pos (starEach [] X.env)).any (·.1) || (backToKw pos (keywordEach kws X.env)).any (·.1.isNone)) = false := by rfl) : PE X (.Call (.Name x p) [] kws pos) (liX C (fun Ee => dCallX Ee g tr) E) := by
  obtain ⟨f, fd, F1, m, kp, _, kb⟩ := F.ex
  obtain ⟨⟨hK, hM, hu, hc, hn, hP, hw⟩, rfl, hck⟩ := hX
  obtain ⟨⟨K', mg', P', w'⟩, H0, tb0, T0⟩ := C
  cases hck
  simp only at hP hw
  subst hP; subst hw
  have kb0 := kb 0 hkn
  rw [List.drop_zero] at kb0
  simp only at hK hM
  rw [← hK] at kp kb0
  rw [← hK, ← hM] at F1
  rw [← hM] at m
  refine PE.to (pe_callN0 F1 hr hg m kp kb0 (passes_call (E := E) tk fun _ _ _ _ h => h) ha hall hks hdb hpl) fun σ H Q ⟨pn, G, ρ, P, Ee, rp, t, q, q2⟩ => ⟨pn, G, ρ, _, rp, t, fun ds vs S' H' p s dv => ⟨by rw [dv.length]; exact hlen _ _ _ p, ?_⟩⟩
  show spX ⟨X.K, X.mg, X.prog, X.w⟩ g ([] ++ vs) H' Q E
  rw [List.nil_append]
  refine ⟨ds, P, Ee, ?_, p, fun d v H2 N pd n dn => ?_, fun y D hy hm H2 ex => ?_⟩
  · rw [hK, hM]; exact dv.mono hid_le
  · rw [hK, hM] at dn
    exact q d v _ H2 pd (Step.trans rp s (NewT.step (rp.step s) n)) (dn.mono (un_r (H := H2) (s.exH.trans n.ex) fun a o z => (n.new a o z).1))
  · exact q2 y D hy (by rw [← hM]; exact hm) S' H' H2 s ex
/-- what is known of _law_result -/
structure RS (K : PySem.W.Frag) (mg : Str → Option Value) : Prop where
  res : ResF K mg
  ex : ∃ (g : Addr) (pg : Arguments) (bg : List Stmt) (sg : Scope) (dV kV doc pm cdv ct oc : Value) (an od : Option Addr) (osl : Array (Option Value)), mg "_law_result" = some (.ref g) ∧ PySem.W.keepIn K (.ref g) = true ∧ K.lookup g = some ⟨oc, od, .func (PySem.W.fnOf "_law_result" "_law_result" pg bg sg dV kV doc pm an cdv ct), osl⟩ ∧
    PySem.W.codeIn K cdv "_law_result" = true ∧ L2.Binds K (PySem.W.fnOf "_law_result" "_law_result" pg bg sg dV kV doc pm an cdv ct) ["call"] [] ∧ FnScope N__law_result ["call"] sg ∧ Vis sg "call" ∧ ∀ (X : Cx) (q : Str), X.K = K → X.mg = mg → (∀ e, (X.A.deeper e).units + 1 < cLine) → GivesTo X N__law_result "_law_result" sg g cdv bg "call" q (TTres K)
/-- the code object and the table of the def that makes lambdas -/
structure LT (C : Ctx) (X : Cx) : Prop where
  ex : ∃ c A, TabB X.base X.mg c A ∧ X.env.code = .ref c ∧ (A, X.env.qual ++ "<lambda>") ∈ C.T0 ∧ ∀ p ∈ C.T0, p.1 = A → p.2 = X.env.qual ++ "<lambda>"
theorem de_result {te : (Str → Prop) → DE} {prm : Arguments} {bod : Expr} {sco : Scope} (hX : Fit P w K mg base C X) (R : RS K mg) (hL : LT C X) (hr : Room (k + 2) X.A) (L : LamS X.env.scope sco)
    (hbody : ∀ (Ar : Around) (outer : List Env) (s : Shared) (H : Hp) (E : XK) (f c' : Addr), Fit P w K mg base C (lamCx X Ar outer s H E sco f c') → Takes (lamCx X Ar outer s H E sco f c') (fun cls d _ H => E cls d H) → Room k (lamCx X Ar outer s H E sco f c').A → PE (lamCx X Ar outer s H E sco f c') bod (liX C te E))
    (hg : Gl X "_law_result" := by rfl) (hdef : defaultsOf prm X.env = ([], []) := by rfl) (hbind : ∀ (q : Str) (cl : List (Str × Addr)) (pm cv ctv : Value), bindArgs (PySem.W.kla_fn "<lambda>" q prm bod sco cl pm cv ctv) ⟨[], []⟩ = pure [] := by intros; rfl) :
    PE X (.Call (.Name "_law_result" p) [.Lambda prm bod sco lpos] [] pos) (liE C (dResult te)) := by
  obtain ⟨gA, pg, bg, sg, dV, kV, doc, pm, cdv, ct, oc, an, od, osl, r1, r2, r3, r4, r5, r6, r7, r8⟩ := R.ex
  obtain ⟨c, A, TB, hcode, hmT, hu⟩ := hL.ex
  have hK : X.K = K := hX.toFits.K.trans (congrArg CK.K hX.ck)
  have hM : C.mg = mg := congrArg CK.mg hX.ck
  have hMX : X.mg = mg := hX.toFits.mg.trans hM
  have units : ∀ e, (X.A.deeper e).units + 1 < cLine := fun e => by
    have := (hr.mono (show 1 ≤ k + 2 by omega)).deeper e
    have := this.un
    omega
  have hG := r8 X (X.env.qual ++ "<lambda>") hK hMX units
  subst hK
  have hp := pe_lamA (T := C.T0) (p := p) (lpos := lpos) (pos := pos) (prm := prm) (bod := bod) (sco := sco) (t := liX C te) (k := k) hg (by rw [hMX]; exact r1) r2 r3 r4 r5 r6 rfl r7 hG TB hcode hmT hu hr L hdef hbind fun Ar outer s H E f c' hr2 => hbody Ar outer s H E f c' ⟨⟨hX.toFits.K, hX.toFits.mg, by have := hr2.un; show (Ar.deeper (lamEnv X sco s.heap.objs.size f c')).units + 65 < cLine; omega, rfl, hX.toFits.nd, hX.toFits.prog, hX.toFits.w⟩, hX.base, hX.ck⟩ (takes_of rfl rfl rfl rfl) hr2
  refine PE.to hp fun σ H Q ⟨pn, G, ρ, Pp, rp, t, q⟩ => ?_
  have hTabs : Tabs C.T0 H := by rw [← rp.T]; exact rp.J.2
  obtain ⟨tbl, hA, _⟩ := hTabs _ hmT
  refine ⟨hTabs, fun H1 kp T1 H2 ext => ?_⟩
  have volA : G.vol A = true := by
    unfold Gh.vol volOf
    rw [rp.T, Bool.or_eq_true]
    exact .inr (List.any_eq_true.mpr ⟨_, hmT, by simp⟩)
  have keep : ∀ a o, G.vol a = false → H a = some o → H2 a = some o := fun a o hv h => ext a o (kp a o (fun z => by rw [z, volA] at hv; cases hv) h)
  have s0 : Step G H G.S H2 := {
    keep := keep
    grow := Ex.refl _
    sub := fun a o h => ⟨keep a o (rp.sub a o h).2 (rp.sub a o h).1, (rp.sub a o h).2⟩
    new := fun a o h => .inl h
    J := ⟨fun t b e => by
      obtain ⟨cc, kvs, h1, h2, h3⟩ := rp.J.1 t b e
      exact ⟨cc, kvs, ext _ _ (kp _ _ (fun z => by rw [z, hA] at h1; cases h1) h1), ext _ _ (kp _ _ (fun z => by rw [z, hA] at h2; cases h2) h2), h3⟩, by rw [rp.T]; exact T1.ext ext⟩ }
  have rp2 : Rep C pn G ρ σ H2 := rp.step s0
  refine ⟨pn, G, ρ, _, _, rp2, t, fun d v S' H' pd s1 dv p u hpn hu => ?_, fun y D ⟨n, hn, ey, py⟩ hm S' H' H3 s1 ex => ?_⟩
  · have s2 := New.step2 (N := fun a => if a = p then some (.frz u (.tup [.str "returns", v])) else none) rp2 s1 (New.one hpn)
    exact q _ _ _ _ pd (Step.trans rp s0 s2) (new_tup (.cons (.str _) (.cons dv .nil)) hpn hu s1.exH)
  · subst ey
    have eD : D = cOf X.K n := by
      have := R.res.glo n hn
      rw [hM, this] at hm
      injection hm with hm
      injection hm with hm
      exact hm.symm
    subst eD
    refine ⟨n, hn, rfl, rfl, fun T u H4 e4 hT hu => ?_⟩
    have exx : Ex H' H4 := fun a o h => e4 a o (ex a o h)
    have hT' : H' T = none := by
      cases z : H' T with
      | none => rfl
      | some o => rw [exx T o z] at hT; cases hT
    have nw : New H' (upd H4 T (.frz u (.tup [.str (eTxt n)]))) (fun a => if a = T then some (.frz u (.tup [.str (eTxt n)])) else none) := ⟨fun a o h => by rw [upd_ne (ne_of_none h hT')]; exact exx a o h, fun a o h => by
      by_cases z : a = T
      · rw [if_pos z] at h; cases h; rw [z]; exact ⟨upd_same, hT'⟩
      · rw [if_neg z] at h; cases h⟩
    have s2 := New.step2 rp2 s1 nw
    refine q _ _ _ _ py (Step.trans rp s0 s2) ?_
    exact new_tup (.cons (.str _) .nil) hT' hu s1.exH
end
end WH

set_option Elab.async false
set_option linter.all false
set_option maxRecDepth 100000
set_option maxHeartbeats 4000000
namespace WH
open PySem PySem.Spec L2 PyProof.Rows LamX
/-! ### a law that makes lambdas -/
theorem startD_sh {N : List Str} {ds : List D} {i : Nat} {x : Slot} (q : (startD N ds)[i]? = some (some x)) : ∃ d, x = .sh d := by
  unfold startD at q
  by_cases hi : i < ds.length
  · rw [List.getElem?_append_left (by simpa using hi), List.getElem?_map] at q
    cases e : ds[i]? with
    | none => rw [e] at q; cases q
    | some d => rw [e] at q; simp at q; exact ⟨d, q.symm⟩
  · rw [List.getElem?_append_right (by simpa using hi), List.getElem?_replicate] at q
    split at q <;> cases q
theorem startL_rep {C : CK} {H : Hp} {N : List Str} {vs : List V} {ds : List D} {T : List (Addr × Str)} (h : DVs C (hid (volOf none T) H) vs ds) (hT : Tabs T H) : Rep { toCK := C, H0 := H, tb0 := none, T0 := T } [] { S := hid (volOf none T) H, tb := none, T := T } (startD N ds) (L2.start N vs) H where
  sub := fun a o h => hid_some.mp h
  h0 := fun a o _ h => h
  v0 := fun a h => h
  v1 := fun a h => .inl h
  tb := fun h => absurd rfl h
  T := rfl
  J := ⟨fun t b h => (by cases h), hT⟩
  pn := fun p hp => by cases hp
  sh := (start_rep (N := N) h).sh
  own := fun i d q => by obtain ⟨_, e⟩ := startD_sh q; cases e
  inj := fun i j d e a q _ _ _ => by obtain ⟨_, e⟩ := startD_sh q; cases e
  town := fun i q => by obtain ⟨_, e⟩ := startD_sh q; cases e
  len := (start_rep (N := N) h).len
def spL (C : CK) (T : List (Addr × Str)) (g : GF) : Sp := fun vs H Q _ => ∃ ds P, DVs C (hid (volOf none T) H) vs ds ∧ Tabs T H ∧ g ds P (fun _ => False) ∧ ∀ d v H' N, P d → DV C N v d → Q v H'
theorem okL {P : Program} {w : World} {K : PySem.W.Frag} {mg : Str → Option Value} {base : Heap} {x : Str} {st : Stmt} {f : Addr} {fd : FuncData} {N ps : List Str} {k : Nat} {g : GF} {body : DS} {T : List (Addr × Str)} (F : FunD K x x (defArgs st) (defBody st) (defScope st) [] [] f fd) (S : FnScope N ps (defScope st))
    (hlen : ∀ ds Q E, g ds Q E → ds.length = ps.length) (ht : ∀ ds Q, g ds Q (fun _ => False) → body { nx := fun _ => Q .non, rt := Q } (startD N ds))
    (hb : ∀ (C : Ctx) (cdv : Value) (A : Around) (outer : List Env) (s : Shared) (H : Hp) (E : XK), (∃ oc od sl fd, K.lookup f = some ⟨oc, od, .func fd, sl⟩ ∧ fd.code = cdv ∧ PySem.W.codeIn K cdv x = true) → C.tb0 = none → C.T0 = T → Fit P w K mg base C (cxOf CX0 P w K mg base N x (defScope st) f cdv A outer s H E).nox → Room k (cxOf CX0 P w K mg base N x (defScope st) f cdv A outer s H E).nox.A →
      PSs (cxOf CX0 P w K mg base N x (defScope st) f cdv A outer s H E).nox (defBody st) (liS C body)) :
    FnOk P w K mg base CX0 (k + 1) f fd ps (spL ⟨K, mg, P, w⟩ T g) := by
  obtain ⟨oc, od, dV, kV, doc, pm, an, cdv, ct, osl, rfl, lk, hcd, _, _⟩ := F.ex
  refine fn_of lk hcd S (fun vs H Q E ⟨ds, P, h1, _, h2, _⟩ => by rw [h1.length]; exact hlen _ _ _ h2) fun A outer s H vs Q E hr ⟨ds, P', h1, hT, h2, h3⟩ => ?_
  refine ⟨_, PSs.nox (hb { toCK := ⟨K, mg, P, w⟩, H0 := H, tb0 := none, T0 := T } cdv A outer s H E ⟨_, _, _, _, lk, rfl, hcd⟩ rfl rfl ⟨⟨rfl, rfl, ?_, rfl, S.nd, rfl, rfl⟩, rfl, rfl⟩ hr), ?_⟩
  · have := hr.un
    show (A.deeper (envOfC x (defScope st) s.heap.objs.size f cdv)).units + 65 < cLine
    omega
  · exact ⟨[], _, _, _, startL_rep h1 hT, ht ds P' h2, fun G ρ σ H' r p => h3 .non .non H' (fun _ => none) p .non, fun G ρ σ H' r p => p.elim, fun G ρ σ H' r p => p.elim, fun G ρ σ H' d v N' r p n dv => h3 d v H' N' p dv⟩
theorem sql_hid {K : PySem.W.Frag} {H : Hp} {a : Addr} {xs : List V} {T : List (Addr × Str)} (h : SqL K H a xs) (hT : Tabs T H) : SqL K (hid (volOf none T) H) a xs := by
  have out : ∀ o, H a = some o → (∀ ps, o ≠ .tbl ps) → hid (volOf none T) H a = some o := fun o e n => by
    refine hid_some.mpr ⟨e, ?_⟩
    cases z : volOf none T a with
    | false => rfl
    | true =>
      unfold volOf at z
      simp only [Bool.false_or] at z
      obtain ⟨p, hp, ep⟩ := List.any_eq_true.mp z
      obtain ⟨ps, h1, _⟩ := hT p hp
      rw [beq_iff_eq.mp ep, e] at h1
      exact absurd (Option.some.inj h1) (n ps)
  rcases h with (h | ⟨u, h⟩) | h
  · exact .inl (.inl (out _ h fun ps z => by cases z))
  · exact .inl (.inr ⟨u, out _ h fun ps z => by cases z⟩)
  · exact .inr h
/-- the law's table -/
abbrev lamT (K : PySem.W.Frag) (q : Str) : List (Addr × Str) := [((He.cT K ("law", none)).2, q)]
theorem lt_of {K : PySem.W.Frag} {mg : Str → Option Value} {base : Heap} {C : Ctx} {X : Cx} {f : Addr} {cdv : Value} (hf : He.fAd K ("law", none) = f) (lk : ∃ oc od sl fd, K.lookup f = some ⟨oc, od, .func fd, sl⟩ ∧ fd.code = cdv ∧ PySem.W.codeIn K cdv "law" = true) (hB : X.base = base) (hM : X.mg = mg) (hc : X.env.code = cdv) (hT : C.T0 = lamT K (X.env.qual ++ "<lambda>")) (tb : TabB base mg (He.cT K ("law", none)).1 (He.cT K ("law", none)).2) : LT C X := by
  obtain ⟨oc, od, sl, fd, h1, h2, h3⟩ := lk
  obtain ⟨c, rfl⟩ := He.codeIn_ref h3
  rw [← hf] at h1
  have e : He.codeOf K ("law", none) = c := He.codeOf_eq h1 h2
  refine ⟨c, (He.cT K ("law", none)).2, ?_, hc, by rw [hT]; exact List.mem_singleton.mpr rfl, fun p hp _ => by rw [hT] at hp; rw [List.mem_singleton.mp hp]⟩
  rw [hB, hM]
  have : (He.cT K ("law", none)).1 = c := e
  rw [← this]
  exact tb
theorem walk_tabs {l : PySem.W.OpenLaw} {n k : Nat} {q : Program} {loose : List Str} {XP : (Str → Option Value) → Heap → Prop} {YP : World → Heap → Prop} {d : DefRec} {CX : CXT} {x : Str} (hn : l.most = some n) (hn2 : n ≤ sizeLine) (hdf : d.params.defaults = []) (hr : Room k callerA)
    (F : ∀ (w : World) (mg : Str → Option Value) (fa : Addr) (h : Heap), YP w h → h.Ns mainGlobals mg → mg d.name = some (.ref fa) → ∃ K : PySem.W.Frag, K.In h ∧ LawAtS l w K CX k n x mg fa h)
    (hCX : ∀ (H : Hp) (s : Shared) (e : Value) (s' : Shared), CX [] H s (fun _ _ _ => False) e s' → False) : PySem.W.WalkO q loose XP YP l.row.toRowW d [] (fun f vs => PySem.call f vs) := by
  refine Att.attach_callB hn hdf fun w s0 s1 mg mb fa o pm cd doc a vs ns G Y ho hd hcd hmg hobj hints hlen hbits hg => ?_
  obtain ⟨K, KX, fd, cs, sp, hT, nT, C, hb, hsp, hF⟩ := F w mg fa _ Y G.T.g hmg
  exact law_callTs KX G.T.g G.T.b G.T.builtins G.T.nolimit hg hT nT C G.T.bmain hobj hints (Nat.le_trans hlen hn2) hr hF hb (fun H hH hS => hsp H a ns hlen hbits hH hS) fun H e s' => hCX H s1 e s'
/-! ### the facts of the errors' classes, as one Bool -/
def excB (K : PySem.W.Frag) (D : Addr) : Bool :=
  decide (PySem.W.findIn K (.ref D) "__getattribute__" = some (some (.builtin "BaseException.__getattribute__"))) && (decide (PySem.W.findIn K (.ref D) "__getattr__" = some none) && (decide (PySem.W.subIn K (.ref D) (.type "BaseException") = some true) && (PySem.W.hasDictIn K D && (decide (PySem.W.findIn K (.ref D) "__class__" = some (some (.builtin "object.__class__"))) &&
    (decide (PySem.W.specialIn K (.builtin "object.__class__") "__get__" = some (some (.builtin "getset_descriptor.__get__"))) && (decide (PySem.W.takesIn K (.builtin "object.__class__") = some true) && decide (PySem.W.mroIn K D (.type "object") = some true)))))))
theorem excB_ok {K : PySem.W.Frag} {D : Addr} (h : excB K D = true) : ExcC K D := by
  unfold excB at h
  simp only [Bool.and_eq_true, decide_eq_true_eq] at h
  exact ⟨h.1, h.2.1, h.2.2.1, h.2.2.2.1, h.2.2.2.2.1, h.2.2.2.2.2.1, h.2.2.2.2.2.2.1, h.2.2.2.2.2.2.2⟩
def resB (K : PySem.W.Frag) : Bool := (List.range 9).all fun n => excB K (cOf K n) && (((List.range 9).all fun i => decide (PySem.W.kitOne K (.ref (cOf K n)) (.ref (cOf K i)) = some (decide (i = n)))) && (decide (PySem.W.kitOne K (.ref (cOf K n)) (.type "ValueError") = some true) && decide (PySem.W.exmOne K (.ref (cOf K n)) (.ref (He.ga K "ClimbError")) = some true)))
theorem resB_ok {K : PySem.W.Frag} {mg : Str → Option Value} (h : resB K = true) (g : ∀ n, n < 9 → mg (eCls n) = some (.ref (cOf K n))) (t : mg "ClimbError" = some (.ref (He.ga K "ClimbError"))) : ResF K mg := by
  have key : ∀ n, n < 9 → _ := fun n hn => List.all_eq_true.mp h n (List.mem_range.mpr hn)
  simp only [Bool.and_eq_true, List.all_eq_true, decide_eq_true_eq] at key
  exact ⟨g, fun n hn => excB_ok (key n hn).1, fun n hn i hi => (key n hn).2.1 i (List.mem_range.mpr hi), fun n hn => (key n hn).2.2.1, t, fun n hn => (key n hn).2.2.2⟩
end WH

set_option Elab.async false
set_option linter.all false
set_option maxRecDepth 100000
set_option maxHeartbeats 4000000
namespace WH
open PySem PySem.Spec L2 PyProof.Rows LamX
/-! ### a local name that holds a def, called within a lambda -/
def dCallV (Ee : Str → Prop) (i : Nat) (L : List (Str × GF)) (ta : DA) : DE := fun ρ P => ∃ x g, ρ[i]? = some (some (Slot.sh (.fn x))) ∧ (x, g) ∈ L ∧ ta ρ fun ds => g ds P Ee
section
variable {P : Program} {w : World} {K : PySem.W.Frag} {mg : Str → Option Value} {base : Heap} {X : Cx} {C : Ctx} {e : Expr} {es : List Expr} {tr : DA} {pos p : Pos} {k : Nat} {y : Str} {L : List (Str × GF)} {i : Nat}
theorem fx_callV {E : XK} (hX : Fit P w K mg base C X) (tk : Takes X (fun cls d _ H => E cls d H)) (F : ∀ q ∈ L, ∃ j ps kn, j ≤ k ∧ FNX P w K mg base j q.1 ps kn (spX ⟨K, mg, P, w⟩ q.2)) (hr : Room k X.A) (ha : PA X (e :: es) (liAB C tr)) (hN : X.N[i]? = some y := by rfl) (hv : Vis X.env.scope y := by first | exact Or.inl rfl | exact Or.inr (Or.inl rfl) | exact Or.inr (Or.inr rfl))
    (hd : (y == ("__debug__" : Str)) = false := by decide) (hcd : (y == ("__classdict__" : Str)) = false := by decide) (hs : starEach (e :: es) X.env = (false, eval e X.env) :: starEach es X.env := by rfl) (hpl : (backTo pos (starEach es X.env)).any (·.1) = false := by rfl) :
    PE X (.Call (.Name y p) (e :: es) [] pos) (liX C (fun Ee => dCallV Ee i L tr) E) := by
  refine ⟨fun pins s σ H Q I ⟨pn, G, ρ, Pp, Ee, rp, ⟨x, g, hx, hm, t⟩, q, q2⟩ => ?_⟩
  obtain ⟨j, ps, kn, hj, FX0⟩ := F (x, g) hm
  obtain ⟨f, fd, F1, m, kp, b, _⟩ := FX0.ex
  obtain ⟨v, hv1, dv1⟩ := rp.sh i _ hx
  have hK : X.K = K := hX.toFits.K.trans (congrArg CK.K hX.ck)
  have hM : C.mg = mg := congrArg CK.mg hX.ck
  have hMX : X.mg = mg := hX.toFits.mg.trans hM
  have hP : X.prog = P := hX.toFits.prog.trans (congrArg CK.P hX.ck)
  have hW : X.w = w := hX.toFits.w.trans (congrArg CK.w hX.ck)
  have hB := hX.base
  have ev : v = .ref f := by
    cases dv1 with
    | fn h =>
      have h2 := h
      rw [show C.ck.mg = mg from hM, m] at h2
      injection h2 with h2
      injection h2 with h2
      rw [h2]
  subst ev
  subst hP hW hB
  rw [← hK] at kp b
  rw [← hK, ← hMX] at F1
  refine wpAny_Call_Name_kw (thn ((pe_var (pos := p) hN hv hd hcd).run pins s σ H (fun v H1 => v = .ref f ∧ H1 = H) I ⟨.ref f, hv1, rfl, rfl⟩) fun u s1 ⟨v, H1, I1, r1, q1⟩ => ?_)
  obtain ⟨rfl, rfl⟩ := q1
  obtain rfl : u = Value.ref f := r1
  have hA := ha.run pos pins s1 σ H1 (fun vs H2 => spX ⟨X.K, X.mg, X.prog, X.w⟩ g (vs ++ []) H2 Q E) I1 ⟨pn, G, ρ, _, rp, t, fun ds vs S' H' pd st dv => by
    have e1 : (⟨X.K, X.mg, X.prog, X.w⟩ : CK) = C.ck := by rw [hK, hMX]; exact hX.ck.symm
    show spX ⟨X.K, X.mg, X.prog, X.w⟩ g (vs ++ []) H' Q E
    rw [List.append_nil, e1]
    exact ⟨ds, Pp, Ee, dv.mono hid_le, pd, fun d v H2 N pd n dn => q d v _ H2 pd (Step.trans rp st (NewT.step (rp.step st) n)) (dn.mono (un_r (H := H2) (st.exH.trans n.ex) fun a o z => (n.new a o z).1)), fun z D hz hmz H2 ex => q2 z D hz hmz S' H' H2 st ex⟩⟩
  refine PySem.W.callWith_K (h₀ := X.base) I1.ok.mod.kin kp (thn hA fun us s2 ⟨vs, H2, I2, r2, q3⟩ => ⟨I2.kIn, ?_⟩) hs hpl
  exact run_fn F1 (hr.mono hj) b (Paired.nil) (passes_call (E := E) tk fun _ _ _ _ h => h) I2 r2 q3
theorem de_fn {ps : List Str} {kn : List Nat} {sp : Sp} {x : Str} (hX : Fit P w K mg base C X) (F : FNX P w K mg base k x ps kn sp) (hg : Gl X x := by rfl) (hdb : (x == ("__debug__" : Str)) = false := by decide) : PE X (.Name x pos) (liE C (dC (.fn x))) := by
  obtain ⟨f, fd, _, m, _⟩ := F.ex
  have hM : C.mg = mg := congrArg CK.mg hX.ck
  have hMX : X.mg = mg := hX.toFits.mg.trans hM
  refine PE.to (pe_glob (v := .ref f) hg (by rw [hMX]; exact m) rfl hdb) fun σ H Q ⟨pn, G, ρ, Pp, rp, t, q⟩ => ?_
  exact q _ _ _ _ t (Step.refl rp) (.fn (by rw [show C.ck.mg = mg from hM]; exact m))
end
end WH

set_option Elab.async false
set_option linter.all false
set_option maxRecDepth 100000
set_option maxHeartbeats 4000000
namespace WH
open PySem PySem.Spec L2 PyProof.Rows
/-- a name that may own its list gives it up -/
def dFrzM (i : Nat) (t : DS) : DS := fun E ρ => dFrz i t E ρ ∨ t E ρ
section
variable {X : Cx} {C : Ctx} {st : Stmt} {t : DS}
theorem ds_frzM {i : Nat} (h : PS X st (liS C t)) : PS X st (liS C (dFrzM i t)) := PS.to h fun Z σ H ⟨pn, G, ρ, E, r, tt, k⟩ => by
  rcases tt with ⟨d, hd, tt⟩ | tt
  · obtain ⟨S', _, r', _⟩ := r.freeze hd
    exact ⟨pn, _, _, E, r', tt, k⟩
  · exact ⟨pn, _, _, E, r, tt, k⟩
end
end WH

set_option Elab.async false
set_option linter.all false
set_option maxRecDepth 100000
set_option maxHeartbeats 4000000
namespace WH
open PySem PySem.Spec L2 PyProof.Rows
/-! ### enumerate of a tuple -/
theorem meets_enumT {v : Value} {o : Obj} {H : Heap → Prop} (B : Begins v o H) :
    Meets (Builtin.«enumerate.__new__» ⟨[.type "enumerate", v], []⟩) (fun _ R s => H s.heap ∧
      R (.ok (.ret (.ref (s.heap.push o).objs.size))) { s with heap := (s.heap.push o).push { cls := .type "enumerate", data := .fields #[.none, .bool false, .ref s.heap.objs.size, rawInt 0, .none, .none] } }) :=
  .of_wp fun prog w A R s h => by
    obtain ⟨hp, g, d, tk, os⟩ := s; obtain ⟨h1, h⟩ := h
    have hsub := sub_enumerate
    have q1 : ∀ {A' : Around} {E : Value → Shared → Prop} {Q : Value → Shared → Prop}, Q (.ref hp.objs.size) ⟨hp.push o, g, d, tk, os⟩ → wpAny (model prog w) A' (pyIter v) Q E ⟨hp, g, d, tk, os⟩ :=
      fun q => B.iter prog w _ _ ⟨hp, g, d, tk, os⟩ _ h1 q
    wp_walk using q1
    refine wpAny_stack_any fun st => wpAny_pure ?_
    split
    · rename_i c _ _ _ _ _
      cases (c == Value.type "enumerate")
      · wp_walk using q1
        exact ⟨_, rfl, h⟩
      · wp_walk using q1
        exact ⟨_, rfl, h⟩
    · wp_walk using q1
      exact ⟨_, rfl, h⟩
section
variable {prog : Program} {w : World} {A : Around} {E : Value → Shared → Prop} {s : Shared}
theorem call_enumT {l : Addr} {items : Array Value} {Q : Value → Shared → Prop} (hL : s.heap.IsTuple l items)
    (h : ∀ h', IsEnum h' (s.heap.objs.size + 1) s.heap.objs.size 0 .none → h'.IsTupleIter s.heap.objs.size l 0 → h'.objs.size = s.heap.objs.size + 2 →
      (∀ b o, s.heap.get? b = some o → h'.get? b = some o) → Q (.ref (s.heap.objs.size + 1)) { s with heap := h' }) :
    wpAny (model prog w) A (call (.type "enumerate") [.ref l]) Q E s := by
  refine callType_new F.called_enumerate (by decide) (F.typeCall_enumerate_1 _) (F.newCall_enumerate_1 _) (fun obj => F.args_object_init_2 obj _) F.entry_enumerate_new
    (meets_enumT (begins_tuple l items)) ⟨hL, ?_⟩
  have hz : (s.heap.push { cls := .type "tuple_iterator", data := .fields #[.ref l, .int 0 0] }).objs.size = s.heap.objs.size + 1 := Heap.size_push ..
  show _ ∧ _
  rw [hz]
  have he : IsEnum ((s.heap.push { cls := .type "tuple_iterator", data := .fields #[.ref l, .int 0 0] }).push
      { cls := .type "enumerate", data := .fields #[.none, .bool false, .ref s.heap.objs.size, rawInt 0, .none, .none] }) (s.heap.objs.size + 1) s.heap.objs.size 0 .none := by
    have := Heap.get?_push_size (s.heap.push { cls := .type "tuple_iterator", data := .fields #[.ref l, .int 0 0] })
      (o := { cls := .type "enumerate", data := .fields #[.none, .bool false, .ref s.heap.objs.size, rawInt 0, .none, .none] }) rfl
    rw [hz] at this; exact this
  refine ⟨⟨_, he, rfl⟩, h _ he ⟨_, Heap.get?_push_of_some _ (Heap.get?_push_size _ rfl), rfl, rfl⟩ (by rw [Heap.size_push, hz]) fun b o x => Heap.get?_push_of_some _ (Heap.get?_push_of_some _ x)⟩
end
def IteT (K : PySem.W.Frag) (a : Addr) : It :=
  ⟨fun i H => ∃ (xs : List V) (x : V), SqT K H a xs ∧ xs[i]? = some x, fun i H v H' => ∃ T x, v = .ref T ∧ H T = none ∧ H' = upd H T (.tup [.int (i : Nat), x]) ∧ ∀ xs, SqT K H a xs → xs[i]? = some x, fun i H => ∃ xs : List V, SqT K H a xs ∧ xs.length ≤ i⟩
theorem turn_enumT {P : Program} {w : World} {K : PySem.W.Frag} {elts : List Expr} {kk : Nat} {tpos : Pos} (a e it : Addr) (hai : a ≠ it) (hae : a ≠ e) :
    Turn P w K (.Tuple elts kk tpos) (IteT K a) [e, it] e (fun i h => (∃ old, IsEnum h e it ((i : Nat) : Int) old) ∧ h.IsTupleIter it a i ∧ e ≠ it) where
  mem := by simp
  obj := fun i h st b hb => by
    obtain ⟨⟨old, he⟩, ⟨o, ho, hc, hd⟩, _⟩ := st
    have e' : b = e ∨ b = it := by simpa using hb
    rcases e' with z | z
    · rw [z]; exact ⟨_, he, fun v q => nomatch q⟩
    · rw [z]; exact ⟨o, ho, fun v q => by rw [hd] at q; cases q⟩
  keep := fun i h h' st k => let ⟨⟨old, he⟩, hi, hne⟩ := st; ⟨⟨old, k e (by simp) _ he⟩, hi.at fun o q => k it (by simp) o q, hne⟩
  item := by
    intro X hP hw hK hc i pins s σ H E I hf st hg
    subst hP hw hK
    obtain ⟨⟨old, he⟩, hit, hne⟩ := st
    obtain ⟨xs, x, hq, hx⟩ := hg
    obtain ⟨its, rv, p, hz⟩ := I.tuple hq
    obtain ⟨u, hu, ru⟩ := rv.get hx
    have hel : e < s.heap.objs.size := Heap.lt_size he
    have hil : it < s.heap.objs.size := by obtain ⟨_, q, _⟩ := hit; exact Heap.lt_size q
    have p' : s.heap.IsTuple a its.toArray := p
    have hlt : i < its.toArray.size := by
      have := (List.getElem?_eq_some_iff.mp hu).1
      simpa using this
    refine wpAny_pyNext_enum_itemD (Draws.tuple (A := X.A.in1) (show X.A.in1.handled = none from I.ok.hd hc) it a hai its.toArray) he ⟨hit, p'⟩ hlt hne (by simp [hne, Ne.symm hae]) fun x' h' tk hPx ho hst' hT hsz hk => ?_
    have hxu : x' = u := by
      have h1 : its[i]? = some x' := by simpa using hPx
      rw [hu] at h1
      injection h1 with h1
      exact h1.symm
    subst hxu
    refine ⟨_, rfl, wpAny_letOwnedTupleGo_enum (s := { s with heap := h', toks := tk + 1 }) ho fun h'' he' sb => ?_⟩
    have hT2 : h''.get? s.heap.objs.size = some { cls := .type "tuple", data := .seq #[.int i tk, x'] } := (sb.2 _ (Nat.ne_of_gt hel)).trans hT
    have new : ObjOk X.prog X.w (upd H s.heap.objs.size (.tup [.int (i : Nat), x])) h'' s.heap.objs.size (.tup [.int (i : Nat), x]) :=
      ⟨by show 2 ≤ sizeLine; decide, [.int i tk, x'], .cons ⟨_, rfl⟩ (.cons ru .nil), ⟨_, hT2, rfl, _, rfl⟩⟩
    have I1 : Inv X pins σ (upd H s.heap.objs.size (.tup [.int (i : Nat), x])) { s with heap := h'', toks := tk + 1 } :=
      I.turnedNew (ch := [e, it]) (fun b ob hb q => (sb.2 b (fun z => hb (by simp [z]))).trans (hk b ob (fun z => hb (by simp [z])) (fun z => hb (by simp [z])) q)) hf (Nat.le_refl _) new
    refine ⟨.ref s.heap.objs.size, _, I1, rfl, ⟨_, x, rfl, I.hok.fresh (Nat.le_refl _), rfl, fun ys hy => ?_⟩, ⟨⟨x', ?_⟩, hst'.1.at fun o q => (sb.2 it (Ne.symm hne)).trans q, hne⟩, fun b hb => ?_⟩
    · rw [I.tuple_inj hy hq]; exact hx
    · have e1 : ((i + 1 : Nat) : Int) = (i : Int) + 1 := by omega
      rw [e1]; exact he'
    · have hb' : b < s.heap.objs.size := by
        have e' : b = e ∨ b = it := by simpa using hb
        rcases e' with z | z
        · rw [z]; exact hel
        · rw [z]; exact hil
      rw [upd_ne (Nat.ne_of_lt hb')]
      exact (hf b hb).1
  done := by
    intro X hP hw hK hc i pins s σ H E I hf st hg
    subst hP hw hK
    obtain ⟨⟨old, he⟩, hit, hne⟩ := st
    obtain ⟨xs, hq, hx⟩ := hg
    obtain ⟨its, rv, p, hz⟩ := I.tuple hq
    obtain ⟨f0, f1, f2, f3, f4, f5⟩ := hf it (by simp)
    have hl := rv.length
    have p' : s.heap.IsTuple a its.toArray := p
    have hT : s.TypeIs (.ref e) "enumerate" := ⟨_, he, rfl⟩
    unfold pyNext
    refine wpAny_bind (wpAny_attempt (wpAny_callSpecial?_slot (name := Str.ofString "__next__") hT F.slot_enumerate_next
      (wpAny_call_entry F.slot_enumerate_next hT F.entry_enumerate_next ?_ (F.args_enumerate_next_1 _))))
    show wpAny _ _ (field (.ref e) 2 >>= _) _ _ _
    refine wpAny_bind (wpAny_field he rfl (x := .ref it) rfl ?_)
    refine wpAny_bind (wpAny_nextOf_tuple_end (I.ok.hd hc) hit p' (by simp; omega) fun h' x he' hx' => ?_)
    obtain ⟨o, ho, hc'⟩ := hx'
    refine wpAny_bind (wpAny_isInstance (T := "StopIteration") (b := true) ⟨o, ho, hc'⟩ isSubtype_stop ?_)
    exact wpAny_pure ⟨rfl, I.turned (t' := s.toks) (fun b o hb q => he' b o hb q) f0 f1 f3 f4 f5⟩
  self := fun A i s Q E st h => let ⟨⟨_, he⟩, _⟩ := st; wpAny_pyIter_enum he h
def iEnumT (K : PySem.W.Frag) (ta : TA) : TI := fun σ H R => ta σ H fun vs H1 => ∃ a xs, vs = [.ref a] ∧ SqT K H1 a xs ∧ R (IteT K a) H1
theorem pi_enumT {X : Cx} {e : Expr} {ta : TA} {p pos tpos : Pos} {elts : List Expr} {kk : Nat} (hg : Gl X "enumerate") (hm : X.mg "enumerate" = none) (ha : PA X [e] ta) (hs : starEach [e] X.env = [(false, eval e X.env)] := by rfl) :
    PI X (.Tuple elts kk tpos) (.Call (.Name "enumerate" p) [e] [] pos) (iEnumT X.K ta) := by
  refine ⟨fun pins s σ H R I h => ?_⟩
  refine Call_ (ld_blt I hg hm boot_enumerate (PyProof.Rows.callWith_type1 (thn (ha.run pos pins s σ H _ I h) fun us s1 ⟨vs, H1, I1, r1, q1⟩ => ?_) hs rfl))
  obtain ⟨a, xs, ex, hq, q⟩ := q1
  subst ex
  cases r1 with
  | cons r rr =>
    cases rr
    cases r
    obtain ⟨its, rv, p', hz⟩ := I1.tuple hq
    have p1 : s1.heap.IsTuple a its.toArray := p'
    have hal : a < s1.heap.objs.size := by obtain ⟨o, ho, _⟩ := p1; exact Heap.lt_size ho
    refine call_enumT p1 fun h' he hit hsz hk => wpAny_pyIter_enum he ?_
    have I2 : Inv X pins σ H1 { s1 with heap := h' } := I1.kept (t' := s1.toks) hk
    refine ⟨s1.heap.objs.size + 1, [s1.heap.objs.size + 1, s1.heap.objs.size], _, _, H1, rfl, I2, turn_enumT a (s1.heap.objs.size + 1) s1.heap.objs.size (Nat.ne_of_lt hal) (Nat.ne_of_lt (Nat.lt_succ_of_lt hal)), ⟨⟨.none, he⟩, hit, Nat.succ_ne_self _⟩, fun b hb => ?_, q⟩
    have e' : b = s1.heap.objs.size + 1 ∨ b = s1.heap.objs.size := by simpa using hb
    have hle : s1.heap.objs.size ≤ b := by
      rcases e' with z | z
      · rw [z]; exact Nat.le_add_right _ _
      · rw [z]; exact Nat.le_refl _
    exact I1.fpOk hle (I1.hok.fresh hle)
/-! at data level -/
def enumD : Nat → List D → List D
  | _, [] => []
  | i, a :: as => .pr [.int i, a] :: enumD (i + 1) as
theorem enumD_len : ∀ (i : Nat) (as : List D), (enumD i as).length = as.length
  | _, [] => rfl
  | i, a :: as => by rw [enumD, List.length_cons, List.length_cons, enumD_len (i + 1) as]
theorem enumD_get : ∀ {as : List D} {k i : Nat} {a : D}, as[i]? = some a → (enumD k as)[i]? = some (.pr [.int ((k + i : Nat) : Int), a])
  | [], _, _, _, h => by simp at h
  | x :: as, k, 0, _, h => by simp at h; subst h; rfl
  | x :: as, k, i + 1, a, h => by
    simp only [enumD, List.getElem?_cons_succ] at *
    have := enumD_get (k := k + 1) h
    rw [this]
    have : k + 1 + i = k + (i + 1) := by omega
    rw [this]
def diEnum (ta : DA) : DI := fun ρ P => ta ρ fun ds => ∃ as, ds = [.tup as] ∧ P (enumD 0 as)
@[simp] theorem z_enum {tr : DA} {ρ : R} {PL : List D → Prop} : diEnum tr ρ PL ↔ tr ρ fun ds => ∃ as, ds = [.tup as] ∧ PL (enumD 0 as) := .rfl
theorem iteT_ok {C : CK} {a : Addr} {as : List D} : ItOk C (IteT C.K a) (enumD 0 as) [(.ref a, .tup as)] where
  go := fun S H i e hv hi => by
    obtain ⟨xs, h1, h2⟩ := (hv (V.ref a, D.tup as) (by simp)).t
    rw [enumD_len] at hi
    have l1 : i < xs.length := by rw [h2.length]; omega
    exact ⟨xs, xs[i], e.t h1, by simp [l1]⟩
  stop := fun S H i e hv hi => by
    obtain ⟨xs, h1, h2⟩ := (hv (V.ref a, D.tup as) (by simp)).t
    rw [enumD_len] at hi
    exact ⟨xs, e.t h1, by rw [h2.length]; omega⟩
  yld := fun S H i v H3 e hv hi y => by
    obtain ⟨xs, h1, h2⟩ := (hv (V.ref a, D.tup as) (by simp)).t
    obtain ⟨T, x, rfl, hT, rfl, y1⟩ := y
    obtain ⟨d1, q1, q2⟩ := h2.get (y1 xs (e.t h1))
    obtain ⟨n1, n2⟩ := pair_new e hT (.int (i := ((i : Nat) : Int))) q2
    have := enumD_get (k := 0) q1
    rw [Nat.zero_add] at this
    exact ⟨_, _, n1, this, n2⟩
section
variable {X : Cx} {C : Ctx} {e : Expr} {ta : DA} {pos p tpos : Pos} {elts : List Expr} {kk : Nat}
theorem di_enum (hX : Fits C X) (hg : Gl X "enumerate") (hm : X.mg "enumerate" = none) (ha : PA X [e] (liA C ta)) (hs : starEach [e] X.env = [(false, eval e X.env)] := by rfl) :
    PI X (.Tuple elts kk tpos) (.Call (.Name "enumerate" p) [e] [] pos) (liI C (diEnum ta)) :=
  PI.to (pi_enumT hg hm ha hs) fun σ H R ⟨pn, G, ρ, P, r, t, k⟩ => ⟨pn, G, ρ, _, r, t, fun ds vs S' H' ⟨as, ed, pp⟩ s dv => by
    rw [hX.K]
    subst ed
    obtain ⟨v, rfl, d1⟩ := dvs1 dv
    obtain ⟨a, xs, rfl, t1, m1⟩ := d1.tX hX s.exH
    rw [hX.K] at t1
    refine ⟨a, xs, rfl, t1, k _ _ S' H' [(.ref a, .tup as)] pp s (fun q hq => ?_) iteT_ok⟩
    rw [List.mem_singleton.mp hq]
    exact d1⟩
end
end WH

set_option Elab.async false
set_option linter.all false
set_option maxRecDepth 100000
set_option maxHeartbeats 4000000
namespace WH
open PySem PySem.Spec L2 PyProof.Rows HT
/-! ### xs[::-1], a tuple -/
section
variable {prog : Program} {w : World} {A : Around} {E : Value → Shared → Prop} {s : Shared}
theorem sliceApplied_rev {sl : Addr} {n : Nat} {t : Tok} {Q : Int × Int × Nat → Shared → Prop} (hs : s.heap.IsSliceOf sl .none .none (.int (-1) t)) (h : Q ((n : Int) - 1, -1, n) s) : wpAny (model prog w) A (Builtin.Slice.sliceApplied (.ref sl) (pure (n : Int))) Q E s := by
  obtain ⟨os, hos, hcs, hds⟩ := id hs
  unfold Builtin.Slice.sliceApplied Builtin.Slice.sliceFields
  refine wpAny_bind (wpAny_bind (wpAny_field hos hds (x := .none) rfl (wpAny_bind (wpAny_field hos hds (x := .none) rfl (wpAny_bind (wpAny_field hos hds (x := .int (-1) t) rfl (wpAny_pure ?_)))))))
  refine wpAny_bind (slicePart_int ?_)
  show wpAny _ _ (if ((-1 : Int) == 0) = true then _ else _) _ _ s
  rw [if_neg (by decide)]
  refine wpAny_bind (slicePart_none (wpAny_bind (slicePart_none (wpAny_bind (wpAny_pure ?_)))))
  show wpAny _ _ (match Builtin.Slice.sliceAdjust none none (-1) (n : Int) with | (lo, hi) => pure (lo, (-1 : Int), Builtin.Slice.slicePlaces lo hi (-1))) _ _ s
  have e1 : Builtin.Slice.sliceAdjust none none (-1) (n : Int) = ((n : Int) - 1, -1) := rfl
  rw [e1]
  show wpAny _ _ (pure ((n : Int) - 1, (-1 : Int), Builtin.Slice.slicePlaces ((n : Int) - 1) (-1) (-1))) _ _ s
  have e2 : Builtin.Slice.slicePlaces ((n : Int) - 1) (-1) (-1) = n := by
    unfold Builtin.Slice.slicePlaces
    have h1 : ¬ ((-1 : Int) > 0) := by decide
    simp only [h1, if_false]
    rw [show (- -1 : Int) = 1 by decide, Int.ediv_one]
    split <;> omega
  rw [e2]
  exact wpAny_pure h
theorem fm_congr {α β : Type} {f g : α → Option β} : ∀ (l : List α), (∀ x ∈ l, f x = g x) → l.filterMap f = l.filterMap g
  | [], _ => rfl
  | a :: l, h => by rw [List.filterMap_cons, List.filterMap_cons, h a (by simp), fm_congr l fun x hx => h x (by simp [hx])]
theorem pick_rev (xs : Array Value) : ((List.range xs.size).filterMap fun (m : Nat) => xs[(((xs.size : Int) - 1) + (m : Int) * (-1)).toNat]?).toArray = xs.toList.reverse.toArray := by
  have e : (List.range xs.size).filterMap (fun (m : Nat) => xs[(((xs.size : Int) - 1) + (m : Int) * (-1)).toNat]?) = ((List.range xs.size).map fun k => xs.size - 1 - k).filterMap (xs[·]?) := by
    rw [List.filterMap_map]
    refine fm_congr _ fun m hm => ?_
    have := List.mem_range.mp hm
    have e : (((xs.size : Int) - 1) + (m : Int) * (-1)).toNat = xs.size - 1 - m := by omega
    show xs[_]? = xs[_]?
    rw [e]
  rw [e, PySem.W.krv_range, List.filterMap_reverse, PySem.W.krv_all]
theorem getItem_tuple_rev {t sl : Addr} {items : Array Value} {tk : Tok} {Q : Value → Shared → Prop} (ht : IsTup s.heap t items) (hs : s.heap.IsSliceOf sl .none .none (.int (-1) tk))
    (h : Q (.ref s.heap.objs.size) { s with heap := s.heap.push { cls := .type "tuple", data := .seq items.toList.reverse.toArray } })
    (hsz : items.size ≤ sizeLine) : wpAny (model prog w) A (getItem (.ref t) (.ref sl)) Q E s := by
  have htake : sizeOk (.seq items.toList.reverse.toArray) := by
    show items.toList.reverse.toArray.size ≤ sizeLine
    rw [List.size_toArray, List.length_reverse, Array.length_toList]
    exact hsz
  obtain ⟨os, hos, hcs, hds⟩ := id hs
  have hTs : s.TypeIs (.ref sl) "slice" := ⟨os, hos, hcs⟩
  unfold getItem
  try with_reducible refine wpAny_holding ?_
  first | refine wpAny_bind (wpAny_pure ?_) | skip
  refine wpAny_bind (wpAny_sequenceKey ht.typeIs (by decide) ?_)
  refine wpAny_bind (wpAny_callSpecial?_slot (name := Str.ofString "__getitem__") ht.typeIs PyProof.Rows.slot_tuple_getitem
    (wpAny_call_entry PyProof.Rows.slot_tuple_getitem ht.typeIs entry_tuple_getitem ?_ (args_tuple_getitem _ _)))
  show wpAny _ _ (Builtin.Tuple.tupleItemsOf (.ref t) >>= _) _ _ s
  refine wpAny_bind (tupleItemsOf_ ht ?_)
  refine wpAny_bind (wpAny_typeOf hTs ?_)
  rw [if_pos (by decide)]
  refine wpAny_bind (sliceApplied_rev hs ?_)
  have hno : ¬ ((((items.size : Int) - 1) == 0 && (-1 : Int) == 1 && items.size == items.size) = true) := by
    intro q
    rw [Bool.and_eq_true, Bool.and_eq_true] at q
    have := q.1.2
    revert this
    decide
  show wpAny _ _ (if (((items.size : Int) - 1) == 0 && (-1 : Int) == 1 && items.size == items.size) = true then _ else _) _ _ s
  rw [if_neg hno, pick_rev]
  first
    | exact wpAny_bind (m := Builtin.Tuple.tupleExact _) (wpAny_newObj_type (wpAny_pure ⟨_, rfl, wpAny_pure h⟩) htake)
    | exact wpAny_bind (m := Builtin.Tuple.tupleExact _) (wpAny_newObj_type (wpAny_bind (wpAny_pure (wpAny_pure ⟨_, rfl, wpAny_pure h⟩))) htake)
    | exact wpAny_bind (wpAny_bind (m := Builtin.Tuple.tupleExact _) (wpAny_newObj_type (wpAny_pure (wpAny_pure ⟨_, rfl, wpAny_pure h⟩)) htake))
    | exact wpAny_bind (wpAny_bind (m := Builtin.Tuple.tupleExact _) (wpAny_newObj_type (wpAny_pure ⟨_, rfl, wpAny_pure h⟩) htake))
end
def tRevT (K : PySem.W.Frag) (te : TE) : TE := fun σ H Q => te σ H fun x H1 => ∃ a xs, x = .ref a ∧ SqT K H1 a xs ∧ ∀ p u, H1 p = none → u.dict = none → Q (.ref p) (upd H1 p (.frz u (.tup xs.reverse)))
section
variable {X : Cx} {C : Ctx}
theorem pe_revT {e : Expr} {te : TE} {k : Nat} {p1 p2 p3 pos : Pos} (he : PE X e te) : PE X (.Subscript e (.Slice none none (some (.UnaryOp .USub (.Constant (.int 1) k p1) p2)) p3) pos) (tRevT X.K te) := by
  refine ⟨fun pins s σ H Q I h => ?_⟩
  refine Subscript_ (thn (he.run pins s σ H _ I h) fun v s1 ⟨x, H1, I1, r1, q1⟩ => ?_)
  obtain ⟨a, xs, ex, hx, q⟩ := q1
  subst ex
  cases r1
  have hst : PO X (some (.UnaryOp .USub (.Constant (.int 1) k p1) p2)) (tPart (tUn (rU fun i => .int (-i)) (tC (.int 1)))) := po_some (pe_un un_neg pe_int)
  refine wpAny_Slice (thn (po_none.run pins s1 σ H1 (fun o H2 => o = none ∧ H2 = H1) I1 ⟨rfl, rfl⟩) fun vl s2 ⟨l, H2, I2, pl, el, e2⟩ => ?_)
  subst el e2
  refine thn (po_none.run pins s2 σ H2 (fun o H3 => o = none ∧ H3 = H2) I2 ⟨rfl, rfl⟩) fun vu s3 ⟨u, H3, I3, pu, eu, e3⟩ => ?_
  subst eu e3
  refine thn (hst.run pins s3 σ H3 (fun o H4 => o = some (-1) ∧ H4 = H3) I3 ⟨1, rfl, -1, rfl, rfl, rfl⟩) fun vs s4 ⟨o, H4, I4, ps, eo, e4⟩ => ?_
  subst eo e4
  cases pl
  cases pu
  cases ps with
  | int _ tk =>
  have I5 : Inv X pins σ H4 { s4 with heap := s4.heap.push { cls := .type "slice", data := .fields #[.none, .none, .int (-1) tk] } } := I4.kept (t' := s4.toks) fun b ob q => Heap.get?_push_of_some _ q
  obtain ⟨its, r, pt, hz⟩ := I5.tuple hx
  have hlen := r.length
  show wpAny (model X.prog X.w) X.A (subscriptTail e (.Slice none none (some (.UnaryOp .USub (.Constant (.int 1) k p1) p2)) p3) (.ref a) (.ref s4.heap.objs.size)) (EP X pins σ Q) X.xe { s4 with heap := s4.heap.push { cls := .type "slice", data := .fields #[.none, .none, .int (-1) tk] } }
  refine tail_any (ops := [.ref a, .ref s4.heap.objs.size]) pt.typeIs (PyProof.Rows.slot_tuple_getitem.lookup) ?_ (by with_unfolding_all rfl)
  refine getItem_tuple_rev pt (Heap.IsSliceOf.new _ .none .none (.int (-1) tk)) ?_ (by rw [List.size_toArray]; omega)
  exact lay_tup I5 r.reverse (by rw [List.length_reverse]; exact hz) q
def revD : D → Option D
  | .lst ds => some (.lst ds.reverse)
  | .tup ds => some (.tup ds.reverse)
  | _ => none
def dRevT (te : DE) : DE := fun ρ P => te ρ fun d => ∃ ds, d = .tup ds ∧ P (.tup ds.reverse)
@[simp] theorem z_revT {te : DE} {ρ : R} {P : D → Prop} : dRevT te ρ P ↔ te ρ fun d => ∃ ds, d = .tup ds ∧ P (.tup ds.reverse) := .rfl
theorem de_revT {e : Expr} {te : DE} {k : Nat} {p1 p2 p3 pos : Pos} (hX : Fits C X) (he : PE X e (liE C te)) : PE X (.Subscript e (.Slice none none (some (.UnaryOp .USub (.Constant (.int 1) k p1) p2)) p3) pos) (liE C (dRevT te)) :=
  PE.to (pe_revT he) fun σ H Q ⟨pn, G, ρ, P, rp, t, kk⟩ => ⟨pn, G, ρ, _, rp, t, fun d v S1 H1 ⟨ds, e1, e2⟩ s1 dv => by
    subst e1
    obtain ⟨a, xs, rfl, t1, d1⟩ := dv.tX hX s1.exH
    exact ⟨a, xs, rfl, t1, fun p u hp hu => kk _ _ _ _ e2 (New.step2 rp s1 (New.one hp)) (new_tup d1.reverse hp hu s1.exH)⟩⟩
/-! ### d.get(k, x) -/
def tGetX (C : CK) (td ty tx : TE) : TE := fun σ H Q => td σ H fun x H1 => ∃ a, x = .ref a ∧ (∃ ro, H1 a = some (DX C a ro) ∧ KeysOk H1 ro.2) ∧ ty σ H1 fun y H2 => tx σ H2 fun z H3 => ∃ b k o ro, y = .ref b ∧ H3 a = some (DX C a ro) ∧ KeysOk H3 ro.2 ∧ H3 b = some (.frz o (.tup (k.map kV))) ∧ ((∃ p v, atKey ro.2 k = some p ∧ RelV v p.2 ∧ Q v H3) ∨ (atKey ro.2 k = none ∧ Q z H3))
theorem pe_getX {o e f : Expr} {apos cpos : Pos} {td ty tx : TE} (hX : Fits C X) (ho : PE X o td) (he : PE X e ty) (hf : PE X f tx) (m : M2 X o "get" apos e f cpos) : PE X (.Call (.Attribute o "get" apos) [e, f] [] cpos) (tGetX C.ck td ty tx) := by
  refine ⟨fun pins s σ H Q I h => ?_⟩
  obtain ⟨hK, hM, hu, hc, hn, hP, hw⟩ := hX
  refine wpAny_Call_method m.base m.few m.line PySem.F.plainAttrs_dict PySem.F.slot_dict_get PySem.F.type_dict_get (thn (ho.run pins s σ H _ I h) fun u s1 ⟨x, H1, I1, rx, a, ex, ⟨ro1, d1, dk1⟩, q1⟩ => ?_)
  subst ex
  obtain rfl : u = Value.ref a := rx
  have ok1 := I1.hok
  rw [hP, hw] at ok1
  obtain ⟨n1, n2, n3⟩ := dx_of ok1 d1 dk1
  have t1 : s1.TypeIs (.ref a) "dict" := n2.typeIs
  refine ⟨t1, fun b q => ?_, ?_⟩
  · cases q
    obtain ⟨ob, es, ep, g1, g2, _⟩ := n2
    exact ⟨ob, g1, g2.2.1⟩
  rw [m.trees]
  refine Calls.callWith_builtin rfl (Calls.evalArgs_plain (Calls.spliced_cons (thn (he.run pins s1 σ H1 _ I1 q1) fun iv s2 ⟨y, H2, I2, ry, q2⟩ =>
    Calls.spliced_cons (thn (hf.run pins s2 σ H2 _ I2 q2) fun fv s3 ⟨z, H3, I3, rz, b, k, ob, ro, ey, d3, dk3, hb, q3⟩ => Calls.spliced_nil ?_))))
  subst ey
  obtain rfl : iv = Value.ref b := ry
  have ok3 := I3.hok
  rw [hP, hw] at ok3
  obtain ⟨m1, m2, m3⟩ := dx_of ok3 d3 dk3
  have hkey := key_ofF ok3 hb
  have fin : ∀ v tk, RelV v (((atKey ro.2 k).map (·.2)).getD fv) → Q v H3 → EP X pins σ Q (((atKey ro.2 k).map (·.2)).getD fv) { s3 with toks := tk } := fun v tk rv qv => ⟨v, H3, I3.tok _, rv, qv⟩
  rw [hP, hw]
  refine call_meetsIn PySem.F.slot_dict_get m2.typeIs PySem.F.entry_dict_get (PySem.F.args_dict_get_3 _ _ _) (meetsH_dict_get_default (tupleKind (mixKind C.ck.P C.ck.w)) a b m1 fv) ⟨tupleKind_room_in1 (by omega), k, ro.2, hkey, m2, ?_⟩
  rcases q3 with ⟨p, v, p1, p2, p3⟩ | ⟨p1, p3⟩
  · refine fin v _ ?_ p3
    rw [p1]; exact p2
  · refine fin z _ ?_ p3
    rw [p1]; exact rz
def dGet2 (td tk tf : DE) : DE := fun ρ P => td ρ fun d => (∃ kvs, d = .dct kvs) ∧ tk ρ fun k => tf ρ fun f => ∃ kvs ks, d = .dct kvs ∧ asK k = some ks ∧ P ((dget kvs ks).getD f)
@[simp] theorem z_get2 {td tk tf : DE} {ρ : R} {P : D → Prop} : dGet2 td tk tf ρ P ↔ td ρ fun d => (∃ kvs, d = .dct kvs) ∧ tk ρ fun k => tf ρ fun f => ∃ kvs ks, d = .dct kvs ∧ asK k = some ks ∧ P ((dget kvs ks).getD f) := .rfl
theorem de_get2 {o e f : Expr} {apos cpos : Pos} {td tk tf : DE} (hX : Fits C X) (ho : PE X o (liE C td)) (he : PE X e (liE C tk)) (hf : PE X f (liE C tf)) (m : M2 X o "get" apos e f cpos := by exact ⟨rfl, rfl, rfl, rfl⟩) : PE X (.Call (.Attribute o "get" apos) [e, f] [] cpos) (liE C (dGet2 td tk tf)) :=
  PE.to (pe_getX hX ho he hf m) fun σ H Q ⟨pn, G, ρ, P, rp, t, kk⟩ => ⟨pn, G, ρ, _, rp, t, fun d x S1 H1 ⟨⟨kvs, ed⟩, t1⟩ s1 d1 => by
    subst ed
    cases d1 with
    | dct ha hk =>
      refine ⟨_, rfl, ⟨_, s1.exH _ _ ha, hk.keysOk.mono s1.exH⟩, pn, _, ρ, _, rp.step s1, t1, fun kd y S2 H2 t2 s2 d2 => ⟨pn, _, ρ, _, (rp.step s1).step s2, t2, fun fd z S3 H3 ⟨kvs', ks, e1, e2, p⟩ s3 d3 => ?_⟩⟩
      cases e1
      obtain ⟨b, ob, rfl, hb, _⟩ := d2.asK e2
      have st := Step.trans rp (Step.trans rp s1 s2) s3
      have ha3 := s3.exH _ _ (s3.grow _ _ (s2.grow _ _ ha))
      refine ⟨b, ks, ob, _, rfl, ha3, ((hk.mono s2.grow).mono s3.grow).keysOk.mono s3.exH, s3.exH _ _ (s3.grow _ _ hb), ?_⟩
      have hk3 := (hk.mono s2.grow).mono s3.grow
      cases eg : dget kvs ks with
      | some v =>
        obtain ⟨p', v', p1, p2, p3⟩ := (hk3.get ks).1 v eg
        rw [eg] at p
        exact .inl ⟨p', v', p1, p2, kk _ _ _ _ p st p3⟩
      | none =>
        have := (hk3.get ks).2
        rw [eg] at this p
        refine .inr ⟨?_, kk _ _ _ _ p st d3⟩
        cases ea : atKey _ ks with
        | none => rfl
        | some q => rw [ea] at this; cases this⟩
end
end WH

set_option Elab.async false
set_option linter.all false
set_option maxRecDepth 100000
set_option maxHeartbeats 4000000
namespace WH
open PySem PySem.Spec L2 PyProof.Rows
open PySem.AutoSeq1 in
theorem extend_tup (l : Addr) (items : Array Value) (n : Nat) (b : Addr) (items2 : Array Value) (n2 : Nat) (sl : Array (Option Value)) (hs0 : ¬(!items.isEmpty && Builtin.List.listTooLong (items.size + items2.size)) = true) (hs1 : items.size ≤ sizeLine) (hs2 : items.size + items2.size ≤ sizeLine + 1) :
    Meets (Builtin.«list.extend» ⟨[.ref l, .ref b], []⟩) (fun _ R s => s.heap.get? l = some { cls := .type "list", dict := none, data := .seq items n, slots := #[] } ∧ s.heap.get? b = some { cls := .type "tuple", dict := none, data := .seq items2 n2, slots := sl } ∧ R (.ok (.ret Value.none)) { s with heap := s.heap.update l (Obj.mapSeq fun x => x ++ items2), toks := s.toks }) :=
  .of_wp fun prog w A R s h => by
    obtain ⟨hp, g, d, tk, os⟩ := s; obtain ⟨hl, hb, h⟩ := h; have f1 := idx_int; have f2 := PySem.AutoSeq1.sub_tuple_tuple; have f3 := PySem.AutoSeq1.sub_list_list; have f4 := PySem.AutoSeq1.sub_tuple_list; have f5 := PySem.AutoSeq1.sub_list_tuple;
    have hz' : (items ++ items2).size ≤ sizeLine + 1 := by rw [Array.size_append]; exact hs2
    wp_walk using (wpAny_updateSeq hl rfl (hz := hs1) (_hz' := hz')), wpAny_loadPart' hl, wpAny_loadPart' hb; exact ⟨_, rfl, h⟩
/-! ### xs.extend(t), a tuple -/
def rExtT : V → List V → Hp → VK → Prop := fun x vs H Q => ∃ (l b : Addr) (xs zs : List V) (u : Obj), x = .ref l ∧ vs = [.ref b] ∧ H l = some (.lst xs) ∧ H b = some (.frz u (.tup zs)) ∧ u.dict = none ∧ xs.length + zs.length ≤ sizeLine ∧ Q .non (upd H l (.lst (xs ++ zs)))
section
variable {X : Cx} {C : Ctx} {o e : Expr} {to te : DE} {pos apos cpos p p2 q : Pos}
theorem mt_extT : MtM X "list.extend" rExtT := by
  intro pins s σ H x vs v us Q I rx rv h
  obtain ⟨l, b, xs, zs, u0, rfl, rfl, hH, hB, hu0, hz, q⟩ := h
  cases rx
  obtain ⟨u, rfl, ru⟩ := rv.one
  cases ru
  obtain ⟨z, its, n, r, hl, e⟩ := I.lstM hH
  obtain ⟨hget, hz2, its2, r2, hT⟩ := I.hok b _ hB
  obtain ⟨o', h1, h2, n2, h3⟩ := hT
  rw [hget] at h1
  injection h1 with h1
  subst h1
  obtain ⟨cls, dct, dat, sl⟩ := u0
  simp only at hu0 h2 h3
  subst hu0; subst h2; subst h3
  have hl2 := r2.length
  have hsz : its.toArray.size + its2.toArray.size ≤ sizeLine := by rw [List.size_toArray, List.size_toArray]; omega
  have hlong : ¬ (!its.toArray.isEmpty && Builtin.List.listTooLong (its.toArray.size + its2.toArray.size)) = true := by
    rw [notLongL hsz, Bool.and_false]
    exact Bool.false_ne_true
  refine call_meets PySem.F.slot_list_extend ⟨_, e, rfl⟩ PySem.F.entry_list_extend (PySem.F.args_list_extend_2 _ _)
    (extend_tup l its.toArray n b its2.toArray n2 sl hlong (by rw [List.size_toArray]; omega) (by omega)) ⟨e, hget, ?_⟩
  refine ⟨.non, _, I.lset (its' := its ++ its2) hH e (by simp) (r.append r2) ?_, rfl, q⟩
  rw [List.length_append]
  omega
def dExtT (i : Nat) (te : DE) : DS := fun E ρ => (∃ ds, ρ[i]? = some (some (Slot.own (.lst ds)))) ∧ te ρ fun d => ∃ ds es, d = .tup es ∧ ρ[i]? = some (some (Slot.own (.lst ds))) ∧ ds.length + es.length < 100000 ∧ E.nx (ρ.set i (some (.own (.lst (ds ++ es)))))
@[simp] theorem z_extT {i : Nat} {te : DE} {E : DEnds} {ρ : R} : dExtT i te E ρ ↔ (∃ ds, ρ[i]? = some (some (Slot.own (.lst ds)))) ∧ te ρ fun d => ∃ ds es, d = .tup es ∧ ρ[i]? = some (some (Slot.own (.lst ds))) ∧ ds.length + es.length < 100000 ∧ E.nx (ρ.set i (some (.own (.lst (ds ++ es))))) := .rfl
theorem ds_extT {i : Nat} {x : Str} (hX : Fits C X) (ha : PE X e (liE C te)) (hN : X.N[i]? = some x := by rfl) (hv : Vis X.env.scope x := by first | exact Or.inl rfl | exact Or.inr (Or.inl rfl) | exact Or.inr (Or.inr rfl)) (hd : (x == ("__debug__" : Str)) = false := by decide) (hcd : (x == ("__classdict__" : Str)) = false := by decide)
    (hbase : attributeBase (.Name x p) "extend" X.env (eval (.Name x p) X.env) = eval (.Name x p) X.env := by rfl) (hline : (apos.endLine == cpos.line) = true := by rfl) (hs : swapsWith (.Call (.Attribute (.Name x p) "extend" apos) [e] [] cpos) none pos.line X.env = pure false := by rfl)
    (hst : starEach [e] X.env = [(false, eval e X.env)] := by rfl)
    (hfew : ((backTo cpos (starEach [e] X.env)).all (fun x => !x.1) && (backToKw cpos (keywordEach [] X.env)).all (fun x => x.1.isSome) && decide ([e].length + ([] : List Keyword).length + (if ([] : List Keyword).isEmpty then 0 else 1) < 30)) = true := by rfl) :
    PS X (.Expr (.Call (.Attribute (.Name x p) "extend" apos) [e] [] cpos) pos) (liS C (dExtT i te)) := by
  refine PS.to (ps_expr (pe_bm PySem.F.plainAttrs_list PySem.F.slot_list_extend PySem.F.type_list_extend mt_extT (pe_var hN hv hd hcd) (pa_cons ha pa_nil hst) hbase hfew hline hst rfl) hs) fun Z σ H ⟨pn, G, ρ, E, r, ⟨⟨ds0, q0⟩, t⟩, k⟩ => ?_
  obtain ⟨a, vs, h1, h2, h3, h4⟩ := r.ownL q0
  refine ⟨.ref a, h1, .inl ⟨rfl, vs, .inl (.inl h3)⟩, pn, G, ρ, _, r, t, fun d v S' H' ⟨ds, es, ed, hds, hl, p⟩ s dv => ?_⟩
  rw [q0] at hds
  cases hds
  subst ed
  have h3' := s.keep a _ h2 h3
  cases dv with
  | @tup b u ws _ g1 g2 g3 =>
    refine ⟨a, b, vs, ws, u, rfl, rfl, h3', s.exH _ _ g1, g2, Nat.le_of_lt (Nat.lt_of_lt_of_le (by rw [h4.length, g3.length]; exact hl) (by decide)), ?_⟩
    exact k.nx _ _ _ _ ((r.step s).mut (d' := .lst (ds0 ++ es)) h3' (.inl rfl) q0 h1 ⟨_, upd_same, (h4.mono s.grow).append g3⟩) p
/-! ### xs.index(k), a list of ints -/
def dIndex (to te : DE) : DE := fun ρ P => to ρ fun d => ∃ ns : List Int, d = .lst (ns.map .int) ∧ te ρ fun e => ∃ (k : Int) (j : Nat), e = .int k ∧ ns[j]? = some k ∧ (∀ m, m < j → ns[m]? ≠ some k) ∧ P (.int (j : Nat))
@[simp] theorem z_index {to te : DE} {ρ : R} {P : D → Prop} : dIndex to te ρ P ↔ to ρ fun d => ∃ ns : List Int, d = .lst (ns.map .int) ∧ te ρ fun e => ∃ (k : Int) (j : Nat), e = .int k ∧ ns[j]? = some k ∧ (∀ m, m < j → ns[m]? ≠ some k) ∧ P (.int (j : Nat)) := .rfl
theorem dvs_ints {C : CK} {S : Hp} : ∀ {vs : List V} {ns : List Int}, DVs C S vs (ns.map D.int) → vs = ns.map V.int
  | _, [], .nil => rfl
  | _, n :: ns, .cons h t => by cases h; rw [List.map_cons, dvs_ints t]
theorem de_index (hX : Fits C X) (ho : PE X o (liE C to)) (ha : PE X e (liE C te)) (hbase : attributeBase o "index" X.env (eval o X.env) = eval o X.env := by rfl)
    (hfew : ((backTo cpos (starEach [e] X.env)).all (fun x => !x.1) && (backToKw cpos (keywordEach [] X.env)).all (fun x => x.1.isSome) && decide ([e].length + ([] : List Keyword).length + (if ([] : List Keyword).isEmpty then 0 else 1) < 30)) = true := by rfl)
    (hline : (apos.endLine == cpos.line) = true := by rfl) (hst : starEach [e] X.env = (false, eval e X.env) :: starEach [] X.env := by rfl) : PE X (.Call (.Attribute o "index" apos) [e] [] cpos) (liE C (dIndex to te)) :=
  PE.to (pe_bm PySem.F.plainAttrs_list PySem.F.slot_list_index PySem.F.type_list_index mt_index ho (pa_cons ha pa_nil hst) hbase hfew hline hst rfl) fun σ H Q ⟨pn, G, ρ, P, rp, t, k⟩ => ⟨pn, G, ρ, _, rp, t, fun d v S1 H1 ⟨ns, ed, t1⟩ s1 dv => by
    subst ed
    obtain ⟨a, vs, rfl, h1, h2⟩ := dv.lX (S := S1) (H := S1) (Ex.refl _)
    have ev := dvs_ints h2
    subst ev
    refine ⟨.inl ⟨rfl, _, SqL.of (s1.exH _ _ h1)⟩, pn, _, ρ, _, rp.step s1, t1, fun e w S2 H2 ⟨kk, j, ee, hj, hm, p⟩ s2 dv2 => ?_⟩
    subst ee
    cases dv2
    refine ⟨a, ns.map V.int, .int kk, j, .int kk, rfl, rfl, SqL.of (s2.exH _ _ (s2.grow _ _ h1)), rfl, by simp [flatV], by rw [List.getElem?_map, hj]; rfl, by simp [eqV], fun m z' hm1 hz => ?_, k _ _ _ _ p (Step.trans rp s1 s2) (.int _)⟩
    rw [List.getElem?_map] at hz
    cases en : ns[m]? with
    | none => rw [en] at hz; cases hz
    | some k2 =>
      rw [en] at hz
      cases hz
      have := hm m hm1
      rw [en] at this
      simp [eqV]
      exact fun z => this (by rw [z])⟩
/-! ### len(set(xs)), ints -/
theorem firstMet_nd (val : Nat → Int) : ∀ i, (firstMet val i).Nodup
  | 0 => by rw [firstMet_zero]; simp
  | i + 1 => by
    rw [firstMet_succ]
    unfold step_dedup
    have ih := firstMet_nd val i
    split
    · exact ih
    · rename_i h
      rw [List.nodup_append]
      refine ⟨ih, by simp, fun a ha b hb e => h ?_⟩
      rw [List.mem_singleton.mp hb] at e
      rw [List.any_eq_true]
      exact ⟨a, ha, by simp [e]⟩
def dLenSetI (te : DE) : DE := fun ρ P => te ρ fun d => ∃ ns : List Int, d = .lst (ns.map .int) ∧ ns.length ≤ 4000 ∧ ∀ l : List Int, l.Nodup → (∀ k, k ∈ l ↔ k ∈ ns) → P (.int (l.length : Nat))
@[simp] theorem z_lenSetI {te : DE} {ρ : R} {P : D → Prop} : dLenSetI te ρ P ↔ te ρ fun d => ∃ ns : List Int, d = .lst (ns.map .int) ∧ ns.length ≤ 4000 ∧ ∀ l : List Int, l.Nodup → (∀ k, k ∈ l ↔ k ∈ ns) → P (.int (l.length : Nat)) := .rfl
theorem de_lenSetI (hX : Fits C X) (ha : PE X e (liB C te)) (hm : X.mg "len" = none) (hm2 : X.mg "set" = none) (hg : Gl X "len" := by rfl) (hg2 : Gl X "set" := by rfl) (na : starEach [e] X.env = (false, eval e X.env) :: starEach [] X.env := by rfl) :
    PE X (.Call (.Name "len" p) [.Call (.Name "set" p2) [e] [] q] [] pos) (liE C (dLenSetI te)) := by
  refine ⟨fun pins s σ H Q I ⟨pn, G, ρ, P, rp, t, k⟩ => ?_⟩
  refine Call_ (ld_blt I hg hm PySem.boot_len (callWith_builtin1 (args_cons ?_ rfl) rfl rfl))
  refine Call_ (ld_blt I hg2 hm2 boot_set (callWith_type1 (args_cons (thn (ha.run pins s σ H (fun v H1 => ∃ d S1, Step G H S1 H1 ∧ DV C.ck (hid G.vol H1) v d ∧ ∃ ns : List Int, d = .lst (ns.map .int) ∧ ns.length ≤ 4000 ∧ ∀ l : List Int, l.Nodup → (∀ k, k ∈ l ↔ k ∈ ns) → P (.int (l.length : Nat))) I ⟨pn, G, ρ, _, rp, t, fun d v S' H' p s dv => ⟨d, S', s, dv, p⟩⟩) fun v s1 ⟨x, H1, I1, r1, d, S1, st1, dv, ns, ed, hl, pz⟩ => args_nil ?_) na) na rfl))
  subst ed
  obtain ⟨a, vs, rfl, h1, h2⟩ := dv.lX (S := hid G.vol H1) (H := hid G.vol H1) (Ex.refl _)
  have ev := dvs_ints h2
  subst ev
  cases r1
  obtain ⟨its, r, pl, hz⟩ := I1.list (SqL.of (hid_le _ _ h1))
  have hlen : its.toArray.size = ns.length := by rw [List.size_toArray, ← r.length, List.length_map]
  refine call_set_list (I1.ok.hd hX.calm) pl.isList (by simpa using RZ.intsAre_vals r) (by rw [hlen]; unfold scanBound; omega) fun h' tk hS hk => ?_
  refine args_nil ?_
  rw [hlen] at hS
  have hfl := firstMet_length_le (fun i => ns.getD i 0) ns.length
  have hmem : ∀ k, k ∈ firstMet (fun i => ns.getD i 0) ns.length ↔ k ∈ ns := fun k => by
    have e := firstMet_any (fun i => ns.getD i 0) ns.length k
    have e2 : (List.range ns.length).map (fun i => ns.getD i 0) = ns := by
      apply List.ext_getElem
      · simp
      · intro i h1 h2
        simp [List.getD_eq_getElem?_getD, h2]
    rw [e2] at e
    constructor
    · intro hk
      have : (firstMet (fun i => ns.getD i 0) ns.length).any (· == k) = true := List.any_eq_true.mpr ⟨k, hk, by simp⟩
      rw [e] at this
      obtain ⟨z, hz, ez⟩ := List.any_eq_true.mp this
      simp at ez
      rw [← ez]; exact hz
    · intro hk
      have : ns.any (· == k) = true := List.any_eq_true.mpr ⟨k, hk, by simp⟩
      rw [← e] at this
      obtain ⟨z, hz, ez⟩ := List.any_eq_true.mp this
      simp at ez
      rw [← ez]; exact hz
  obtain ⟨o, es, ep, t', ho, hex, hd, _, _, _, hf, hn⟩ := hS
  have I2 : Inv X pins σ H1 { s1 with heap := h', toks := tk } := I1.kept fun b o e => hk b o (Heap.lt_size e) e
  exact call_len_set ho hex hd hf (by rw [hn] <;> omega) ⟨.int (firstMet (fun i => ns.getD i 0) ns.length).length, H1, I2.tok _, ⟨_, by rw [hn]⟩, k _ _ S1 H1 (pz _ (firstMet_nd _ _) hmem) st1 (.int _)⟩
end
end WH

set_option Elab.async false
set_option linter.all false
set_option maxRecDepth 100000
set_option maxHeartbeats 4000000
/-! Tables of sets, for more masks than the kit's own: the way of a search meets every slot. -/
namespace WH
open PySem L2

/-! ### the round of x -> 5 x + 1 over 2^n, by its closed form -/
def gp (b : Nat) : Nat := (5 ^ b - 1) / 4
theorem gp4 : ∀ b, 4 * gp b + 1 = 5 ^ b
  | 0 => rfl
  | b + 1 => by
    have ih := gp4 b
    unfold gp at ih ⊢
    rw [Nat.pow_succ]
    omega
theorem gp_step (b : Nat) : gp (b + 1) = 5 * gp b + 1 := by
  have h1 := gp4 b
  have h2 := gp4 (b + 1)
  rw [Nat.pow_succ] at h2
  omega
theorem lcg_gp (m : Nat) : ∀ b, lcgN m b = gp b % (m + 1)
  | 0 => by
    have : gp 0 = 0 := rfl
    rw [this, Nat.zero_mod]; rfl
  | b + 1 => by
    have e : lcgN m (b + 1) = (lcgN m b * 5 + 1) % (m + 1) := rfl
    rw [e, lcg_gp m b, gp_step, Nat.mul_comm 5]
    simp [Nat.add_mod, Nat.mul_mod]
/-- the slots met by the turns lo, .., lo + 2^d - 1, as bits -/
def met (M : Nat) : Nat → Nat → Nat
  | 0, lo => 2 ^ (gp lo % M)
  | d + 1, lo => met M d lo ||| met M d (lo + 2 ^ d)
theorem met_bit (M : Nat) : ∀ (d lo j : Nat), (met M d lo).testBit j = true → ∃ b, b < lo + 2 ^ d ∧ gp b % M = j
  | 0, lo, j, h => by
    refine ⟨lo, by simp, ?_⟩
    rw [met, Nat.testBit_two_pow] at h
    simpa using h
  | d + 1, lo, j, h => by
    rw [met, Nat.testBit_or, Bool.or_eq_true] at h
    rw [Nat.pow_succ]
    rcases h with h | h
    · obtain ⟨b, h1, h2⟩ := met_bit M d lo j h
      exact ⟨b, by omega, h2⟩
    · obtain ⟨b, h1, h2⟩ := met_bit M d _ j h
      exact ⟨b, by omega, h2⟩
/-- the masks of a set that grew by adding, up to 1228 members -/
def WM (m : Nat) : Prop := m = 7 ∨ m = 31 ∨ m = 127 ∨ m = 511 ∨ m = 2047
theorem met3 : met 8 3 0 = 2 ^ 8 - 1 := by decide +kernel
theorem met5 : met 32 5 0 = 2 ^ 32 - 1 := by decide +kernel
theorem met7 : met 128 7 0 = 2 ^ 128 - 1 := by decide +kernel
theorem met9 : met 512 9 0 = 2 ^ 512 - 1 := by decide +kernel
theorem met11 : met 2048 11 0 = 2 ^ 2048 - 1 := by decide +kernel
theorem met_all {m d : Nat} (e : met (m + 1) d 0 = 2 ^ (m + 1) - 1) (hd : 2 ^ d = m + 1) {j : Nat} (hj : j ≤ m) : ∃ b, b ≤ m ∧ lcgN m b = j := by
  obtain ⟨b, h1, h2⟩ := met_bit (m + 1) d 0 j (by rw [e, Nat.testBit_two_pow_sub_one]; simpa using Nat.lt_succ_of_le hj)
  exact ⟨b, by omega, by rw [lcg_gp]; exact h2⟩
theorem WM.every {m : Nat} (hm : WM m) {j : Nat} (hj : j ≤ m) : ∃ b, b ≤ m ∧ lcgN m b = j := by
  rcases hm with e | e | e | e | e <;> subst e
  · exact met_all met3 rfl hj
  · exact met_all met5 rfl hj
  · exact met_all met7 rfl hj
  · exact met_all met9 rfl hj
  · exact met_all met11 rfl hj
theorem WM.back {m : Nat} (hm : WM m) : lcgN m (m + 1) = 0 := by
  rw [lcg_gp]
  rcases hm with e | e | e | e | e <;> subst e <;> decide +kernel
theorem WM.again {m : Nat} (hm : WM m) (k : Nat) : lcgN m (m + 1 + k) = lcgN m k := by
  rw [← lcgN_add, hm.back]
  have := lcgN_add m 0 k
  rw [Nat.zero_add] at this
  exact this
theorem WM.from {m : Nat} (hm : WM m) {i j : Nat} (hi : i ≤ m) (hj : j ≤ m) : ∃ k, k ≤ m ∧ lcgI m i k = j := by
  obtain ⟨x, hx, rfl⟩ := hm.every hi
  obtain ⟨y, hy, rfl⟩ := hm.every hj
  by_cases c : x ≤ y
  · exact ⟨y - x, by omega, by rw [lcgN_add]; congr 1; omega⟩
  · refine ⟨m + 1 + y - x, by omega, ?_⟩
    rw [lcgN_add, ← hm.again y]
    congr 1; omega
theorem WM.run {m : Nat} (hm : WM m) (h : Int) {j : Nat} (hj : j ≤ m) : ∃ n, n ≤ m + 12 ∧ runI m (SetTable.bits h) n = j := by
  obtain ⟨k, hk, rfl⟩ := hm.from (runI_le m (SetTable.bits h) 12) hj
  exact ⟨12 + k, by omega, runI_tail (bits_lt h) k⟩
theorem WM.way {m : Nat} (hm : WM m) (h : Int) {j : Nat} (hj : j ≤ m) : ∃ k, k < 10 * SetTable.turns m ∧ way m h k = j := by
  obtain ⟨n, hn, e⟩ := hm.run h hj
  obtain ⟨k, hk, f⟩ := run_nth m (SetTable.bits h) n
  refine ⟨k, ?_, (congrArg SetTable.Probe.j f).trans e⟩
  show k < 10 * (m + 15)
  omega
theorem way_in (m : Nat) (h : Int) (k : Nat) : way m h k ≤ m := by
  have hi : SetTable.bits h % (m + 1) < m + 1 := Nat.mod_lt _ (Nat.succ_pos _)
  have r := runEnd_bd (Nat.le_of_lt_succ hi)
  have q := nth_in (m := m) k (runAt m (SetTable.bits h % (m + 1)) (SetTable.bits h)) (Nat.le_trans (Nat.le_of_eq (Nat.add_sub_cancel' r.2.1)) r.1)
  exact Nat.le_trans (Nat.le_add_right _ _) q

/-! ### tables -/
/-- j is the slot at which the search for h comes out, all slots ahead of it being taken -/
def OnWay (m : Nat) (pl : List Nat) (h : Int) (j : Nat) : Prop := ∃ k, way m h k = j ∧ ∀ c, c < k → way m h c ∈ pl
theorem OnWay.mono {m : Nat} {pl pl' : List Nat} {h : Int} {j : Nat} (o : OnWay m pl h j) (hs : ∀ x ∈ pl, x ∈ pl') : OnWay m pl' h j := by
  obtain ⟨k, e, z⟩ := o
  exact ⟨k, e, fun c hc => hs _ (z c hc)⟩
structure TB (t : SetTable) (hs : List Int) : Prop where
  wm : WM t.mask
  up : Ris t.place.toList
  nod : t.dummies = #[]
  len : t.place.toList.length = hs.length
  low : ∀ x ∈ t.place.toList, x ≤ t.mask
  on : ∀ (i : Nat) (h : Int) (j : Nat), hs[i]? = some h → t.place.toList[i]? = some j → OnWay t.mask t.place.toList h j
theorem TB.free {t : SetTable} {hs : List Int} (T : TB t hs) (hl : hs.length ≤ t.mask) (h : Int) :
    ∃ K, K < 10 * SetTable.turns t.mask ∧ way t.mask h K ∉ t.place.toList ∧ ∀ c, c < K → way t.mask h c ∈ t.place.toList := by
  obtain ⟨j, hj, hn⟩ := st_missing t.place.toList (t.mask + 1) (by rw [T.len]; omega)
  obtain ⟨k, hk, e⟩ := T.wm.way h (Nat.le_of_lt_succ hj)
  obtain ⟨K, h1, h2, h3⟩ := st_least (p := fun c => way t.mask h c ∉ t.place.toList) k (fun z => hn (e ▸ z))
  exact ⟨K, by omega, h2, fun c hc => Classical.not_not.mp (h3 c hc)⟩
theorem TB.ahead {t : SetTable} {hs : List Int} (T : TB t hs) {h : Int} {K i j : Nat} (hK : way t.mask h K ∉ t.place.toList) (hi : hs[i]? = some h) (hj : t.place.toList[i]? = some j) : ∃ c, c < K ∧ way t.mask h c = j := by
  obtain ⟨k, e, z⟩ := T.on i h j hi hj
  refine ⟨k, Nat.lt_of_not_le fun c => hK ?_, e⟩
  rcases Nat.lt_or_eq_of_le c with c | c
  · exact z K c
  · rw [c, e]; exact List.mem_of_getElem? hj
/-- one more is put into the slot found -/
theorem TB.put {t : SetTable} {hs : List Int} (T : TB t hs) {h : Int} {j : Nat} (hj : OnWay t.mask t.place.toList h j) (hn : j ∉ t.place.toList) :
    TB (t.put j).1 (hs.take (SetTable.below t.place j) ++ h :: hs.drop (SetTable.below t.place j)) ∧ (t.put j).1.fill = hs.length + 1 ∧ SetTable.below t.place j ≤ hs.length := by
  have hp := put_place t j
  have c1 : SetTable.below t.place j ≤ t.place.toList.length := by
    have := (below_cut T.up j).1
    rwa [Array.length_toList]
  have c2 : SetTable.below t.place j ≤ hs.length := by rw [← T.len]; exact c1
  have sub : ∀ x ∈ t.place.toList, x ∈ (t.put j).1.place.toList := fun x hx => by rw [hp]; exact mem_ins.2 (.inr hx)
  have hlen : (t.put j).1.place.toList.length = hs.length + 1 := by rw [hp, len_ins _ c1, T.len]
  have ndum := put_dm T.nod j
  refine ⟨⟨T.wm, ris_insert T.up fun e => hn (List.mem_of_getElem? (by rwa [Array.getElem?_toList])), ndum, by rw [hlen, len_ins _ c2], fun x hx => ?_, fun i g y h1 h2 => ?_⟩, ?_, c2⟩
  · rw [hp] at hx
    rcases mem_ins.1 hx with rfl | hx
    · obtain ⟨k, e, _⟩ := hj
      rw [← e]; exact way_in _ _ _
    · exact T.low x hx
  · rw [tins_get _ c2] at h1
    rw [hp, tins_get _ c1] at h2
    rcases Nat.lt_trichotomy i (SetTable.below t.place j) with c | c | c
    · rw [if_pos c] at h1 h2
      exact (T.on i g y h1 h2).mono sub
    · rw [if_neg (by omega), if_pos c] at h1 h2
      cases h1; cases h2
      exact hj.mono sub
    · rw [if_neg (by omega), if_neg (by omega)] at h1 h2
      exact (T.on _ g y h1 h2).mono sub
  · unfold SetTable.fill
    rw [← Array.length_toList, hlen, ndum]; rfl

/-! ### laid anew -/
theorem free_at {m : Nat} (hm : WM m) (owner : Array (Option Nat)) (h : Int) {j : Nat} (hj : j ≤ m) (hf : oAt owner j = none) :
    ∃ K, SetTable.layClean.free m owner (SetTable.turns m) (SetTable.bits h % (m + 1)) (SetTable.bits h) = some (way m h K) ∧ oAt owner (way m h K) = none ∧ ∀ c, c < K → oAt owner (way m h c) ≠ none := by
  obtain ⟨n, hn, e⟩ := hm.run h hj
  have hw : way m h (off m (SetTable.bits h % (m + 1)) (SetTable.bits h) n) = j := by
    unfold L2.way
    rw [nth_off, itL_run]; exact e
  obtain ⟨K, k1, k2, k3⟩ := st_least (p := fun c => oAt owner (way m h c) = none) _ (hw.symm ▸ hf)
  refine ⟨K, free_spec m owner _ n _ _ K (Nat.lt_of_le_of_lt hn (Nat.lt_of_lt_of_eq (by omega : m + 12 < m + 15) rfl)) k1 (fun c hc => ?_) ?_, k2, k3⟩
  · have q : oAt owner (way m h c) ≠ none := k3 c hc
    revert q
    show oAt owner (way m h c) ≠ none → (oAt owner (way m h c)).isNone = false
    cases oAt owner (way m h c) <;> simp
  · have q : oAt owner (way m h K) = none := k2
    show (oAt owner (way m h K)).isNone = true
    rw [q]; rfl
theorem own_next {m : Nat} (hm : WM m) {done : List Int} {owner : Array (Option Nat)} (W : Own m done owner) (hl : done.length ≤ m) (h : Int) :
    ∃ j, SetTable.layClean.free m owner (SetTable.turns m) (SetTable.bits h % (m + 1)) (SetTable.bits h) = some j ∧ Own m (done ++ [h]) (owner.setIfInBounds j (some done.length)) := by
  obtain ⟨ps, hps, hin⟩ := W.ps
  obtain ⟨f, hf, hfn⟩ := st_missing ps (m + 1) (by omega)
  have hfree : oAt owner f = none := Classical.byContradiction fun z => hfn (hin f (Nat.le_of_lt_succ hf) z)
  obtain ⟨K, e1, e2, e3⟩ := free_at hm owner h (Nat.le_of_lt_succ hf) hfree
  obtain ⟨j, hj⟩ : ∃ j, j = way m h K := ⟨_, rfl⟩
  have hjm : j ≤ m := hj ▸ way_in m h K
  rw [← hj] at e1 e2
  have self : oAt (owner.setIfInBounds j (some done.length)) j = some done.length := oAt_set_self _ (by rw [W.sz]; omega)
  have keep : ∀ i, oAt owner i ≠ none → oAt (owner.setIfInBounds j (some done.length)) i ≠ none := fun i hi => by
    rcases Classical.em (i = j) with rfl | c
    · rw [self]; simp
    · rwa [oAt_set_ne _ c]
  refine ⟨j, e1, ?_, fun y k hy e => ?_, fun k hk => ?_, ⟨j :: ps, by simp [hps], fun y hy e => ?_⟩⟩
  · rw [Array.size_setIfInBounds, W.sz]
  · rcases Classical.em (y = j) with rfl | c
    · rw [self] at e
      cases e
      exact ⟨h, K, by simp, hj.symm, fun c hc => keep _ (e3 c hc)⟩
    · rw [oAt_set_ne _ c] at e
      obtain ⟨g, L, a1, a2, a3⟩ := W.at_ y k hy e
      have hlt := (List.getElem?_eq_some_iff.mp a1).1
      exact ⟨g, L, by rw [List.getElem?_append_left hlt, a1], a2, fun c hc => keep _ (a3 c hc)⟩
  · rcases Nat.lt_or_ge k done.length with c | c
    · obtain ⟨y, hy, e⟩ := W.all k c
      refine ⟨y, hy, ?_⟩
      rwa [oAt_set_ne]
      rintro rfl
      rw [e2] at e; cases e
    · have : k = done.length := by simp at hk; omega
      exact ⟨j, hjm, this ▸ self⟩
  · rcases Classical.em (y = j) with rfl | c
    · simp
    · rw [oAt_set_ne _ c] at e
      exact List.mem_cons_of_mem _ (hin y hy e)
theorem own_fold {m : Nat} (hm : WM m) (rest : List Int) : ∀ (done : List Int) (owner : Array (Option Nat)), Own m done owner → done.length + rest.length ≤ m →
    ∃ o', rest.foldl (stepF m) (some (owner, done.length)) = some (o', (done ++ rest).length) ∧ Own m (done ++ rest) o' := by
  induction rest with
  | nil => intro done owner W _; exact ⟨owner, by simp, by simpa using W⟩
  | cons h rest ih =>
    intro done owner W hl
    simp only [List.length_cons] at hl
    obtain ⟨j, e, W2⟩ := own_next hm W (by omega) h
    obtain ⟨o', f, W3⟩ := ih _ _ W2 (by simp; omega)
    refine ⟨o', ?_, by simpa using W3⟩
    rw [List.foldl_cons, stepF_some e]
    simpa using f
theorem lay_ok {m : Nat} (hm : WM m) {hs : Array Int} (hn : hs.size ≤ m) : ∃ owner, SetTable.layClean m hs = some owner ∧ Own m hs.toList owner := by
  obtain ⟨o', f, W⟩ := own_fold hm hs.toList [] _ (Own.init m) (by simpa using hn)
  refine ⟨o', ?_, by simpa using W⟩
  rw [layClean_eq]
  simp only [List.length_nil] at f
  rw [f]; rfl
/-- a table that grows: the same members, in some order, all on their ways -/
theorem grown_ok (t : SetTable) {hs : Array Int} {wanted M : Nat} (hw : SetTable.sizeAbove wanted - 1 = M) (hM : WM M) (hn : hs.size ≤ M) :
    ∃ t' order, t.relaid hs wanted = some (t', order) ∧ order.toList.Perm (List.range hs.size) ∧ TB t' (order.toList.map fun i => hs.getD i 0) ∧ t'.mask = M ∧ t'.led = t.led ∧ t'.plain = t.plain := by
  obtain ⟨owner, e, W⟩ := lay_ok hM hn
  obtain ⟨lv, hlv⟩ : ∃ lv, lv = liveOf M owner := ⟨_, rfl⟩
  have mem : ∀ j k, (j, k) ∈ lv ↔ j ≤ M ∧ oAt owner j = some k := fun j k => hlv ▸ mem_live W.sz
  have rl : Ris (lv.map (·.1)) ∧ ∀ x ∈ lv.map (·.1), x ∈ List.range (M + 1) := by
    rw [hlv]
    exact ris_live (fun j => owner.getD j none) (List.range (M + 1)) List.pairwise_lt_range
  have nd : (lv.map (·.1)).Nodup := rl.1.imp fun h => Nat.ne_of_lt h
  have hsz : hs.toList.length = hs.size := Array.length_toList
  have len : lv.length = hs.size := by
    refine Nat.le_antisymm ?_ ?_
    · obtain ⟨ps, p1, p2⟩ := W.ps
      have a := nat_nodup_len _ ps nd fun x hx => by
        obtain ⟨⟨y, k⟩, hq, rfl⟩ := List.mem_map.mp hx
        obtain ⟨b1, b2⟩ := (mem y k).1 hq
        exact p2 y b1 (by rw [b2]; simp)
      rwa [List.length_map, p1, hsz] at a
    · have b := nat_nodup_len (List.range hs.size) (lv.map (·.2)) List.nodup_range fun k hk => by
        obtain ⟨j, b1, b2⟩ := W.all k (by rw [hsz]; exact List.mem_range.mp hk)
        exact List.mem_map.mpr ⟨(j, k), (mem j k).2 ⟨b1, b2⟩, rfl⟩
      rwa [List.length_map, List.length_range] at b
  have hr : t.relaid hs wanted = some (tabOf t M owner, (lv.map (·.2)).toArray) := by
    rw [relaid_eq, hw, e, hlv]; rfl
  have hpl : (tabOf t M owner).place.toList = lv.map (·.1) := by rw [hlv]; rfl
  refine ⟨_, _, hr, perm_range hs.size _ (by simpa using len) fun k hk => ?_, ⟨hM, by rw [hpl]; exact rl.1, rfl, by rw [hpl]; simp, fun x hx => ?_, fun i h j h1 h2 => ?_⟩, rfl, rfl, rfl⟩
  · obtain ⟨j, b1, b2⟩ := W.all k (by rw [hsz]; exact hk)
    exact List.mem_map.mpr ⟨(j, k), (mem j k).2 ⟨b1, b2⟩, rfl⟩
  · rw [hpl] at hx
    have := List.mem_range.mp (rl.2 x hx)
    show x ≤ M
    omega
  · rw [hpl, List.getElem?_map] at h2
    simp only [List.getElem?_map] at h1
    obtain ⟨⟨y, k⟩, hq, rfl⟩ := Option.map_eq_some_iff.mp h2
    rw [hq] at h1
    have eh : hs.getD k 0 = h := Option.some.inj h1
    obtain ⟨b1, b2⟩ := (mem y k).1 (List.mem_of_getElem? hq)
    obtain ⟨g, K, a1, a2, a3⟩ := W.at_ y k b1 b2
    have eg : g = h := by
      rw [← eh, Array.getD_eq_getD_getElem?, ← Array.getElem?_toList, a1]; rfl
    subst eg
    refine ⟨K, a2, fun c hc => ?_⟩
    rw [hpl]
    show way M g c ∈ _
    obtain ⟨k2, z⟩ := Option.ne_none_iff_exists'.mp (a3 c hc)
    exact List.mem_map.mpr ⟨(way M g c, k2), (mem _ _).2 ⟨way_in _ _ _, z⟩, rfl⟩
theorem above4 : SetTable.sizeAbove (SetTable.grown 5) = 32 := by decide +kernel
theorem above18 : SetTable.sizeAbove (SetTable.grown 19) = 128 := by decide +kernel
theorem above76 : SetTable.sizeAbove (SetTable.grown 77) = 512 := by decide +kernel
theorem above306 : SetTable.sizeAbove (SetTable.grown 307) = 2048 := by decide +kernel
end WH

set_option Elab.async false
set_option linter.all false
set_option maxRecDepth 100000
set_option maxHeartbeats 4000000
/-! Sets whose members are tuples of ints, or tuples of such: adding, set(..), reading. -/
namespace WH
open PySem PySem.Spec PyProof.Rows L2

/-! ### keys of numbers and tuples alone -/
mutual
def numK : NestedKey → Bool
  | .none => false
  | .num _ => true
  | .text _ => false
  | .tup ks => numKs ks
def numKs : List NestedKey → Bool
  | [] => true
  | k :: ks => numK k && numKs ks
end
section
variable {P : Program} {w : World}
def ByV (P : Program) (w : World) (n : Nat) (s : Shared) (v : Value) : Prop := ∀ (A : Around) (E : Value → Shared → Prop) (Q : Bool → Shared → Prop), Q true s → wpAny (model P w) A (hashByValue n v) Q E s
def NoC (P : Program) (w : World) (n : Nat) (s : Shared) (v : Value) : Prop := ∀ (A : Around) (E : Value → Shared → Prop) (Q : Bool → Shared → Prop), Q false s → wpAny (model P w) A (ofAClassStatement n v) Q E s
theorem byV_tup {n : Nat} {s : Shared} {a : Addr} {o : Obj} {vs : Array Value} {m : Nat} (ho : s.heap.get? a = some o) (hc : o.cls = .type "tuple") (hd : o.data = .seq vs m) (hq : ∀ v ∈ vs.toList, ByV P w n s v) : ByV P w (n + 1) s (.ref a) := fun A E Q h => by
  unfold hashByValue
  refine wpAny_bind (wpAny_specialOf (T := "tuple") ⟨o, ho, hc⟩ F.slot_tuple_hash.lookup ?_)
  show wpAny _ _ (seqItems? (.ref a) >>= _) _ _ s
  refine wpAny_bind (wpAny_seqItems ho hd (wpAny_bind ?_))
  show wpAny _ _ (forIn vs _ _) _ _ s
  rw [← Array.forIn_toList]
  refine wpAny_forIn_list _ (fun l r z => r.1 = none ∧ z = s ∧ ∀ v ∈ l, ByV P w n s v) _ (fun v l r z i => ?_) (fun r z i => ?_) _ _ ⟨rfl, rfl, hq⟩
  · obtain ⟨i1, rfl, i3⟩ := i
    refine wpAny_bind (i3 v (by simp) _ _ _ ?_)
    simp only [Bool.not_true, Bool.false_eq_true, if_false]
    exact wpAny_pure ⟨rfl, rfl, fun u hu => i3 u (by simp [hu])⟩
  · obtain ⟨r1, r2⟩ := r
    obtain ⟨i1, rfl, -⟩ := i
    cases (show r1 = none from i1)
    exact wpAny_pure h
theorem noC_tup {n : Nat} {s : Shared} {a : Addr} {o : Obj} {vs : Array Value} {m : Nat} (ho : s.heap.get? a = some o) (hc : o.cls = .type "tuple") (hd : o.data = .seq vs m) (hq : ∀ v ∈ vs.toList, NoC P w n s v) : NoC P w (n + 1) s (.ref a) := fun A E Q h => by
  unfold ofAClassStatement
  refine wpAny_bind (wpAny_typeOf (T := "tuple") ⟨o, ho, hc⟩ ?_)
  dsimp only
  rw [show (("tuple" : String) == "tuple") = true from by decide]
  simp only [if_true, Bool.not_true, Bool.false_eq_true, if_false]
  try refine wpAny_bind (wpAny_pure ?_)
  try simp only [Bool.not_true, Bool.false_eq_true, if_false]
  show wpAny _ _ (seqItems? (.ref a) >>= _) _ _ s
  refine wpAny_bind (wpAny_seqItems ho hd ?_)
  dsimp only
  refine wpAny_bind ?_
  show wpAny _ _ (forIn vs _ _) _ _ s
  rw [← Array.forIn_toList]
  refine wpAny_forIn_list _ (fun l r z => r.1 = none ∧ z = s ∧ ∀ v ∈ l, NoC P w n s v) _ (fun v l r z i => ?_) (fun r z i => ?_) _ _ ⟨rfl, rfl, hq⟩
  · obtain ⟨i1, rfl, i3⟩ := i
    refine wpAny_bind (i3 v (by simp) _ _ _ ?_)
    simp only [Bool.false_eq_true, if_false]
    exact wpAny_pure ⟨rfl, rfl, fun u hu => i3 u (by simp [hu])⟩
  · obtain ⟨r1, r2⟩ := r
    obtain ⟨i1, rfl, -⟩ := i
    cases (show r1 = none from i1)
    exact wpAny_pure h
mutual
theorem byV_key : ∀ (k : NestedKey) (v : Value) (n : Nat) (s : Shared), NestedIs s.heap k v → k.depth ≤ n → numK k = true → ByV P w n s v ∧ NoC P w n s v
  | .none, _, _, _, _, _, h => by cases h
  | .num i, _, n, s, x, _, _ => by
    cases x with
    | bool e => exact ⟨fun A E Q q => by cases n <;> exact wpAny_pure q, fun A E Q q => by cases n <;> exact wpAny_pure q⟩
    | int _ t => exact ⟨fun A E Q q => by cases n <;> exact wpAny_pure q, fun A E Q q => by cases n <;> exact wpAny_pure q⟩
  | .text _, _, _, _, _, _, h => by cases h
  | .tup ks, _, n, s, x, hn, hk => by
    cases x with
    | tup hg hc hd hx =>
      simp only [NestedKey.depth] at hn
      cases n with
      | zero => omega
      | succ n =>
        have q := byV_keys ks _ n s hx (by omega) hk
        exact ⟨byV_tup hg hc hd fun v hv => (q v hv).1, noC_tup hg hc hd fun v hv => (q v hv).2⟩
theorem byV_keys : ∀ (ks : List NestedKey) (vs : List Value) (n : Nat) (s : Shared), NestedAll s.heap ks vs → NestedKey.depthAll ks ≤ n → numKs ks = true → ∀ v ∈ vs, ByV P w n s v ∧ NoC P w n s v
  | [], _, _, _, x, _, _, v, hv => by cases x; cases hv
  | k :: ks, _, n, s, x, hn, hk, v, hv => by
    cases x with
    | cons x1 x2 =>
      simp only [NestedKey.depthAll] at hn
      simp only [numKs, Bool.and_eq_true] at hk
      rcases List.mem_cons.mp hv with rfl | hv
      · exact byV_key k _ n s x1 (by omega) hk.1
      · exact byV_keys ks _ n s x2 (by omega) hk.2 v hv
end
/-- the tuple at a is the key k -/
structure IsK (h : Heap) (k : NestedKey) (a : Addr) : Prop where
  at_ : NestedIs h k (.ref a)
  deep : k.depth ≤ 8
  num : numK k = true
theorem IsK.keep {h h' : Heap} {k : NestedKey} {a : Addr} (x : IsK h k a) (hk : ∀ b o, h.get? b = some o → h'.get? b = some o) : IsK h' k a := ⟨x.at_.at (fun b o _ _ e _ => hk b o e) k _, x.deep, x.num⟩
theorem IsK.but {h h' : Heap} {k : NestedKey} {a b : Addr} {o : Obj} {es : Array (Int × Value)} {ep : Nat} {t : SetTable} (x : IsK h k a) (ho : h.get? b = some o) (hd : o.data = .set es ep t) (hs : Heap.SameBut b h h') : IsK h' k a := by
  refine ⟨x.at_.at (fun c u vs n e d => ?_) k _, x.deep, x.num⟩
  rw [hs.2 c ?_, e]
  rintro rfl
  rw [ho] at e
  cases e
  rw [hd] at d
  cases d
theorem IsK.one {h : Heap} {k k' : NestedKey} {a : Addr} (x : IsK h k a) (y : IsK h k' a) : k = k' := NestedIs.inj _ _ _ x.at_ y.at_
theorem IsK.eqb {A : Around} {E : Value → Shared → Prop} {s : Shared} {k k' : NestedKey} {a b : Addr} {Q : Bool → Shared → Prop} (hu : A.units + 8 < cLine) (x : IsK s.heap k a) (y : IsK s.heap k' b) (h : Q (decide (k = k')) s) : wpAny (model P w) A (eqBool (.ref a) (.ref b)) Q E s :=
  (nestedKind P w).eqBool hu ⟨x.at_, x.deep⟩ ⟨y.at_, y.deep⟩ h
/-- a search among such keys shows nothing -/
theorem seen_no {A : Around} {E : Value → Shared → Prop} {s : Shared} {k : NestedKey} {a : Addr} {Q : Bool → Shared → Prop} (x : IsK s.heap k a) {ys : List Value} (hy : ∀ y ∈ ys, ∃ k' c, y = Value.ref c ∧ IsK s.heap k' c) (h : Q false s) :
    wpAny (model P w) A (searchCouldBeSeen (.ref a) ys) Q E s := by
  unfold searchCouldBeSeen
  refine wpAny_bind ?_
  refine wpAny_forIn_list _ (fun l r z => r.1 = none ∧ z = s ∧ ∀ y ∈ l, ∃ k' c, y = Value.ref c ∧ IsK s.heap k' c) _ (fun v l r z i => ?_) (fun r z i => ?_) _ _ ⟨rfl, rfl, hy⟩
  · obtain ⟨i1, rfl, i3⟩ := i
    obtain ⟨k', c, rfl, y⟩ := i3 v (by simp)
    have i4 : ∀ y ∈ l, ∃ k' c, y = Value.ref c ∧ IsK z.heap k' c := fun u hu => i3 u (by simp [hu])
    dsimp only
    by_cases hv : (a == c || (carriedByValue (.ref a) && carriedByValue (.ref c))) = true
    · exact wp_if_pos hv (wpAny_pure ⟨rfl, rfl, i4⟩)
    · refine wp_if_neg hv (wpAny_bind ((nestedKind P w).quiet ⟨x.at_, x.deep⟩ ?_))
      simp only [Bool.not_true, Bool.false_eq_true, if_false]
      refine wpAny_bind ((nestedKind P w).quiet ⟨y.at_, y.deep⟩ ?_)
      simp only [Bool.not_true, Bool.false_eq_true, if_false]
      refine wpAny_bind ((byV_key k _ 8 _ x.at_ x.deep x.num).2 _ _ _ ?_)
      simp only [Bool.false_eq_true, if_false]
      refine wpAny_bind ((byV_key k' _ 8 _ y.at_ y.deep y.num).2 _ _ _ ?_)
      simp only [Bool.false_eq_true, if_false]
      exact wpAny_pure ⟨rfl, rfl, i4⟩
  · obtain ⟨r1, r2⟩ := r
    obtain ⟨i1, rfl, -⟩ := i
    cases (show r1 = none from i1)
    exact wpAny_pure h

/-! ### the set -/
abbrev Row := Addr × NestedKey
def ent (w : World) (p : Row) : Int × Value := (p.2.hash w, .ref p.1)
structure SS (w : World) (h : Heap) (a : Addr) (L : List Row) (o : Obj) (es : Array (Int × Value)) (ep : Nat) (t : SetTable) : Prop where
  get : h.get? a = some o
  exact : o.ExactSet
  dat : o.data = .set es ep t
  row : es.toList = L.map (ent w)
  tb : TB t (L.map fun p => p.2.hash w)
  nd : (L.map (·.2)).Nodup
  key : ∀ p ∈ L, IsK h p.2 p.1
  led : w.params.followText "set-order" = true ∨ t.led = true
  room : L.length * 5 < t.mask * 3
theorem SS.size {h : Heap} {a : Addr} {L : List Row} {o : Obj} {es : Array (Int × Value)} {ep : Nat} {t : SetTable} (R : SS w h a L o es ep t) : es.size = L.length := by
  have := congrArg List.length R.row
  simpa using this
theorem SS.plen {h : Heap} {a : Addr} {L : List Row} {o : Obj} {es : Array (Int × Value)} {ep : Nat} {t : SetTable} (R : SS w h a L o es ep t) : t.place.toList.length = L.length := by
  rw [R.tb.len, List.length_map]
theorem fits_of {t : SetTable} {n : Nat} (h1 : t.place.toList.length = n) (h2 : t.dummies = #[]) (h3 : n ≤ t.mask) : t.fits n = true := by
  unfold SetTable.fits SetTable.fill
  rw [Array.length_toList] at h1
  rw [h2, h1]
  simpa using h3
theorem SS.fits {h : Heap} {a : Addr} {L : List Row} {o : Obj} {es : Array (Int × Value)} {ep : Nat} {t : SetTable} (R : SS w h a L o es ep t) : t.fits es.size = true := by
  rw [R.size]
  exact fits_of R.plen R.tb.nod (by have := R.room; omega)
theorem SS.ent {h : Heap} {a : Addr} {L : List Row} {o : Obj} {es : Array (Int × Value)} {ep : Nat} {t : SetTable} (R : SS w h a L o es ep t) {i : Nat} {p : Row} (hp : L[i]? = some p) : es[i]? = some (WH.ent w p) := by
  rw [← Array.getElem?_toList, R.row, List.getElem?_map, hp]; rfl
theorem SS.odd {h : Heap} {a : Addr} {L : List Row} {o : Obj} {es : Array (Int × Value)} {ep : Nat} {t : SetTable} (R : SS w h a L o es ep t) : ¬ t.gaveWay = true := by
  unfold SetTable.gaveWay
  rcases R.tb.wm with e | e | e | e | e <;> rw [e] <;> decide
end

section
variable {P : Program} {w : World} {A : Around} {E : Value → Shared → Prop} {s : Shared} {a : Addr} {L : List Row} {o : Obj} {es : Array (Int × Value)} {ep : Nat} {t : SetTable}
theorem nodum (m : Nat) : ∀ (n : Nat) (p : SetTable.Probe), p.dummy = none → (nth m p n).dummy = none
  | 0, _, h => h
  | n + 1, p, h => nodum m n (adv m p) (by unfold adv; split <;> exact h)
/-- from the c-th step of the way on -/
theorem s_from (R : SS w s.heap a L o es ep t) {x : Addr} {k : NestedKey} (hx : IsK s.heap k x) (hu : A.units + 8 < cLine) {K : Nat} (k1 : K < 10 * SetTable.turns t.mask) (k2 : way t.mask (k.hash w) K ∉ t.place.toList)
    (k3 : ∀ c, c < K → way t.mask (k.hash w) c ∈ t.place.toList) {Q : SetFound → Shared → Prop} (hin : k ∈ L.map (·.2) → Q (.there none) s) (hout : k ∉ L.map (·.2) → Q (.free (way t.mask (k.hash w) K) false) s) :
    ∀ (f c : Nat) (st : Option SetTable.Probe), st.getD (t.probeStart (k.hash w)) = nth t.mask (t.probeStart (k.hash w)) c → c ≤ K → K < c + f →
      (∀ d, d < c → ∀ (i : Nat) p, L[i]? = some p → t.place.toList[i]? = some (way t.mask (k.hash w) d) → p.2 ≠ k) →
      wpAny (model P w) A (setSearchFrom a (.ref x) (k.hash w) true f st) Q E s := by
  intro f
  induction f with
  | zero => intro c st _ h1 h2; omega
  | succ f ih =>
    intro c st hst hc hf hpass
    have sh : ∀ q, (nth t.mask (nth t.mask (t.probeStart (k.hash w)) c) q).j = way t.mask (k.hash w) (c + q) := fun q => by
      rw [← nth_add]; rfl
    have hat : ∀ (i : Nat) p, L[i]? = some p → (es[i]?.map (·.1)).getD 0 = p.2.hash w := fun i p hp => by
      rw [R.ent hp]; rfl
    rw [setSearchFrom_succ]
    refine wpAny_bind (wpAny_setState_of R.get R.dat R.fits ?_)
    dsimp only
    refine wp_if_neg R.odd ?_
    try refine wpAny_bind (wpAny_pure ?_)
    rw [hst]
    rcases go_spec t R.tb.up R.tb.nod (fun i => (es[i]?.map (·.1)).getD 0) (k.hash w) (10 * SetTable.turns t.mask) (K - c) _ (nodum t.mask c (t.probeStart (k.hash w)) rfl) (by omega)
      (fun q hq => by rw [sh]; exact k3 _ (by omega)) (by rw [sh]; rwa [Nat.add_sub_cancel' hc]) with ⟨q, i, hq, hi, hh, hno, hpr⟩ | ⟨hno, hpr⟩
    · -- one of the same hash
      rw [show t.probe (fun i => (es[i]?.map (·.1)).getD 0) (k.hash w) (nth t.mask (t.probeStart (k.hash w)) c) = _ from hpr]
      dsimp only
      rw [sh] at hi
      have hil : i < L.length := by
        rw [← R.plen]; exact (List.getElem?_eq_some_iff.mp hi).1
      obtain ⟨p, hp⟩ : ∃ p, L[i]? = some p := ⟨_, List.getElem?_eq_getElem hil⟩
      have hm : p ∈ L := List.mem_of_getElem? hp
      have body : wpAny (model P w) A (searchRest a (.ref x) (k.hash w) true f es t (nth t.mask (nth t.mask (t.probeStart (k.hash w)) c) q).j i (nth t.mask (nth t.mask (t.probeStart (k.hash w)) c) (q + 1))) Q E s := by
        unfold searchRest
        rw [R.ent hp]
        dsimp only [WH.ent]
        refine wpAny_bind (wpAny_holding ((R.key p hm).eqb hu hx (wpAny_bind (wpAny_setState_of R.get R.dat R.fits ?_))))
        dsimp only
        by_cases e : p.2 = k
        · exact wp_if_pos (by simp [e]) (wpAny_pure (hin (List.mem_map.mpr ⟨p, hm, e⟩)))
        · refine wp_if_neg (by simp [e]) ?_
          try refine wpAny_bind (wpAny_pure ?_)
          rw [sameMem, sh]
          dsimp only
          have live : t.slot (way t.mask (k.hash w) (c + q)) = .live i := slot_live R.tb.up hi
          simp only [if_true, live, R.ent hp, WH.ent]
          refine wpAny_bind (wpAny_isSame_ref_self (wpAny_bind (wpAny_pure ?_)))
          simp only [if_true]
          refine wp_if_neg (by simp [e]) (ih (c + (q + 1)) _ ?_ (by omega) (by omega) fun d hd i0 p0 h0 hw0 e0 => ?_)
          · show nth t.mask (nth t.mask (t.probeStart (k.hash w)) c) (q + 1) = _
            rw [← nth_add]
          · rcases Nat.lt_or_ge d c with z | z
            · exact hpass d z i0 p0 h0 hw0 e0
            · rcases Nat.lt_or_ge d (c + q) with y | y
              · exact hno (d - c) i0 (by omega) (by rw [sh, Nat.add_sub_cancel' z]; exact hw0) ((hat i0 p0 h0).trans (by rw [e0]))
              · have ed : d = c + q := by omega
                subst ed
                have := slot_live R.tb.up hw0
                rw [live] at this
                cases this
                rw [hp] at h0
                cases h0
                exact e e0
      by_cases hl : t.led = true
      · refine wp_if_neg (by simp [hl]) ?_
        try refine wpAny_bind (wpAny_pure ?_)
        exact body
      · refine wp_if_pos (by simp [hl]) (wpAny_bind (seen_no hx (fun y hy => ?_) (wp_if_neg (by decide) ?_)))
        · obtain ⟨e, he, rfl⟩ := List.mem_map.mp hy
          have he1 : e ∈ es.toList := by
            have : e ∈ es ∧ e.1 = k.hash w := by simpa using he
            simpa using this.1
          rw [R.row] at he1
          obtain ⟨p2, hp2, rfl⟩ := List.mem_map.mp he1
          exact ⟨p2.2, p2.1, rfl, R.key p2 hp2⟩
        · try refine wpAny_bind (wpAny_pure ?_)
          exact body
    · -- the empty slot
      rw [show t.probe (fun i => (es[i]?.map (·.1)).getD 0) (k.hash w) (nth t.mask (t.probeStart (k.hash w)) c) = _ from hpr]
      dsimp only
      rw [sh, Nat.add_sub_cancel' hc]
      refine wpAny_pure (hout fun hm => ?_)
      obtain ⟨p0, m0, e0⟩ := List.mem_map.mp hm
      obtain ⟨i0, h0⟩ := List.getElem?_of_mem m0
      have hlt : i0 < t.place.toList.length := by
        rw [R.plen]; exact (List.getElem?_eq_some_iff.mp h0).1
      have hj := List.getElem?_eq_getElem hlt
      obtain ⟨d, d1, d2⟩ := R.tb.ahead k2 (i := i0) (by rw [List.getElem?_map, h0]; exact congrArg (fun z => some (NestedKey.hash w z)) e0) hj
      rw [← d2] at hj
      rcases Nat.lt_or_ge d c with z | z
      · exact hpass d z i0 p0 h0 hj e0
      · exact hno (d - c) i0 (by omega) (by rw [sh, Nat.add_sub_cancel' z]; exact hj) ((hat i0 p0 h0).trans (by rw [e0]))
theorem s_find (R : SS w s.heap a L o es ep t) {x : Addr} {k : NestedKey} (hx : IsK s.heap k x) (hu : A.units + 8 < cLine) {Q : SetFound → Shared → Prop} (hin : k ∈ L.map (·.2) → Q (.there none) s)
    (hout : ∀ j, k ∉ L.map (·.2) → j ∉ t.place.toList → OnWay t.mask t.place.toList (k.hash w) j → Q (.free j false) s) : wpAny (model P w) A (setSearch a (.ref x) (k.hash w) true) Q E s := by
  have hr := R.room
  obtain ⟨K, k1, k2, k3⟩ := R.tb.free (by rw [List.length_map]; omega) (k.hash w)
  refine s_from R hx hu k1 k2 k3 hin (fun hn => hout _ hn k2 ⟨K, rfl, k3⟩) 100000 0 none rfl (Nat.zero_le _) ?_ fun d hd => absurd hd (Nat.not_lt_zero _)
  have : 10 * SetTable.turns t.mask ≤ 20620 := by
    show 10 * (t.mask + 15) ≤ 20620
    rcases R.tb.wm with e | e | e | e | e <;> omega
  omega
theorem in_order {α β : Type} (d : α) (f : α → β) (L : List α) (es : Array β) (order : Array Nat) (hr : es.toList = L.map f) (hp : order.toList.Perm (List.range L.length)) :
    (order.filterMap (es[·]?)).toList = (order.toList.map fun i => L.getD i d).map f ∧ (order.toList.map fun i => L.getD i d).Perm L := by
  have hat : ∀ i, i < L.length → es[i]? = some (f (L.getD i d)) := fun i hi => by
    rw [← Array.getElem?_toList, hr, List.getElem?_map, List.getD_eq_getElem?_getD, List.getElem?_eq_getElem hi]; rfl
  constructor
  · have : ∀ l : List Nat, (∀ i ∈ l, i < L.length) → l.filterMap (fun i => es[i]?) = (l.map fun i => L.getD i d).map f := fun l => by
      induction l with
      | nil => intro _; rfl
      | cons i l ih =>
        intro hl
        rw [List.filterMap_cons_some (hat i (hl i (by simp))), ih fun j hj => hl j (by simp [hj])]; rfl
    rw [← this _ fun i hi => List.mem_range.mp (hp.mem_iff.mp hi)]
    simp
  · refine (hp.map _).trans (List.Perm.of_eq ?_)
    refine List.ext_getElem (by simp) fun i h1 h2 => ?_
    simp [List.getD_eq_getElem?_getD, List.getElem?_eq_getElem h2]
/-- the table laid anew, larger -/
theorem s_relay (g1 : s.heap.get? a = some o) (g2 : o.ExactSet) (g3 : o.data = .set es ep t) (row : es.toList = L.map (ent w)) (pl : t.place.toList.length = L.length) (nod : t.dummies = #[]) (fl : L.length ≤ t.mask) (nd : (L.map (·.2)).Nodup)
    (key : ∀ p ∈ L, IsK s.heap p.2 p.1) (led : w.params.followText "set-order" = true ∨ t.led = true) {wanted M : Nat} (hw : SetTable.sizeAbove wanted = M + 1) (hM : WM M) (hn : L.length * 5 < M * 3) {Q : Unit → Shared → Prop}
    (hQ : ∀ h' L' o' es' ep' t', Heap.SameBut a s.heap h' → SS w h' a L' o' es' ep' t' → L'.Perm L → Q () { s with heap := h' }) : wpAny (model P w) A (setRelay a wanted) Q E s := by
  have hsz : es.size = L.length := by
    have := congrArg List.length row
    simpa using this
  obtain ⟨t', order, r1, r2, r3, r4, r5, -⟩ := grown_ok t (hs := es.map (·.1)) (wanted := wanted) (M := M) (by omega) hM (by rw [Array.size_map, hsz]; omega)
  rw [Array.size_map, hsz] at r2
  obtain ⟨q1, q2⟩ := in_order ((0, NestedKey.none) : Row) (ent w) L es order row r2
  have q3 : ((order.toList.map fun i => L.getD i (0, NestedKey.none)).map fun p => p.2.hash w) = order.toList.map fun i => (es.map (·.1)).getD i 0 := by
    rw [List.map_map]
    refine List.map_congr_left fun i hi => ?_
    have hi2 : i < L.length := List.mem_range.mp (r2.mem_iff.mp hi)
    have : (es.map (·.1))[i]? = some ((L[i]).2.hash w) := by
      rw [Array.getElem?_map, ← Array.getElem?_toList, row, List.getElem?_map, List.getElem?_eq_getElem hi2]; rfl
    simp [Array.getD_eq_getD_getElem?, this, List.getElem?_eq_getElem hi2]
  rw [← q3] at r3
  generalize (order.toList.map fun i => L.getD i (0, NestedKey.none)) = L2 at q1 q2 r3
  generalize hes : order.filterMap (es[·]?) = es2 at q1
  have hs2 : es2.size = es.size := by
    have := congrArg List.length q1
    rw [hsz, ← q2.length_eq]
    simpa using this
  have hM2 : M ≤ 2047 := by rcases hM with e | e | e | e | e <;> omega
  rw [setRelay_eq]
  refine wpAny_bind (wpAny_setState_of g1 g3 (by rw [hsz]; exact fits_of pl nod fl) ?_)
  dsimp only
  refine wp_if_neg (by rw [hw, sizeLine_eq]; omega) ?_
  try refine wpAny_bind (wpAny_pure ?_)
  rw [r1]
  dsimp only
  rw [hes]
  refine wpAny_bind (wp_if_neg (by rw [hs2]; simp) ?_)
  try refine wpAny_bind (wpAny_pure ?_)
  refine wpAny_pure (wpAny_storeSet_of g1 g3 ?_ (by rw [hs2, hsz, sizeLine_eq]; omega))
  have sb : Heap.SameBut a s.heap (s.heap.update a (Obj.putSet es2 t')) := Heap.SameBut.update ..
  exact hQ _ L2 _ es2 (ep + 1) t' sb ⟨store_at g1 g3, ⟨g2.1, g2.2.1, g2.2.2⟩, rfl, q1, r3, (q2.map _).nodup_iff.mpr nd, fun p hp => (key p (q2.mem_iff.mp hp)).but g1 g3 sb, by rw [r5]; exact led, by rw [q2.length_eq, r4]; exact hn⟩ q2
/-- one more, if it isn't there -/
theorem s_add (R : SS w s.heap a L o es ep t) {x : Addr} {k : NestedKey} (hx : IsK s.heap k x) (hu : A.units + 8 < cLine) (hfew : L.length < 1200) {Q : Bool → Shared → Prop}
    (hQ : ∀ b h' L' o' es' ep' t', Heap.SameBut a s.heap h' → SS w h' a L' o' es' ep' t' → (k ∈ L.map (·.2) ∧ L' = L ∨ k ∉ L.map (·.2) ∧ L'.Perm ((x, k) :: L)) → Q b { s with heap := h' }) :
    wpAny (model P w) A (setAddHashed a (.ref x) (k.hash w)) Q E s := by
  have hroom := R.room
  unfold setAddHashed
  refine wpAny_holding ?_
  rw [show (100000 : Nat) = 99999 + 1 from rfl, setAddHashedIn_succ]
  refine wpAny_bind (wpAny_setState_of R.get R.dat R.fits ?_)
  dsimp only
  refine wp_if_neg (by simp [byScan, Value.scannable]) ?_
  try refine wpAny_bind (wpAny_pure ?_)
  refine wpAny_bind (s_find R hx hu (fun hm => ?_) fun j hm hj hon => ?_)
  · dsimp only
    exact wpAny_pure (hQ false s.heap L o es ep t (Heap.SameBut.refl a s.heap) R (.inl ⟨hm, rfl⟩))
  dsimp only
  refine wpAny_bind (wpAny_setState_of R.get R.dat R.fits ?_)
  dsimp only
  obtain ⟨q1, q2, q3⟩ := R.tb.put hon hj
  have q4 : (t.put j).1.mask = t.mask := rfl
  have q5 : (t.put j).1.led = t.led := rfl
  have q6 : (t.put j).2 = SetTable.below t.place j := rfl
  generalize hpt : t.put j = pt at q1 q2 q4 q5 q6 ⊢
  obtain ⟨t1, n⟩ := pt
  dsimp only at q1 q2 q4 q5 q6 ⊢
  rw [← q6] at q1 q3
  clear q6 hpt
  rw [List.length_map] at q2 q3
  have pm : (L.take n ++ (x, k) :: L.drop n).Perm ((x, k) :: L) := put_perm L n (x, k)
  have row1 : (SetTable.insertAt es n (k.hash w, Value.ref x)).toList = (L.take n ++ (x, k) :: L.drop n).map (ent w) := by
    rw [SetTable.toList_insertAt, R.row]; simp [ent]
  have tb1 : TB t1 ((L.take n ++ (x, k) :: L.drop n).map fun p => p.2.hash w) := by
    have : ((L.take n ++ (x, k) :: L.drop n).map fun p => p.2.hash w) = (L.map fun p => p.2.hash w).take n ++ k.hash w :: (L.map fun p => p.2.hash w).drop n := by simp
    rw [this]; exact q1
  have nd1 : ((L.take n ++ (x, k) :: L.drop n).map (·.2)).Nodup := (pm.map _).nodup_iff.mpr (by rw [List.map_cons]; exact List.nodup_cons.mpr ⟨hm, R.nd⟩)
  have len1 : (L.take n ++ (x, k) :: L.drop n).length = L.length + 1 := pm.length_eq
  generalize SetTable.insertAt es n (k.hash w, Value.ref x) = es1 at row1 ⊢
  generalize L.take n ++ (x, k) :: L.drop n = L1 at pm row1 tb1 nd1 len1
  have sz1 : es1.size = L.length + 1 := by
    have := congrArg List.length row1
    rw [← len1]; simpa using this
  have go : wpAny (model P w) A (do
      storeSet a es1 t1
      if !false && t1.tooFull then setRelay a (SetTable.grown (es.size + 1))
      return true) Q E s := by
    refine wpAny_bind (wpAny_storeSet_of R.get R.dat ?_ (by rw [sz1, sizeLine_eq]; omega))
    have sb : Heap.SameBut a s.heap (s.heap.update a (Obj.putSet es1 t1)) := Heap.SameBut.update ..
    have get1 := store_at (es' := es1) (t' := t1) R.get R.dat
    generalize s.heap.update a (Obj.putSet es1 t1) = h1 at sb get1 ⊢
    have key1 : ∀ p ∈ L1, IsK h1 p.2 p.1 := fun p hp => by
      rcases List.mem_cons.mp (pm.mem_iff.mp hp) with rfl | hp
      · exact hx.but R.get R.dat sb
      · exact (R.key p hp).but R.get R.dat sb
    have led1 : w.params.followText "set-order" = true ∨ t1.led = true := by rw [q5]; exact R.led
    have pl1 : t1.place.toList.length = L1.length := by rw [tb1.len, List.length_map]
    by_cases hf : t1.tooFull = true
    · have full : (L.length + 1) * 5 ≥ t1.mask * 3 := by
        have := hf
        unfold SetTable.tooFull at this
        rw [decide_eq_true_eq, q2] at this
        exact this
      have step : ∃ M, SetTable.sizeAbove (SetTable.grown (es.size + 1)) = M + 1 ∧ WM M ∧ L1.length * 5 < M * 3 := by
        rw [R.size, len1]
        rw [q4] at full
        rcases R.tb.wm with e | e | e | e | e <;> rw [e] at full hroom
        · have : L.length = 4 := by omega
          exact ⟨31, by rw [this]; exact above4, .inr (.inl rfl), by omega⟩
        · have : L.length = 18 := by omega
          exact ⟨127, by rw [this]; exact above18, .inr (.inr (.inl rfl)), by omega⟩
        · have : L.length = 76 := by omega
          exact ⟨511, by rw [this]; exact above76, .inr (.inr (.inr (.inl rfl))), by omega⟩
        · have : L.length = 306 := by omega
          exact ⟨2047, by rw [this]; exact above306, .inr (.inr (.inr (.inr rfl))), by omega⟩
        · omega
      obtain ⟨M, m1, m2, m3⟩ := step
      have fl1 : L1.length ≤ t1.mask := by rw [len1, q4]; rcases R.tb.wm with e | e | e | e | e <;> rw [e] at hroom ⊢ <;> omega
      have rel : wpAny (model P w) A (setRelay a (SetTable.grown (es.size + 1))) (fun _ s' => wpAny (model P w) A (pure true) Q E s') E { s with heap := h1 } :=
        s_relay (s := { s with heap := h1 }) get1 ⟨R.exact.1, R.exact.2.1, R.exact.2.2⟩ rfl row1 pl1 tb1.nod fl1 nd1 key1 led1 m1 m2 m3 fun h2 L2 o2 es2 ep2 t2 sb2 R2 pm2 =>
          wpAny_pure (hQ true h2 L2 o2 es2 ep2 t2 (sb.trans sb2) R2 (.inr ⟨hm, pm2.trans pm⟩))
      first
        | exact wpAny_bind (wp_if_pos (by simp [hf]) rel)
        | exact wp_if_pos (by simp [hf]) (wpAny_bind rel)
    · have low : L1.length * 5 < t1.mask * 3 := by
        have := hf
        unfold SetTable.tooFull at this
        rw [decide_eq_true_eq, q2] at this
        rw [len1]; omega
      have fin : wpAny (model P w) A (pure true) Q E { s with heap := h1 } :=
        wpAny_pure (hQ true h1 L1 _ es1 (ep + 1) t1 sb ⟨get1, ⟨R.exact.1, R.exact.2.1, R.exact.2.2⟩, rfl, row1, tb1, nd1, key1, led1, low⟩ (.inr ⟨hm, pm⟩))
      first
        | exact wp_if_neg (by simp [hf]) fin
        | exact wpAny_bind (wp_if_neg (by simp [hf]) (wpAny_pure fin))
  by_cases hp1 : t1.plain = true
  · first
      | refine wpAny_bind (wp_if_pos hp1 ((byV_key k _ 8 _ hx.at_ hx.deep hx.num).1 _ _ _ ?_))
      | refine wp_if_pos hp1 (wpAny_bind ((byV_key k _ 8 _ hx.at_ hx.deep hx.num).1 _ _ _ ?_))
    simp only [if_true]
    exact go
  · first
      | refine wpAny_bind (wp_if_neg hp1 (wpAny_pure ?_))
      | refine wp_if_neg hp1 ?_
    try refine wpAny_bind (wpAny_pure ?_)
    try simp only [if_true]
    exact go
end
end WH

set_option Elab.async false
set_option linter.all false
set_option maxRecDepth 100000
set_option maxHeartbeats 4000000
namespace WH
open PySem PySem.Spec PyProof.Rows L2

/-! ### set(xs) -/
/-- what the set has of the first i -/
structure Gt (ks : List Row) (i : Nat) (L : List Row) : Prop where
  frm : ∀ p ∈ L, p ∈ ks.take i
  every : ∀ p ∈ ks.take i, p.2 ∈ L.map (·.2)
  le : L.length ≤ i
theorem Gt.next {ks L L' : List Row} {i : Nat} {x : Row} (g : Gt ks i L) (h : ks[i]? = some x) (c : x.2 ∈ L.map (·.2) ∧ L' = L ∨ x.2 ∉ L.map (·.2) ∧ L'.Perm (x :: L)) : Gt ks (i + 1) L' := by
  have e : ks.take (i + 1) = ks.take i ++ [x] := by rw [List.take_add_one, h]; rfl
  have split : ∀ p, p ∈ ks.take (i + 1) ↔ p ∈ ks.take i ∨ p = x := fun p => by rw [e]; simp
  rcases c with ⟨c1, rfl⟩ | ⟨c1, c2⟩
  · refine ⟨fun p hp => (split p).2 (.inl (g.frm p hp)), fun p hp => ?_, Nat.le_succ_of_le g.le⟩
    rcases (split p).1 hp with z | rfl
    · exact g.every p z
    · exact c1
  · refine ⟨fun p hp => (split p).2 ?_, fun p hp => ?_, by rw [c2.length_eq]; exact Nat.succ_le_succ g.le⟩
    · rcases List.mem_cons.mp (c2.mem_iff.mp hp) with z | z
      · exact .inr z
      · exact .inl (g.frm p z)
    · rw [(c2.map _).mem_iff, List.map_cons]
      rcases (split p).1 hp with z | rfl
      · exact List.mem_cons_of_mem _ (g.every p z)
      · exact List.mem_cons_self
section
variable {P : Program} {w : World} {A : Around} {E : Value → Shared → Prop} {s : Shared}
theorem SS.keep {h h' : Heap} {a : Addr} {L : List Row} {o : Obj} {es : Array (Int × Value)} {ep : Nat} {t : SetTable} (R : SS w h a L o es ep t) (ha : h'.get? a = some o) (ht : ∀ p ∈ L, IsK h' p.2 p.1) : SS w h' a L o es ep t :=
  ⟨ha, R.exact, R.dat, R.row, R.tb, R.nd, ht, R.led, R.room⟩
abbrev newSet0 (w : World) : Obj := { cls := .type "set", dict := none, data := .set #[] 0 (.fresh 0 0 (!w.params.followText "set-order")) }
theorem SS.new {h : Heap} {a : Addr} (ho : h.get? a = some (newSet0 w)) : SS w h a [] (newSet0 w) #[] 0 (.fresh 0 0 (!w.params.followText "set-order")) where
  get := ho
  exact := ⟨rfl, rfl, rfl⟩
  dat := rfl
  row := rfl
  tb := ⟨.inl rfl, List.Pairwise.nil, rfl, rfl, (fun x hx => by cases hx), (fun i h j hi => by simp at hi)⟩
  nd := List.nodup_nil
  key := fun p hp => by cases hp
  led := by
    show _ ∨ (!w.params.followText "set-order") = true
    cases w.params.followText "set-order" <;> simp
  room := show 0 * 5 < 7 * 3 by decide
theorem s_loop {I : Addr} {fp wr : List Addr} {G : Array GenState → Array GenState → Prop} {n : Nat} {Pv : Nat → Value → Prop} {St : Nat → Shared → Prop} {R : Result → Shared → Prop}
    (W : WalksS P w A.in1 I fp wr G n Pv St) {S : Addr} (hS : S ∉ fp) {ks : List Row} (hn : ks.length = n) (few : n ≤ 1200) (val : ∀ i v, Pv i v → ∃ p, ks[i]? = some p ∧ v = .ref p.1)
    {h0 : Heap} (hk : ∀ p ∈ ks, IsK h0 p.2 p.1) (h0S : h0.get? S = none) (h0w : ∀ b ∈ wr, h0.get? b = none) (hu : A.units + 16 < cLine) (m : Nat) :
    ∀ (i : Nat) (s : Shared), i + m = n → St i s → (∀ b o, h0.get? b = some o → s.heap.get? b = some o) → (∃ L o es ep t, SS w s.heap S L o es ep t ∧ Gt ks i L) →
      (∀ s' L o es ep t, Moved (S :: wr) G s s' → SS w s'.heap S L o es ep t → Gt ks n L → (∀ b o, h0.get? b = some o → s'.heap.get? b = some o) → R (.ok (.ret .none)) s') →
      codeAny (model P w) A (.builtin "set.update.loop" ⟨[.ref S, .ref I], []⟩) R s := by
  have Sw : S ∉ wr := fun z => hS (W.sub _ z)
  have wider : ∀ b ∈ wr, b ∈ S :: wr := fun b z => List.mem_cons_of_mem _ z
  have stays : ∀ {x y : Shared}, Moved wr G x y → (∀ b o, h0.get? b = some o → x.heap.get? b = some o) → ∀ b o, h0.get? b = some o → y.heap.get? b = some o := fun mv kp b o e =>
    mv.heap b o (fun z => by rw [h0w b z] at e; cases e) (kp b o e)
  induction m with
  | zero =>
    intro i s him st kp ⟨L, o, es, ep, t, sS, g⟩ hR
    obtain rfl : i = n := him
    refine codeAny_builtin F.entry_set_update_loop ?_
    rw [Around.under_plainId F.plain_set_update_loop _]
    show wpAny _ A.in1 (pyNext (.ref I) >>= _) _ _ s
    refine wpAny_bind (W.done s _ _ st fun s' mv => wpAny_pure (hR s' L o es ep t (mv.mono wider) (sS.keep (mv.heap S o Sw sS.get) fun p hp => (hk p (List.mem_of_mem_take (g.frm p hp))).keep (stays mv kp)) g (stays mv kp)))
  | succ m ih =>
    intro i s him st kp ⟨L, o, es, ep, t, sS, g⟩ hR
    refine codeAny_builtin F.entry_set_update_loop ?_
    rw [Around.under_plainId F.plain_set_update_loop _]
    show wpAny _ A.in1 (pyNext (.ref I) >>= _) _ _ s
    refine wpAny_bind (W.item i s _ _ (by omega) st fun v s' hP st' mv => ?_)
    obtain ⟨p, hp, rfl⟩ := val i v hP
    have kp1 := stays mv kp
    have sS1 : SS w s'.heap S L o es ep t := sS.keep (mv.heap S o Sw sS.get) fun q hq => (hk q (List.mem_of_mem_take (g.frm q hq))).keep kp1
    have hx : IsK s'.heap p.2 p.1 := (hk p (List.mem_of_getElem? hp)).keep kp1
    show wpAny _ A.in1 (holding [Value.ref p.1] (setAdd S (.ref p.1)) >>= _) _ _ s'
    refine wpAny_bind (wpAny_holding ?_)
    unfold setAdd
    have hu1 : A.in1.units + 8 < cLine := by rw [Around.in1_units]; omega
    refine wpAny_holding (wpAny_bind ((nestedKind P w).pyHash (k := p.2) hu1 ⟨hx.at_, hx.deep⟩ ?_))
    refine s_add (s := { s' with toks := s'.toks + p.2.draws }) sS1 hx hu1 (by have := g.le; omega) fun b h' L' o' es' ep' t' sb sS2 c => ?_
    have kp2 : ∀ b o, h0.get? b = some o → h'.get? b = some o := fun b o e => by
      rw [sb.2 b fun z => by rw [z, h0S] at e; cases e]
      exact kp1 b o e
    refine wpAny_pure ⟨plainId_quiet F.plain_set_update_loop _, ih (i + 1) _ (by omega) (W.frame _ s' _ _ st' (Nat.le_add_right _ _) fun b hb o e => ?_) kp2 ⟨L', o', es', ep', t', sS2, g.next hp c⟩ fun s2 L2 o2 es2 ep2 t2 mv2 sS3 g3 kp3 => ?_⟩
    · rw [sb.2 b fun z : b = S => hS (z ▸ hb)]; exact e
    · refine hR s2 L2 o2 es2 ep2 t2 (Moved.trans W.gtrans ((mv.mono wider).then_heap (Nat.le_add_right _ _) fun b o hb e => ?_) mv2) sS3 g3 kp3
      rw [sb.2 b fun z : b = S => hb (by rw [z]; exact List.mem_cons_self)]; exact e

/-! the call of set -/
structure Src (P : Program) (w : World) (l : Addr) (T : String) (items : Array Value) (itO : Obj) (St : Addr → Nat → Heap → Prop) : Prop where
  ns : isSubtype (.type T) (.type "set") = pure false
  nf : isSubtype (.type T) (.type "frozenset") = pure false
  nd : (Value.type T == Value.type "dict") = false
  iter : ∀ {A : Around} {E : Value → Shared → Prop} {s : Shared} {o : Obj} {n : Nat} {Q : Value → Shared → Prop}, s.heap.get? l = some o → o.cls = .type T → o.data = .seq items n → Q (.ref s.heap.objs.size) { s with heap := s.heap.push itO } → wpAny (model P w) A (pyIter (.ref l)) Q E s
  walk : ∀ {A : Around}, A.handled = none → ∀ I, l ≠ I → Walks P w A I [I, l] [I] items.size (fun i v => items[i]? = some v) (St I)
  start : ∀ {h : Heap} {I : Addr} {o : Obj} {n : Nat}, h.get? I = some itO → h.get? l = some o → o.cls = .type T → o.data = .seq items n → St I 0 h
  lays : ∀ h : Heap, (h.push itO).get? h.objs.size = some itO
theorem src_list (l : Addr) (items : Array Value) : Src P w l "list" items { cls := .type "list_iterator", data := .fields #[.ref l, .int 0 0] } (fun I i h => h.IsListIter I l i ∧ h.IsList l items) where
  ns := F.sub_list_set
  nf := F.sub_list_frozenset
  nd := by decide
  iter := fun h1 h2 h3 q => wpAny_pyIter_list ⟨_, h1, h2, _, h3⟩ q
  walk := fun hh I hne => Walks.list hh I l hne items
  start := fun h1 h2 h3 h4 => ⟨⟨_, h1, rfl, rfl⟩, _, h2, h3, _, h4⟩
  lays := fun h => Heap.get?_push_size _ rfl
theorem tup_set : isSubtype (.type "tuple") (.type "set") = pure false := by rw [isSubtype_type]; kernel_rfl
theorem tup_fset : isSubtype (.type "tuple") (.type "frozenset") = pure false := by rw [isSubtype_type]; kernel_rfl
theorem src_tuple (l : Addr) (items : Array Value) : Src P w l "tuple" items { cls := .type "tuple_iterator", data := .fields #[.ref l, .int 0 0] } (fun I i h => h.IsTupleIter I l i ∧ h.IsTuple l items) where
  ns := tup_set
  nf := tup_fset
  nd := by decide
  iter := fun h1 h2 h3 q => wpAny_pyIter_tuple ⟨_, h1, h2, _, h3⟩ q
  walk := fun hh I hne => Walks.tuple hh I l hne items
  start := fun h1 h2 h3 h4 => ⟨⟨_, h1, rfl, rfl⟩, _, h2, h3, _, h4⟩
  lays := fun h => Heap.get?_push_size _ rfl
theorem s_init {l S : Addr} {T : String} {items : Array Value} {itO : Obj} {St : Addr → Nat → Heap → Prop} (X : Src P w l T items itO St) {h0 : Heap} {o : Obj} {n : Nat} (g1 : h0.get? l = some o) (g2 : o.cls = .type T) (g3 : o.data = .seq items n)
    (hS : h0.objs.size = S) (hs : s.heap = h0.push (newSet0 w)) {PP : Heap → Prop} {Q : Value → Shared → Prop}
    (loop : ∀ R : Result → Shared → Prop, (∀ s', Moved [S, S + 1] (fun a b => b = a) { s with heap := s.heap.push itO } s' → PP s'.heap → R (.ok (.ret .none)) s') → codeAny (model P w) A (.builtin "set.update.loop" ⟨[.ref S, .ref (S + 1)], []⟩) R { s with heap := s.heap.push itO })
    (h : ∀ (h' : Heap) (tk : Nat), PP h' → (∀ b o, h0.get? b = some o → h'.get? b = some o) → Q .none { s with heap := h', toks := tk }) :
    wpAny (model P w) A (Builtin.«set.__init__» ⟨[.ref S, .ref l], []⟩) (fun f s' => ∃ v, f = .done (.ret v) ∧ Q v s') E s := by
  have hSg : s.heap.get? S = some (newSet0 w) := by rw [hs, ← hS]; exact Heap.get?_push_size _ rfl
  have hlg : s.heap.get? l = some o := by rw [hs]; exact Heap.get?_push_of_some _ g1
  have hz : s.heap.objs.size = S + 1 := by rw [hs, Heap.size_push, hS]
  have hT : s.TypeIs (.ref S) "set" := ⟨_, hSg, rfl⟩
  have hTl : s.TypeIs (.ref l) T := ⟨_, hlg, g2⟩
  have x1 := X.ns
  have x2 := X.nf
  have x3 := X.nd
  unfold Builtin.«set.__init__» noKeywords Builtin.Frozenset.updateFrom
  generalize hPI : pyIter = PI
  wp_walk
  subst hPI
  refine X.iter (s := s) hlg g2 g3 (wpAny_bind (wpAny_runValue ?_))
  rw [hz]
  refine loop _ fun s' mv pp => ?_
  obtain ⟨h', g2', d', tk', os'⟩ := s'
  obtain rfl : g2' = s.gens := mv.gens
  obtain rfl : d' = s.drawn := mv.drawn
  obtain rfl : os' = s.os := mv.os
  refine wpAny_pure (wpAny_pure ⟨_, rfl, h h' tk' pp fun b u e => mv.heap b u (fun z => ?_) (Heap.get?_push_of_some _ (show s.heap.get? b = some u by rw [hs]; exact Heap.get?_push_of_some _ e))⟩)
  have lt : b < S := hS ▸ Heap.lt_size e
  simp only [List.mem_cons, List.not_mem_nil, or_false] at z
  rcases z with z | z
  · exact Nat.lt_irrefl _ (z ▸ lt)
  · exact Nat.lt_irrefl _ (Nat.lt_trans (z ▸ lt) (Nat.lt_succ_self _))
theorem s_call0 {l : Addr} {T : String} {items : Array Value} {itO : Obj} {St : Addr → Nat → Heap → Prop} (X : Src P w l T items itO St) {o : Obj} {n : Nat} (g1 : s.heap.get? l = some o) (g2 : o.cls = .type T) (g3 : o.data = .seq items n)
    {PP : Heap → Prop} {Q : Value → Shared → Prop}
    (loop : ∀ R : Result → Shared → Prop, (∀ s', Moved [s.heap.objs.size, s.heap.objs.size + 1] (fun a b => b = a) { s with heap := (s.heap.push (newSet0 w)).push itO } s' → PP s'.heap → R (.ok (.ret .none)) s') → codeAny (model P w) A.in1.in1 (.builtin "set.update.loop" ⟨[.ref s.heap.objs.size, .ref (s.heap.objs.size + 1)], []⟩) R { s with heap := (s.heap.push (newSet0 w)).push itO })
    (h : ∀ (h' : Heap) (tk : Nat), PP h' → (∀ b o, s.heap.get? b = some o → h'.get? b = some o) → Q (.ref s.heap.objs.size) { s with heap := h', toks := tk }) :
    wpAny (model P w) A (call (.type "set") [.ref l]) Q E s := by
  obtain ⟨c, tl, mro⟩ := F.called_set.mro
  have made := F.called_set.made
  have sub := F.called_set.sub
  have nt := F.called_set.notType
  have cc := F.called_set.canCreate
  have tc := F.typeCall_set_1 (.ref l)
  refine wpAny_call (codeAny_of_tree (show wpAny _ _ (callAny (.type "set") _) _ _ _ from ?_))
  refine wpAny_pure ⟨Code.quiet_builtin _ (by decide +kernel), codeAny_builtin F.entry_type_call ?_⟩
  rw [Around.under_plain (weight_type_call_type "set" [.ref l] []) rfl]
  repeat (any_goals (first | assumption | wp_step))
  refine codeAny_mono (code_set_led1 (.ref l) (E := E) (Q₁ := fun v z => v = .ref s.heap.objs.size ∧ z = { s with heap := s.heap.push (newSet0 w) }) ⟨rfl, rfl⟩) fun r z hr => ?_
  rcases r with e | fl
  · exact hr
  cases fl with
  | ret v =>
    obtain ⟨rfl, rfl⟩ := hr
    have hT : Shared.TypeIs { s with heap := s.heap.push (newSet0 w) } (.ref s.heap.objs.size) "set" := ⟨_, Heap.get?_push_size _ rfl, rfl⟩
    have li := F.called_set.init.lookup
    have bi := F.called_set.init.bind (.ref s.heap.objs.size)
    repeat (any_goals (first | assumption | wp_step))
    refine codeAny_mono (codeAny_call_builtin (R := wants (fun r z => r = .none ∧ ∃ h' tk, z = { s with heap := h', toks := tk } ∧ PP h' ∧ ∀ b u, s.heap.get? b = some u → h'.get? b = some u) E) F.called_set.init.plain F.entry_set_init (check_set_init_1 hT ?_)) fun r2 z2 h2 => ?_
    · refine wpAny_mono (s_init (A := A.in1.in1) (E := E) (s := { s with heap := s.heap.push (newSet0 w) }) (PP := PP) (Q := fun r z => r = .none ∧ ∃ h' tk, z = { s with heap := h', toks := tk } ∧ PP h' ∧ ∀ b u, s.heap.get? b = some u → h'.get? b = some u)
        X g1 g2 g3 rfl rfl loop fun h' tk pp kp => ⟨rfl, h', tk, rfl, pp, kp⟩) (fun f z hf => ?_) fun e z he => he
      obtain ⟨v, rfl, hv⟩ := hf
      exact hv
    · rcases r2 with e | fl
      · exact h2
      cases fl with
      | ret v =>
        obtain ⟨rfl, h', tk, rfl, pp, kp⟩ := h2
        repeat (any_goals (first | assumption | wp_step))
        exact h h' tk pp kp
      | _ => exact h2.elim
  | _ => exact hr.elim
theorem s_call {l : Addr} {T : String} {items : Array Value} {itO : Obj} {St : Addr → Nat → Heap → Prop} (X : Src P w l T items itO St) {ks : List Row} (hit : items.toList = ks.map fun p => Value.ref p.1) {o : Obj} {n : Nat} (g1 : s.heap.get? l = some o) (g2 : o.cls = .type T) (g3 : o.data = .seq items n)
    (hk : ∀ p ∈ ks, IsK s.heap p.2 p.1) (few : ks.length ≤ 1200) (hh : A.handled = none) (hu : A.units + 24 < cLine) {Q : Value → Shared → Prop}
    (h : ∀ (h' : Heap) (tk : Nat) L o es ep t, SS w h' s.heap.objs.size L o es ep t → Gt ks ks.length L → (∀ b o, s.heap.get? b = some o → h'.get? b = some o) → Q (.ref s.heap.objs.size) { s with heap := h', toks := tk }) :
    wpAny (model P w) A (call (.type "set") [.ref l]) Q E s := by
  have hsz : items.size = ks.length := by
    have := congrArg List.length hit
    simpa using this
  have hlt : l < s.heap.objs.size := Heap.lt_size g1
  have val : ∀ (i : Nat) (v : Value), items[i]? = some v → ∃ p, ks[i]? = some p ∧ v = .ref p.1 := fun i v hv => by
    rw [← Array.getElem?_toList, hit, List.getElem?_map] at hv
    obtain ⟨p, hp, rfl⟩ := Option.map_eq_some_iff.mp hv
    exact ⟨p, hp, rfl⟩
  have out : ∀ b, s.heap.objs.size ≤ b → s.heap.get? b = none := fun b hb => by
    cases q : s.heap.get? b with
    | none => rfl
    | some u => exact absurd (Nat.lt_of_lt_of_le (Heap.lt_size q) hb) (Nat.lt_irrefl _)
  have hz : (s.heap.push (newSet0 w)).objs.size = s.heap.objs.size + 1 := Heap.size_push ..
  have old : ∀ b u, s.heap.get? b = some u → ((s.heap.push (newSet0 w)).push itO).get? b = some u := fun b u e => Heap.get?_push_of_some _ (Heap.get?_push_of_some _ e)
  refine s_call0 (PP := fun h' => ∃ L o es ep t, SS w h' s.heap.objs.size L o es ep t ∧ Gt ks ks.length L) X g1 g2 g3 (fun R hR => ?_) fun h' tk ⟨L, o', es, ep, t, R, g⟩ kp => h h' tk L o' es ep t R g kp
  have lS : l ≠ s.heap.objs.size + 1 := Nat.ne_of_lt (Nat.lt_succ_of_lt hlt)
  refine s_loop (A := A.in1.in1) (S := s.heap.objs.size) (h0 := s.heap) (ks := ks) ((X.walk (by simp [hh]) _ lS).toS) ?_ hsz.symm (by omega) val hk (out _ (Nat.le_refl _)) (fun b hb => out b ?_) (by simp only [Around.in1_units]; omega) items.size 0 _ (Nat.zero_add _)
    (X.start (by rw [← hz]; exact X.lays _) (old _ _ g1) g2 g3) old ⟨[], _, _, _, _, SS.new (Heap.get?_push_of_some _ (Heap.get?_push_size _ rfl)), ⟨fun p hp => (by cases hp), fun p hp => (by simp at hp), Nat.le_refl _⟩⟩ fun s' L o' es ep t mv R g kp => ?_
  · simp only [List.mem_cons, List.not_mem_nil, or_false, not_or]
    exact ⟨Nat.ne_of_lt (Nat.lt_succ_self _), Nat.ne_of_gt hlt⟩
  · rw [List.mem_singleton.mp hb]; exact Nat.le_succ _
  · exact hR s' mv ⟨L, o', es, ep, t, R, hsz ▸ g⟩
/-- the same for ints -/
theorem s_callI {l : Addr} {T : String} {items : Array Value} {itO : Obj} {St : Addr → Nat → Heap → Prop} (X : Src P w l T items itO St) {ns : List Int} (hi : IntsAre items.toList ns) {o : Obj} {n : Nat} (g1 : s.heap.get? l = some o) (g2 : o.cls = .type T) (g3 : o.data = .seq items n)
    (few : items.size + 1 < scanBound) (hh : A.handled = none) {Q : Value → Shared → Prop}
    (h : ∀ (h' : Heap) (tk : Nat), h'.SetOf (intKind P w) s.heap.objs.size (fun k => (firstMet (fun i => ns.getD i 0) items.size).any (· == k)) (firstMet (fun i => ns.getD i 0) items.size).length → (∀ b o, s.heap.get? b = some o → h'.get? b = some o) → Q (.ref s.heap.objs.size) { s with heap := h', toks := tk }) :
    wpAny (model P w) A (call (.type "set") [.ref l]) Q E s := by
  have hlt : l < s.heap.objs.size := Heap.lt_size g1
  have hz : (s.heap.push (newSet0 w)).objs.size = s.heap.objs.size + 1 := Heap.size_push ..
  have lS : l ≠ s.heap.objs.size + 1 := Nat.ne_of_lt (Nat.lt_succ_of_lt hlt)
  refine s_call0 (PP := fun h' => h'.SetOf (intKind P w) s.heap.objs.size (fun k => (firstMet (fun i => ns.getD i 0) items.size).any (· == k)) (firstMet (fun i => ns.getD i 0) items.size).length) X g1 g2 g3 (fun R hR => ?_) h
  refine codeAny_set_update_loopS (A := A.in1.in1) ((X.walk (by simp [hh]) _ lS).toS) s.heap.objs.size ?_ (fun i => ns.getD i 0) (fun i v hv => hi.int_at i v (by rw [Array.getElem?_toList]; exact hv)) few items.size 0 _ (Nat.sub_zero _) (Nat.zero_le _)
    (X.start (by rw [← hz]; exact X.lays _) (Heap.get?_push_of_some _ (Heap.get?_push_of_some _ g1)) g2 g3) ?_ fun s' mv R => hR s' mv R
  · simp only [List.mem_cons, List.not_mem_nil, or_false, not_or]
    exact ⟨Nat.ne_of_lt (Nat.lt_succ_self _), Nat.ne_of_gt hlt⟩
  · exact SetOf_congr ((setObjOf_fresh (knd := intKind P w) (!w.params.followText "set-order")).setOf (Heap.get?_push_of_some _ (Heap.get?_push_size _ rfl)) (by unfold scanBound; omega)) (fun _ => rfl) rfl
end
end WH

set_option Elab.async false
set_option linter.all false
set_option maxRecDepth 100000
set_option maxHeartbeats 4000000
/-! sorted(set(xs)) of tuples, tuples of tuples; len(set(t)) of a tuple of ints. -/
namespace WH
open PySem L2 PyProof.Rows
open PySem.W (dataLt alike EachIs AllAlike Sortable dataLe)

/-! ### data as keys -/
def kk : Nat → D → Bool
  | _, .int _ => true
  | n + 1, .tup ds => ds.all (kk n)
  | _, _ => false
mutual
def toK : D → NestedKey
  | .int i => .num i
  | .tup ds => .tup (toKs ds)
  | _ => .none
def toKs : List D → List NestedKey
  | [] => []
  | d :: ds => toK d :: toKs ds
end
theorem toKs_map : ∀ ds : List D, toKs ds = ds.map toK
  | [] => rfl
  | d :: ds => by rw [toKs, toKs_map ds]; rfl
theorem kk_inj : ∀ (n : Nat) (d e : D), kk n d = true → kk n e = true → toK d = toK e → d = e
  | n, .int i, e, _, he, h => by
    cases e with
    | int j => simp only [toK, NestedKey.num.injEq] at h; rw [h]
    | tup es => simp [toK] at h
    | _ => cases n <;> simp [kk] at he
  | 0, .tup _, _, hd, _, _ => by simp [kk] at hd
  | n + 1, .tup ds, e, hd, he, h => by
    cases e with
    | int j => simp [toK] at h
    | tup es =>
      simp only [toK, toKs_map, NestedKey.tup.injEq] at h
      simp only [kk, List.all_eq_true] at hd he
      have key : ∀ (ds es : List D), (∀ d ∈ ds, kk n d = true) → (∀ d ∈ es, kk n d = true) → ds.map toK = es.map toK → ds = es := by
        intro ds
        induction ds with
        | nil => intro es _ _ h; cases es with
          | nil => rfl
          | cons => simp at h
        | cons d ds ih => intro es h1 h2 h; cases es with
          | nil => simp at h
          | cons e es =>
            simp only [List.map_cons, List.cons.injEq] at h
            rw [kk_inj n d e (h1 d (by simp)) (h2 e (by simp)) h.1, ih es (fun x hx => h1 x (by simp [hx])) (fun x hx => h2 x (by simp [hx])) h.2]
      rw [key ds es hd he h]
    | _ => simp [kk] at he
  | n, .non, _, hd, _, _ => by cases n <;> simp [kk] at hd
  | n, .bl _, _, hd, _, _ => by cases n <;> simp [kk] at hd
  | n, .str _, _, hd, _, _ => by cases n <;> simp [kk] at hd
  | n, .lst _, _, hd, _, _ => by cases n <;> simp [kk] at hd
  | n, .dct _, _, hd, _, _ => by cases n <;> simp [kk] at hd
  | n, .fn _, _, hd, _, _ => by cases n <;> simp [kk] at hd
  | n, .scr _, _, hd, _, _ => by cases n <;> simp [kk] at hd
  | n, .cell _, _, hd, _, _ => by cases n <;> simp [kk] at hd
  | n, .pr _, _, hd, _, _ => by cases n <;> simp [kk] at hd
mutual
theorem rd_key {h : Heap} : ∀ (n : Nat) (d : D) (v : Value) (as : List Addr), kk n d = true → Reads h v (toPy d) as → NestedIs h (toK d) v ∧ (toK d).depth ≤ n ∧ numK (toK d) = true
  | n, .int i, v, as, _, r => by
    rw [toPy] at r
    cases r with
    | int _ t => exact ⟨by rw [toK]; exact .int i t, by simp [toK, NestedKey.depth], by simp [toK, numK]⟩
  | 0, .tup _, _, _, hd, _ => by simp [kk] at hd
  | n + 1, .tup ds, v, as, hd, r => by
    rw [toPy] at r
    cases r with
    | tuple e1 e2 e3 r =>
      obtain ⟨a1, a2, a3⟩ := rd_keys n ds _ _ (by simpa [kk] using hd) r
      exact ⟨by rw [toK]; exact .tup e1 e2 e3 a1, by simp only [toK, NestedKey.depth]; omega, by simpa [toK, numK] using a3⟩
  | n, .non, _, _, hd, _ => by cases n <;> simp [kk] at hd
  | n, .bl _, _, _, hd, _ => by cases n <;> simp [kk] at hd
  | n, .str _, _, _, hd, _ => by cases n <;> simp [kk] at hd
  | n, .lst _, _, _, hd, _ => by cases n <;> simp [kk] at hd
  | n, .dct _, _, _, hd, _ => by cases n <;> simp [kk] at hd
  | n, .fn _, _, _, hd, _ => by cases n <;> simp [kk] at hd
  | n, .scr _, _, _, hd, _ => by cases n <;> simp [kk] at hd
  | n, .cell _, _, _, hd, _ => by cases n <;> simp [kk] at hd
  | n, .pr _, _, _, hd, _ => by cases n <;> simp [kk] at hd
theorem rd_keys {h : Heap} : ∀ (n : Nat) (ds : List D) (vs : List Value) (as : List Addr), (∀ d ∈ ds, kk n d = true) → ReadsAll h vs (toPys ds) as → NestedAll h (toKs ds) vs ∧ NestedKey.depthAll (toKs ds) ≤ n ∧ numKs (toKs ds) = true
  | n, [], vs, as, _, r => by
    rw [toPys] at r
    cases r
    exact ⟨.nil, by simp [toKs, NestedKey.depthAll], by simp [toKs, numKs]⟩
  | n, d :: ds, vs, as, hd, r => by
    rw [toPys] at r
    cases r with
    | cons r1 r2 =>
      obtain ⟨a1, a2, a3⟩ := rd_key n d _ _ (hd d (by simp)) r1
      obtain ⟨b1, b2, b3⟩ := rd_keys n ds _ _ (fun x hx => hd x (by simp [hx])) r2
      exact ⟨by rw [toKs]; exact .cons a1 b1, by simp only [toKs, NestedKey.depthAll]; omega, by simp [toKs, numKs, a3, b3]⟩
end
theorem perm_pre {α β : Type} {f : α → β} {xs ys : List β} (p : xs.Perm ys) : ∀ l : List α, ys = l.map f → ∃ l' : List α, l'.Perm l ∧ xs = l'.map f := by
  induction p with
  | nil => intro l h; exact ⟨[], by simpa using h, rfl⟩
  | cons x p ih =>
    intro l h
    cases l with
    | nil => cases h
    | cons a l =>
      simp only [List.map_cons, List.cons.injEq] at h
      obtain ⟨l', h1, h2⟩ := ih l h.2
      exact ⟨a :: l', h1.cons a, by rw [h2, h.1]; rfl⟩
  | swap x y l0 =>
    intro l h
    match l, h with
    | a :: b :: l, h =>
      simp only [List.map_cons, List.cons.injEq] at h
      exact ⟨b :: a :: l, .swap .., by simp [h.1, h.2.1, h.2.2]⟩
  | trans p q i1 i2 =>
    intro l h
    obtain ⟨l1, h1, h2⟩ := i2 l h
    obtain ⟨l2, h3, h4⟩ := i1 l1 h2
    exact ⟨l2, h3.trans h1, h4⟩
theorem sub_pre {α β : Type} {f : α → β} {xs : List α} : ∀ l : List β, (∀ y ∈ l, y ∈ xs.map f) → ∃ l' : List α, l = l'.map f ∧ ∀ x ∈ l', x ∈ xs
  | [], _ => ⟨[], rfl, fun x hx => by cases hx⟩
  | y :: l, h => by
    obtain ⟨x, hx, rfl⟩ := List.mem_map.mp (h y (by simp))
    obtain ⟨l', e, hl⟩ := sub_pre l fun z hz => h z (by simp [hz])
    refine ⟨x :: l', by rw [e]; rfl, fun z hz => ?_⟩
    rcases List.mem_cons.mp hz with rfl | hz
    · exact hx
    · exact hl z hz
/-- sorted(x), the order in which x gives its values being unknown -/
theorem sorted_perm {prog : Program} {w : World} {A : Around} {E : Value → Shared → Prop} {s : Shared} {x : Value} {β : Type} {bs : List β} {enc : β → PyData} {R : Value → β → Prop} {Q : Value → Shared → Prop}
    (hcol : ∀ (Qc : List Value → Shared → Prop) (Ec : Value → Shared → Prop), (∀ (s' : Shared) (acc : List Value) (bs' : List β), bs'.Perm bs → (∀ b o, s.heap.get? b = some o → s'.heap.get? b = some o) → s.heap.objs.size ≤ s'.heap.objs.size → s'.gens = s.gens → s'.os = s.os → EachIs R acc bs' → EachIs (fun v b => ∃ as, Reads s'.heap v (enc b) as) acc bs' → Qc acc s') → wpAny (model prog w) A.in1 (collect x) Qc Ec s)
    (hal : AllAlike (bs.map enc)) (hk : Sortable (bs.map enc)) (hL : bs.length ≤ sizeLine) (hu : ∀ b, b ∈ bs → A.units + 2 + (enc b).depth < cLine)
    (h : ∀ (s1 s' : Shared) (p : Addr) (out : List Value) (n : Nat) (bs' : List β), bs'.Perm bs → (∀ b o, s.heap.get? b = some o → s'.heap.get? b = some o) → s'.gens = s.gens → s'.os = s.os → s.heap.objs.size ≤ p → s'.heap.get? p = some (seqObj "list" out.toArray n) → EachIs R out (bs'.mergeSort (dataLe false enc)) → Q (.ref p) s') :
    wpAny (model prog w) A (call (.builtin "sorted") [x]) Q E s := by
  refine Calls.call_function_entry kind_sorted plain_sorted entry_sorted (args_sorted1 _) ?_
  unfold Builtin.«sorted»
  refine wpAny_bind (m := checkCount "sorted" 1 1 _) (wpAny_pure ?_)
  refine wpAny_bind (hcol _ _ fun s1 acc bs' pb k1 old k2 k3 e er => ?_)
  have hz : acc.length ≤ sizeLine := by rw [e.length, pb.length_eq]; exact hL
  refine wpAny_bind (wpAny_newList ?_ hz)
  have hoL : (s1.heap.push (seqObj "list" acc.toArray 0)).get? s1.heap.objs.size = some (seqObj "list" acc.toArray 0) := Heap.get?_push_size _ rfl
  show wpAny _ _ _ _ _ { s1 with heap := s1.heap.push (seqObj "list" acc.toArray 0) }
  have er2 : EachIs (fun v b => ∃ as, Reads (s1.heap.push (seqObj "list" acc.toArray 0)) v (enc b) as ∧ s1.heap.objs.size ∉ as) acc bs' := er.mono fun v b ⟨as, r⟩ => ⟨as, PyProof.Rows.Reads.keeps (fun _ _ q => Heap.get?_push_of_some _ q) r, fun hm => Nat.lt_irrefl _ (rd_lt r _ hm)⟩
  have hal' : AllAlike (bs'.map enc) := fun a ha b hb => hal a ((pb.map enc).mem_iff.mp ha) b ((pb.map enc).mem_iff.mp hb)
  have hk' : Sortable (bs'.map enc) := by
    rcases hk with z | z
    · exact .inl fun d hd => z d ((pb.map enc).mem_iff.mp hd)
    · exact .inr fun d hd => z d ((pb.map enc).mem_iff.mp hd)
  refine wpAny_bind (wpAny_holding ?_)
  refine PySem.W.list_sort_data (A := A.in1) (s := { s1 with heap := s1.heap.push (seqObj "list" acc.toArray 0) }) hoL e er2 hal' hk' (by rw [pb.length_eq]; exact hL) (fun b hb => by have := hu b (pb.mem_iff.mp hb); show A.units + 1 + 1 + _ < _; omega) fun out hlen eo => wpAny_pure ⟨_, rfl, ?_⟩
  obtain ⟨n, hn⟩ := sortedHeap_at (out := out.toArray) hoL
  refine h s1 _ _ out n bs' pb (fun b o q1 => ?_) k2 k3 old hn eo
  have q2 := k1 b o q1
  have hlt := Heap.lt_size q2
  show (sortedHeap (s1.heap.push (seqObj "list" acc.toArray 0)) s1.heap.objs.size acc out.toArray).get? b = some o
  rw [sortedHeap_old (Nat.ne_of_lt hlt) (by rw [size_push']; exact Nat.lt_succ_of_lt hlt)]
  exact Heap.get?_push_of_some _ q2

section
variable {X : Cx} {C : Ctx} {e : Expr} {te : DE} {p p2 q pos : Pos}
def seqE : D → Option (List D)
  | .lst ds => some ds
  | .tup ds => some ds
  | _ => none
def adr : V → Addr
  | .ref a => a
  | _ => 0
def setOk (ds : List D) : Bool := sortOk ds && ds.all isNT && ds.all (kk 4)
def dSortSet (te : DE) : DE := fun ρ P => te ρ fun d => ∃ ds, seqE d = some ds ∧ setOk ds = true ∧ ds.length ≤ 1200 ∧ ∀ es : List D, es.Nodup → (∀ x, x ∈ es ↔ x ∈ ds) → P (.lst (sortL es))
@[simp] theorem z_sortSet {te : DE} {ρ : R} {P : D → Prop} : dSortSet te ρ P ↔ te ρ fun d => ∃ ds, seqE d = some ds ∧ setOk ds = true ∧ ds.length ≤ 1200 ∧ ∀ es : List D, es.Nodup → (∀ x, x ∈ es ↔ x ∈ ds) → P (.lst (sortL es)) := .rfl
theorem nt_ref {C : CK} {S : Hp} {v : V} {d : D} (h : DV C S v d) (hn : isNT d = true) : v = .ref (adr v) := by
  cases h <;> first | rfl | cases hn
theorem vals_adr : ∀ {vs : List V} {us : List Value}, Vals vs us → (∀ v ∈ vs, v = .ref (adr v)) → us = vs.map fun v => Value.ref (adr v)
  | _, _, .nil, _ => rfl
  | v :: vs, _, .cons r t, h => by
    have e := h v (by simp)
    rw [e] at r
    cases r
    rw [vals_adr t fun x hx => h x (by simp [hx])]; rfl
theorem df_sortSet (hX : Fits C X) (ha : PE X e (liE C te)) (hm : X.mg "sorted" = none) (hm2 : X.mg "set" = none) (hg : Gl X "sorted" := by rfl) (hg2 : Gl X "set" := by rfl) (na : starEach [e] X.env = (false, eval e X.env) :: starEach [] X.env := by rfl) :
    PE X (.Call (.Name "sorted" p) [.Call (.Name "set" p2) [e] [] q] [] pos) (liF C (dSortSet te)) := by
  refine ⟨fun pins s σ H Q I ⟨pn, G, ρ, P, rp, t, k⟩ => ?_⟩
  refine Call_ (ld_blt I hg hm boot_sorted (callWith_builtin1 (args_cons ?_ rfl) rfl rfl))
  refine Call_ (ld_blt I hg2 hm2 boot_set (callWith_type1 (args_cons (thn (ha.run pins s σ H (fun v H1 => ∃ d S1, Step G H S1 H1 ∧ DV C.ck S1 v d ∧ ∃ ds, seqE d = some ds ∧ setOk ds = true ∧ ds.length ≤ 1200 ∧ ∀ es : List D, es.Nodup → (∀ x, x ∈ es ↔ x ∈ ds) → P (.lst (sortL es))) I ⟨pn, G, ρ, _, rp, t, fun d v S' H' p s dv => ⟨d, S', s, dv, p⟩⟩) fun v s1 ⟨x, H1, I1, r1, d, S1, st1, dv, ds, ed, ok, hl, pz⟩ => args_nil ?_) na) na rfl))
  simp only [setOk, Bool.and_eq_true, List.all_eq_true] at ok
  obtain ⟨⟨ok1, ok2⟩, ok3⟩ := ok
  obtain ⟨o1, o2, o3⟩ := sortOk_all ok1
  have hcalm := I1.ok.hd hX.calm
  have hun := hX.units
  have hKK : X.K = C.ck.K := hX.K
  -- the sequence
  obtain ⟨a, vs, rfl, src, dvs⟩ : ∃ a vs, x = .ref a ∧ (SqL C.ck.K H1 a vs ∨ SqT C.ck.K H1 a vs) ∧ DVs C.ck S1 vs ds := by
    cases dv with
    | lst h1 h2 => cases ed; exact ⟨_, _, rfl, .inl (st1.exH.l (SqL.of h1)), h2⟩
    | tup h1 hn h2 => cases ed; exact ⟨_, _, rfl, .inr (st1.exH.t (frz_t h1)), h2⟩
    | _ => cases ed
  cases r1
  obtain ⟨bs, b1, b2, b3⟩ := dvs.pair
  subst b1; subst b2
  have isr : ∀ b ∈ bs, b.1 = .ref (adr b.1) := fun b hb => nt_ref (b3 b hb) (ok2 _ (List.mem_map.mpr ⟨b, hb, rfl⟩))
  have reads : ∀ b ∈ bs, ∃ as, Reads s1.heap (.ref (adr b.1)) (toPy b.2) as := fun b hb =>
    Dp.reads I1 _ _ _ (by rw [hKK]; exact ((b3 b hb).mono st1.exH).dp (o1 _ (List.mem_map.mpr ⟨b, hb, rfl⟩))) (by rw [isr b hb]; exact rfl)
  let row : V × D → Row := fun b => (adr b.1, toK b.2)
  have isk : ∀ r ∈ bs.map row, IsK s1.heap r.2 r.1 := fun r hr => by
    obtain ⟨b, hb, rfl⟩ := List.mem_map.mp hr
    obtain ⟨as, rd⟩ := reads b hb
    obtain ⟨k1, k2, k3⟩ := rd_key 4 b.2 _ _ (ok3 _ (List.mem_map.mpr ⟨b, hb, rfl⟩)) rd
    exact ⟨k1, Nat.le_trans k2 (by decide), k3⟩
  have hlen : (bs.map row).length ≤ 1200 := by simpa using hl
  have after : ∀ (E : Value → Shared → Prop) (h' : Heap) (tk : Nat) L o es ep t, SS X.w h' s1.heap.objs.size L o es ep t → Gt (bs.map row) (bs.map row).length L → (∀ b o, s1.heap.get? b = some o → h'.get? b = some o) →
      wpAny (model X.prog X.w) X.A (call (.builtin "sorted") [.ref s1.heap.objs.size]) (fun v s' => ∃ x H', Inv X pins σ H' s' ∧ RelV x v ∧ Q x H') E { s1 with heap := h', toks := tk } := by
    intro E h' tk L o es ep t R g kp
    obtain ⟨bs0, eL, sub0⟩ := sub_pre (f := row) (xs := bs) L fun r hr => by
      have := g.frm r hr
      rwa [List.take_length] at this
    subst eL
    have I2 : Inv X pins σ H1 { s1 with heap := h', toks := tk } := I1.kept kp
    have mem0 : ∀ d, d ∈ bs0.map (·.2) ↔ d ∈ bs.map (·.2) := fun d => by
      constructor
      · intro hd
        obtain ⟨b, hb, rfl⟩ := List.mem_map.mp hd
        exact List.mem_map.mpr ⟨b, sub0 b hb, rfl⟩
      · intro hd
        obtain ⟨b, hb, rfl⟩ := List.mem_map.mp hd
        have := g.every (row b) (by rw [List.take_length]; exact List.mem_map.mpr ⟨b, hb, rfl⟩)
        obtain ⟨r, hr, er⟩ := List.mem_map.mp this
        obtain ⟨b0, hb0, rfl⟩ := List.mem_map.mp hr
        have e2 : b0.2 = b.2 := kk_inj 4 _ _ (ok3 _ (List.mem_map.mpr ⟨b0, sub0 b0 hb0, rfl⟩)) (ok3 _ (List.mem_map.mpr ⟨b, hb, rfl⟩)) er
        exact List.mem_map.mpr ⟨b0, hb0, e2⟩
    have nd0 : (bs0.map (·.2)).Nodup := by
      have := R.nd
      rw [List.map_map] at this
      have e2 : bs0.map ((fun r : Row => r.2) ∘ row) = (bs0.map (·.2)).map toK := by rw [List.map_map]; rfl
      rw [e2] at this
      exact List.Pairwise.of_map toK (fun _ _ hne e => hne (congrArg toK e)) this
    have len0 : bs0.length ≤ 1200 := by
      have := g.le
      rw [List.length_map] at this
      omega
    have em : bs0.map (fun b => toPy b.2) = (bs0.map (·.2)).map toPy := by rw [List.map_map]; rfl
    refine sorted_perm (s := { s1 with heap := h', toks := tk }) (bs := bs0) (enc := fun b => toPy b.2) (R := fun v b => RelV b.1 v) ?_ ?_ ?_ (by rw [sizeLine_eq]; omega) (fun b hb => ?_) fun s2 s3 p out n bs' pb k1 k2 k3 hp ho eo => ?_
    · intro Qc Ec hq
      refine collect_set (P := X.prog) (w := X.w) (A := X.A.in1) (s := { s1 with heap := h', toks := tk }) (by simp [hcalm]) ⟨o, R.get, R.exact.1, R.dat⟩ R.fits (by rw [R.size, List.length_map]; unfold scanBound; omega) R.tb.up R.led fun s' acc k1 hz k2 k3 pm => ?_
      have ev : es.toList.map (·.2) = bs0.map fun b => Value.ref (adr b.1) := by
        rw [R.row, List.map_map, List.map_map]; rfl
      obtain ⟨bs', p1, rfl⟩ := perm_pre pm bs0 ev
      have isr' : ∀ b ∈ bs', b ∈ bs := fun b hb => sub0 b (p1.mem_iff.mp hb)
      refine hq s' _ bs' p1 k1 hz k2 k3 ?_ ?_
      · clear pm p1
        induction bs' with
        | nil => exact .nil
        | cons b bs' ih => exact .cons (by rw [isr b (isr' b (by simp))]; exact rfl) (ih fun b hb => isr' b (by simp [hb]))
      · clear pm p1
        induction bs' with
        | nil => exact .nil
        | cons b bs' ih =>
          obtain ⟨as, rd⟩ := reads b (isr' b (by simp))
          exact .cons ⟨as, PyProof.Rows.Reads.keeps (fun c u e => k1 c u (kp c u e)) rd⟩ (ih fun b hb => isr' b (by simp [hb]))
    · rw [em]
      exact fun a ha b hb => by
        obtain ⟨a', ha', rfl⟩ := List.mem_map.mp ha
        obtain ⟨b', hb', rfl⟩ := List.mem_map.mp hb
        exact o2 _ (List.mem_map.mpr ⟨a', (mem0 _).1 ha', rfl⟩) _ (List.mem_map.mpr ⟨b', (mem0 _).1 hb', rfl⟩)
    · rw [em]
      rcases o3 with z | z
      · exact .inl fun d hd => by
          obtain ⟨a', ha', rfl⟩ := List.mem_map.mp hd
          exact z _ (List.mem_map.mpr ⟨a', (mem0 _).1 ha', rfl⟩)
      · exact .inr fun d hd => by
          obtain ⟨a', ha', rfl⟩ := List.mem_map.mp hd
          exact z _ (List.mem_map.mpr ⟨a', (mem0 _).1 ha', rfl⟩)
    · have := (plN_ok 5 _ (o1 b.2 (List.mem_map.mpr ⟨b, sub0 b hb, rfl⟩))).2
      omega
    · have hn : H1 p = none := I2.hok.fresh hp
      have hl' : ((bs'.mergeSort (dataLe false fun b => toPy b.2)).map (·.1)).length ≤ sizeLine := by rw [List.length_map, List.length_mergeSort, pb.length_eq, sizeLine_eq]; omega
      have J : Inv X pins σ (upd H1 p (.lst ((bs'.mergeSort (dataLe false fun b => toPy b.2)).map (·.1)))) s3 :=
        I2.call' (ch := []) k3 (Un.laid k1 hp hn) (I2.hok.laid k1 hp ⟨hl', out, n, vals_each eo, ho⟩) (by rw [k2]; exact I2.bare) (fun _ z => nomatch z)
      have es' : sortL (bs'.map (·.2)) = (bs'.mergeSort (dataLe false fun b => toPy b.2)).map (·.2) := by
        unfold sortL
        rw [List.map_mergeSort]
        intro a _ b _
        rfl
      have fin := pz (bs'.map (·.2)) ((pb.map _).nodup_iff.mpr nd0) fun x => ((pb.map _).mem_iff).trans (mem0 x)
      rw [es'] at fin
      exact ⟨.ref p, _, J, rfl, k _ _ S1 _ fin ⟨fun a o h1 h2 => Ex.new hn a o (st1.keep a o h1 h2), st1.grow, fun a o h => ⟨Ex.new hn a o (st1.sub a o h).1, (st1.sub a o h).2⟩, st1.new, st1.J.ex (Ex.new hn)⟩ (st1.exH.free hn) (Step.before rp st1 hn) ⟨_, upd_same, dvs_pairs fun b hb => b3 b (sub0 b (pb.mem_iff.mp (mem_sort.mp hb)))⟩⟩
  have ksr : (bs.map (·.1)).map (fun v => Value.ref (adr v)) = (bs.map row).map fun r => Value.ref r.1 := by
    rw [List.map_map, List.map_map]; rfl
  have isv : ∀ v ∈ bs.map (·.1), v = .ref (adr v) := fun v hv => by
    obtain ⟨b, hb, rfl⟩ := List.mem_map.mp hv
    exact isr b hb
  rw [← hKK] at src
  rcases src with src | src
  · obtain ⟨its, rr, pl, hz⟩ := I1.list src
    obtain ⟨o, g1, g2, n, g3⟩ := pl.isList
    exact s_call (src_list a its.toArray) (ks := bs.map row) (by rw [← ksr, ← vals_adr rr isv]) g1 g2 g3 isk hlen hcalm (by omega) fun h' tk L o es ep t R g kp => args_nil (after _ h' tk L o es ep t R g kp)
  · obtain ⟨its, rr, ⟨o, g1, g2, n, g3⟩, hz⟩ := I1.tuple src
    exact s_call (src_tuple a its.toArray) (ks := bs.map row) (by rw [← ksr, ← vals_adr rr isv]) g1 g2 g3 isk hlen hcalm (by omega) fun h' tk L o es ep t R g kp => args_nil (after _ h' tk L o es ep t R g kp)

def dLenSetT (te : DE) : DE := fun ρ P => te ρ fun d => ∃ ns : List Int, d = .tup (ns.map .int) ∧ ns.length ≤ 4000 ∧ ∀ l : List Int, l.Nodup → (∀ k, k ∈ l ↔ k ∈ ns) → P (.int (l.length : Nat))
@[simp] theorem z_lenSetT {te : DE} {ρ : R} {P : D → Prop} : dLenSetT te ρ P ↔ te ρ fun d => ∃ ns : List Int, d = .tup (ns.map .int) ∧ ns.length ≤ 4000 ∧ ∀ l : List Int, l.Nodup → (∀ k, k ∈ l ↔ k ∈ ns) → P (.int (l.length : Nat)) := .rfl
theorem de_lenSetT (hX : Fits C X) (ha : PE X e (liE C te)) (hm : X.mg "len" = none) (hm2 : X.mg "set" = none) (hg : Gl X "len" := by rfl) (hg2 : Gl X "set" := by rfl) (na : starEach [e] X.env = (false, eval e X.env) :: starEach [] X.env := by rfl) :
    PE X (.Call (.Name "len" p) [.Call (.Name "set" p2) [e] [] q] [] pos) (liE C (dLenSetT te)) := by
  refine ⟨fun pins s σ H Q I ⟨pn, G, ρ, P, rp, t, k⟩ => ?_⟩
  refine Call_ (ld_blt I hg hm PySem.boot_len (callWith_builtin1 (args_cons ?_ rfl) rfl rfl))
  refine Call_ (ld_blt I hg2 hm2 boot_set (callWith_type1 (args_cons (thn (ha.run pins s σ H (fun v H1 => ∃ d S1, Step G H S1 H1 ∧ DV C.ck S1 v d ∧ ∃ ns : List Int, d = .tup (ns.map .int) ∧ ns.length ≤ 4000 ∧ ∀ l : List Int, l.Nodup → (∀ k, k ∈ l ↔ k ∈ ns) → P (.int (l.length : Nat))) I ⟨pn, G, ρ, _, rp, t, fun d v S' H' p s dv => ⟨d, S', s, dv, p⟩⟩) fun v s1 ⟨x, H1, I1, r1, d, S1, st1, dv, ns, ed, hl, pz⟩ => args_nil ?_) na) na rfl))
  subst ed
  obtain ⟨a, vs, rfl, src, dvs⟩ : ∃ a vs, x = .ref a ∧ SqT C.ck.K H1 a vs ∧ DVs C.ck S1 vs (ns.map .int) := by
    cases dv with
    | tup h1 hn h2 => exact ⟨_, _, rfl, st1.exH.t (frz_t h1), h2⟩
  have ev := dvs_ints dvs
  subst ev
  cases r1
  have hKK : X.K = C.ck.K := hX.K
  rw [← hKK] at src
  obtain ⟨its, r, ⟨o, g1, g2, n, g3⟩, hz⟩ := I1.tuple src
  have hlen : its.toArray.size = ns.length := by rw [List.size_toArray, ← r.length, List.length_map]
  refine s_callI (src_tuple a its.toArray) (by simpa using RZ.intsAre_vals r) g1 g2 g3 (by rw [hlen]; unfold scanBound; omega) (I1.ok.hd hX.calm) fun h' tk hS hk => ?_
  refine args_nil ?_
  rw [hlen] at hS
  have hfl := firstMet_length_le (fun i => ns.getD i 0) ns.length
  have hmem : ∀ k, k ∈ firstMet (fun i => ns.getD i 0) ns.length ↔ k ∈ ns := fun k => by
    have e := firstMet_any (fun i => ns.getD i 0) ns.length k
    have e2 : (List.range ns.length).map (fun i => ns.getD i 0) = ns := by
      apply List.ext_getElem
      · simp
      · intro i h1 h2
        simp [List.getD_eq_getElem?_getD, h2]
    rw [e2] at e
    constructor
    · intro hk
      have : (firstMet (fun i => ns.getD i 0) ns.length).any (· == k) = true := List.any_eq_true.mpr ⟨k, hk, by simp⟩
      rw [e] at this
      obtain ⟨z, hz, ez⟩ := List.any_eq_true.mp this
      simp at ez
      rw [← ez]; exact hz
    · intro hk
      have : ns.any (· == k) = true := List.any_eq_true.mpr ⟨k, hk, by simp⟩
      rw [← e] at this
      obtain ⟨z, hz, ez⟩ := List.any_eq_true.mp this
      simp at ez
      rw [← ez]; exact hz
  obtain ⟨o, es, ep, t', ho, hex, hd, _, _, _, hf, hn⟩ := hS
  have I2 : Inv X pins σ H1 { s1 with heap := h', toks := tk } := I1.kept hk
  exact call_len_set ho hex hd hf (by rw [hn] <;> omega) ⟨.int (firstMet (fun i => ns.getD i 0) ns.length).length, H1, I2.tok _, ⟨_, by rw [hn]⟩, k _ _ S1 H1 (pz _ (firstMet_nd _ _) hmem) st1 (.int _)⟩
end
end WH

set_option linter.all false
namespace WH
/-! ### walks, distances: plain -/
section
variable {α : Type}
inductive Wk (nx : α → List α) : Nat → α → α → Prop
  | nil (s : α) : Wk nx 0 s s
  | snoc {n : Nat} {s t u : α} : Wk nx n s t → u ∈ nx t → Wk nx (n + 1) s u
theorem Wk.app {nx : α → List α} {n m : Nat} {s t u : α} (h : Wk nx n s t) (k : Wk nx m t u) : Wk nx (n + m) s u := by
  induction k with
  | nil => exact h
  | snoc _ hu ih => exact .snoc (ih h) hu
theorem Wk.one {nx : α → List α} {s t : α} (h : t ∈ nx s) : Wk nx 1 s t := .snoc (.nil s) h
theorem Wk.cons {nx : α → List α} {n : Nat} {s t u : α} (h : t ∈ nx s) (k : Wk nx n t u) : Wk nx (n + 1) s u := by
  have := (Wk.one h).app k
  rwa [Nat.add_comm] at this
theorem Wk.rev {nx : α → List α} (sy : ∀ a b, b ∈ nx a → a ∈ nx b) {n : Nat} {s t : α} (h : Wk nx n s t) : Wk nx n t s := by
  induction h with
  | nil => exact .nil _
  | snoc _ hu ih => exact .cons (sy _ _ hu) ih
theorem Wk.map {nx ny : α → List α} (f : ∀ a b, b ∈ nx a → b ∈ ny a) {n : Nat} {s t : α} (h : Wk nx n s t) : Wk ny n s t := by
  induction h with
  | nil => exact .nil _
  | snoc _ hu ih => exact .snoc ih (f _ _ hu)
theorem Wk.img {β : Type} {nx : α → List α} {ny : β → List β} (f : α → β) (k : ∀ a b, b ∈ nx a → f b ∈ ny (f a)) {n : Nat} {s t : α} (h : Wk nx n s t) : Wk ny n (f s) (f t) := by
  induction h with
  | nil => exact .nil _
  | snoc _ hu ih => exact .snoc ih (k _ _ hu)
/-- what holds at the start and is kept -/
theorem Wk.keeps {nx : α → List α} {P : α → Prop} (f : ∀ a b, P a → b ∈ nx a → P b) {n : Nat} {s t : α} (h : Wk nx n s t) (hs : P s) : P t := by
  induction h with
  | nil => exact hs
  | snoc _ hu ih => exact f _ _ (ih hs) hu
def Rch (nx : α → List α) (s t : α) : Prop := ∃ n, Wk nx n s t
theorem Rch.refl {nx : α → List α} (s : α) : Rch nx s s := ⟨0, .nil s⟩
theorem Rch.trans {nx : α → List α} {s t u : α} (h : Rch nx s t) (k : Rch nx t u) : Rch nx s u := let ⟨n, a⟩ := h; let ⟨m, b⟩ := k; ⟨n + m, a.app b⟩
theorem Rch.symm {nx : α → List α} (sy : ∀ a b, b ∈ nx a → a ∈ nx b) {s t : α} (h : Rch nx s t) : Rch nx t s := let ⟨n, a⟩ := h; ⟨n, a.rev sy⟩
theorem Rch.step {nx : α → List α} {s t : α} (h : t ∈ nx s) : Rch nx s t := ⟨1, .one h⟩
theorem least (P : Nat → Prop) (h : ∃ n, P n) : ∃ n, P n ∧ ∀ m, P m → n ≤ m := by
  obtain ⟨n, hn⟩ := h
  induction n using Nat.strongRecOn with
  | ind n ih =>
    by_cases q : ∃ m, m < n ∧ P m
    · obtain ⟨m, h1, h2⟩ := q
      exact ih m h1 h2
    · exact ⟨n, hn, fun m hm => Nat.le_of_not_lt fun z => q ⟨m, z, hm⟩⟩
/-- the least, if any -/
noncomputable def lst? (P : Nat → Prop) : Option Nat := by
  classical exact if h : ∃ n, P n ∧ ∀ m, P m → n ≤ m then some h.choose else none
theorem lst_some {P : Nat → Prop} {n : Nat} : lst? P = some n ↔ P n ∧ ∀ m, P m → n ≤ m := by
  unfold lst?
  constructor
  · intro e
    split at e
    · rename_i h
      cases e
      exact h.choose_spec
    · cases e
  · intro h
    rw [dif_pos ⟨n, h⟩]
    have hc := (⟨n, h⟩ : ∃ n, P n ∧ ∀ m, P m → n ≤ m)
    have h1 := hc.choose_spec
    congr 1
    exact Nat.le_antisymm (h1.2 _ h.1) (h.2 _ h1.1)
theorem lst_none {P : Nat → Prop} : lst? P = none ↔ ∀ n, ¬ P n := by
  unfold lst?
  constructor
  · intro e n hn
    rw [dif_pos (least P ⟨n, hn⟩)] at e
    cases e
  · intro h
    rw [dif_neg]
    rintro ⟨n, hn, _⟩
    exact h n hn
theorem lst_congr {P Q : Nat → Prop} (h : ∀ n, P n ↔ Q n) : lst? P = lst? Q := by
  have : P = Q := funext fun n => propext (h n)
  rw [this]
noncomputable def dst (nx : α → List α) (s t : α) : Option Nat := lst? fun n => Wk nx n s t
/-! ### paths -/
inductive Pth (nx : α → List α) : Nat → α → α → List α → Prop
  | one (s : α) : Pth nx 0 s s [s]
  | cons {n : Nat} {s t u : α} {l : List α} : t ∈ nx s → Pth nx n t u l → Pth nx (n + 1) s u (s :: l)
theorem Pth.wk {nx : α → List α} {n : Nat} {s t : α} {l : List α} (h : Pth nx n s t l) : Wk nx n s t := by
  induction h with
  | one => exact .nil _
  | cons h _ ih => exact .cons h ih
theorem Pth.len {nx : α → List α} {n : Nat} {s t : α} {l : List α} (h : Pth nx n s t l) : l.length = n + 1 := by
  induction h with
  | one => rfl
  | cons _ _ ih => rw [List.length_cons, ih]
theorem Pth.head {nx : α → List α} {n : Nat} {s t : α} {l : List α} (h : Pth nx n s t l) : ∃ r, l = s :: r := by
  cases h with
  | one => exact ⟨_, rfl⟩
  | cons => exact ⟨_, rfl⟩
theorem Pth.last {nx : α → List α} {n : Nat} {s t : α} {l : List α} (h : Pth nx n s t l) : ∃ r, l = r ++ [t] := by
  induction h with
  | one => exact ⟨[], rfl⟩
  | cons _ _ ih => obtain ⟨r, e⟩ := ih; exact ⟨_ :: r, by rw [e]; rfl⟩
theorem Pth.rch {nx : α → List α} {n : Nat} {s t : α} {l : List α} (h : Pth nx n s t l) : ∀ x ∈ l, Rch nx s x := by
  induction h with
  | one => intro x hx; rw [List.mem_singleton.mp hx]; exact Rch.refl _
  | cons h _ ih =>
    intro x hx
    rcases List.mem_cons.mp hx with z | z
    · rw [z]; exact Rch.refl _
    · exact (Rch.step h).trans (ih x z)
/-! ### breadth first -/
structure Bfs (nx : α → List α) (s : α) (kn : List (α × Option α)) (L : α → Nat) : Prop where
  nd : (kn.map (·.1)).Nodup
  st : (s, none) ∈ kn
  L0 : L s = 0
  par : ∀ t p, (t, some p) ∈ kn → p ∈ kn.map (·.1) ∧ t ∈ nx p ∧ L t = L p + 1
  non : ∀ t, (t, none) ∈ kn → t = s
  cl : ∀ x ∈ kn.map (·.1), ∀ y ∈ nx x, y ∈ kn.map (·.1) ∧ L y ≤ L x + 1
theorem Bfs.key {nx : α → List α} {s : α} {kn : List (α × Option α)} {L : α → Nat} (h : Bfs nx s kn L) {t : α} (ht : t ∈ kn.map (·.1)) : (t, none) ∈ kn ∧ t = s ∨ ∃ p, (t, some p) ∈ kn := by
  obtain ⟨⟨t', o⟩, h1, h2⟩ := List.mem_map.mp ht
  subst h2
  cases o with
  | none => exact .inl ⟨h1, h.non _ h1⟩
  | some p => exact .inr ⟨p, h1⟩
theorem Bfs.wk {nx : α → List α} {s : α} {kn : List (α × Option α)} {L : α → Nat} (h : Bfs nx s kn L) : ∀ (n : Nat) (t : α), t ∈ kn.map (·.1) → L t = n → Wk nx n s t := by
  intro n
  induction n with
  | zero =>
    intro t ht e
    rcases h.key ht with ⟨_, z⟩ | ⟨p, hp⟩
    · subst z; exact .nil _
    · have := (h.par t p hp).2.2
      omega
  | succ n ih =>
    intro t ht e
    rcases h.key ht with ⟨_, z⟩ | ⟨p, hp⟩
    · subst z; rw [h.L0] at e; cases e
    · obtain ⟨h1, h2, h3⟩ := h.par t p hp
      exact .snoc (ih p h1 (by omega)) h2
theorem Bfs.all {nx : α → List α} {s : α} {kn : List (α × Option α)} {L : α → Nat} (h : Bfs nx s kn L) {n : Nat} {t : α} (w : Wk nx n s t) : t ∈ kn.map (·.1) ∧ L t ≤ n := by
  induction w with
  | nil => exact ⟨List.mem_map.mpr ⟨_, h.st, rfl⟩, by rw [h.L0]; exact Nat.le_refl _⟩
  | snoc _ hu ih =>
    have i := ih h
    have := h.cl _ i.1 _ hu
    exact ⟨this.1, by have := this.2; omega⟩
theorem Bfs.mem {nx : α → List α} {s : α} {kn : List (α × Option α)} {L : α → Nat} (h : Bfs nx s kn L) {t : α} : t ∈ kn.map (·.1) ↔ Rch nx s t :=
  ⟨fun ht => ⟨_, h.wk _ t ht rfl⟩, fun ⟨_, w⟩ => (h.all w).1⟩
theorem Bfs.dst {nx : α → List α} {s : α} {kn : List (α × Option α)} {L : α → Nat} (h : Bfs nx s kn L) {t : α} (ht : t ∈ kn.map (·.1)) : dst nx s t = some (L t) :=
  lst_some.mpr ⟨h.wk _ t ht rfl, fun m hm => (h.all hm).2⟩
/-- the state of the search: what is known, what waits -/
structure Bfi (nx : α → List α) (s : α) (kn : List (α × Option α)) (wt : List α) (L : α → Nat) : Prop where
  nd : (kn.map (·.1)).Nodup
  st : (s, none) ∈ kn
  L0 : L s = 0
  par : ∀ t p, (t, some p) ∈ kn → p ∈ kn.map (·.1) ∧ t ∈ nx p ∧ L t = L p + 1
  non : ∀ t, (t, none) ∈ kn → t = s
  sub : ∀ x ∈ wt, x ∈ kn.map (·.1)
  cl : ∀ x ∈ kn.map (·.1), x ∈ wt ∨ ∀ y ∈ nx x, y ∈ kn.map (·.1) ∧ L y ≤ L x + 1
  wn : wt.Nodup
  mono : wt.Pairwise fun x y => L x ≤ L y
  top : ∀ f r, wt = f :: r → ∀ y ∈ kn.map (·.1), L y ≤ L f + 1
theorem Bfi.start (nx : α → List α) (s : α) : Bfi nx s [(s, none)] [s] (fun _ => 0) where
  nd := by simp
  st := by simp
  L0 := rfl
  par := fun t p h => by simp at h
  non := fun t h => by simp at h; exact h
  sub := fun x h => by simpa using h
  cl := fun x h => .inl (by simpa using h)
  wn := by simp
  mono := by simp
  top := fun f r _ y _ => by omega
theorem Bfi.done {nx : α → List α} {s : α} {kn : List (α × Option α)} {L : α → Nat} (h : Bfi nx s kn [] L) : Bfs nx s kn L where
  nd := h.nd
  st := h.st
  L0 := h.L0
  par := h.par
  non := h.non
  cl := fun x hx => (h.cl x hx).resolve_left (by simp)
section
variable [DecidableEq α]
def fresh (kn : List (α × Option α)) (l : List α) : List α := l.filter fun y => decide (y ∉ kn.map (·.1))
theorem Bfi.step {nx : α → List α} {s f : α} {kn : List (α × Option α)} {w : List α} {L : α → Nat} (h : Bfi nx s kn (f :: w) L) (hn : (nx f).Nodup) :
    ∃ L', Bfi nx s (kn ++ (fresh kn (nx f)).map fun y => (y, some f)) (w ++ fresh kn (nx f)) L' := by
  have hf : f ∈ kn.map (·.1) := h.sub f (by simp)
  have hfr : ∀ y ∈ fresh kn (nx f), y ∈ nx f ∧ y ∉ kn.map (·.1) := fun y hy => by
    have := List.mem_filter.mp hy
    exact ⟨this.1, by simpa using this.2⟩
  have hkeys : (kn ++ (fresh kn (nx f)).map fun y => (y, some f)).map (·.1) = kn.map (·.1) ++ fresh kn (nx f) := by
    rw [List.map_append, List.map_map]
    congr 1
    induction fresh kn (nx f) with
    | nil => rfl
    | cons a l ih => rw [List.map_cons, ih]; rfl
  refine ⟨fun z => if z ∈ kn.map (·.1) then L z else L f + 1, ?_⟩
  have hold : ∀ z, z ∈ kn.map (·.1) → (if z ∈ kn.map (·.1) then L z else L f + 1) = L z := fun z hz => if_pos hz
  have hnew : ∀ z, z ∉ kn.map (·.1) → (if z ∈ kn.map (·.1) then L z else L f + 1) = L f + 1 := fun z hz => if_neg hz
  have hs : s ∈ kn.map (·.1) := List.mem_map.mpr ⟨_, h.st, rfl⟩
  have htop := h.top f w rfl
  refine ⟨?_, List.mem_append_left _ h.st, ?_, ?_, ?_, ?_, ?_, ?_, ?_, ?_⟩
  · rw [hkeys, List.nodup_append]
    exact ⟨h.nd, hn.filter _, fun a ha b hb e => (hfr b hb).2 (e ▸ ha)⟩
  · simp only [hold s hs]; exact h.L0
  · intro t p htp
    rw [hkeys]
    rcases List.mem_append.mp htp with z | z
    · obtain ⟨h1, h2, h3⟩ := h.par t p z
      have ht : t ∈ kn.map (·.1) := List.mem_map.mpr ⟨_, z, rfl⟩
      simp only [hold t ht, hold p h1]
      exact ⟨List.mem_append_left _ h1, h2, h3⟩
    · obtain ⟨y, hy, e⟩ := List.mem_map.mp z
      cases e
      obtain ⟨h1, h2⟩ := hfr _ hy
      simp only [hnew _ h2, hold _ hf]
      exact ⟨List.mem_append_left _ hf, h1, trivial⟩
  · intro t ht
    rcases List.mem_append.mp ht with z | z
    · exact h.non t z
    · obtain ⟨y, hy, e⟩ := List.mem_map.mp z
      cases e
  · intro x hx
    rw [hkeys]
    rcases List.mem_append.mp hx with z | z
    · exact List.mem_append_left _ (h.sub x (by simp [z]))
    · exact List.mem_append_right _ z
  · intro x hx
    rw [hkeys] at hx ⊢
    rcases List.mem_append.mp hx with z | z
    · rcases h.cl x z with q | q
      · rcases List.mem_cons.mp q with q | q
        · subst q
          refine .inr fun y hy => ?_
          simp only [hold _ hf]
          by_cases hk : y ∈ kn.map (·.1)
          · simp only [hold y hk]
            exact ⟨List.mem_append_left _ hk, htop y hk⟩
          · simp only [hnew y hk]
            refine ⟨List.mem_append_right _ (List.mem_filter.mpr ⟨hy, ?_⟩), Nat.le_refl _⟩
            simpa using hk
        · exact .inl (List.mem_append_left _ q)
      · refine .inr fun y hy => ?_
        obtain ⟨q1, q2⟩ := q y hy
        simp only [hold y q1, hold x z]
        exact ⟨List.mem_append_left _ q1, q2⟩
    · exact .inl (List.mem_append_right _ z)
  · rw [List.nodup_append]
    exact ⟨(List.nodup_cons.mp h.wn).2, hn.filter _, fun a ha b hb e => (hfr b hb).2 (e ▸ h.sub a (by simp [ha]))⟩
  · have hm := List.pairwise_cons.mp h.mono
    rw [List.pairwise_append]
    refine ⟨?_, ?_, ?_⟩
    · refine hm.2.imp_of_mem fun {a b} ha hb hab => ?_
      simp only [hold a (h.sub a (by simp [ha])), hold b (h.sub b (by simp [hb]))]
      exact hab
    · refine List.pairwise_of_forall_mem_list fun a ha b hb => ?_
      simp only [hnew a (hfr a ha).2, hnew b (hfr b hb).2]
      exact Nat.le_refl _
    · intro a ha b hb
      have hka := h.sub a (by simp [ha])
      simp only [hold a hka, hnew b (hfr b hb).2]
      exact htop a hka
  · intro g r e y hy
    rw [hkeys] at hy
    have hm := List.pairwise_cons.mp h.mono
    have hg : L f ≤ (if g ∈ kn.map (·.1) then L g else L f + 1) := by
      have hgm : g ∈ w ++ fresh kn (nx f) := by rw [e]; simp
      rcases List.mem_append.mp hgm with z | z
      · rw [hold g (h.sub g (by simp [z]))]; exact hm.1 g z
      · rw [hnew g (hfr g z).2]; omega
    rcases List.mem_append.mp hy with z | z
    · have := htop y z
      simp only [hold y z]
      omega
    · simp only [hnew y (hfr y z).2]
      omega
end
end
end WH
namespace WH
section
variable {α : Type}
theorem Bfs.many {nx : α → List α} {s : α} {kn : List (α × Option α)} {L : α → Nat} (h : Bfs nx s kn L) : ∀ (n : Nat) (t : α), t ∈ kn.map (·.1) → L t = n → ∃ l : List α, l.length = n + 1 ∧ l.Nodup ∧ ∀ x ∈ l, x ∈ kn.map (·.1) ∧ L x ≤ n := by
  intro n
  induction n with
  | zero => exact fun t ht e => ⟨[t], rfl, by simp, fun x hx => by rw [List.mem_singleton.mp hx]; exact ⟨ht, by omega⟩⟩
  | succ n ih =>
    intro t ht e
    rcases h.key ht with ⟨_, z⟩ | ⟨p, hp⟩
    · subst z; rw [h.L0] at e; cases e
    · obtain ⟨h1, h2, h3⟩ := h.par t p hp
      obtain ⟨l, l1, l2, l3⟩ := ih p h1 (by omega)
      refine ⟨t :: l, by rw [List.length_cons, l1], List.nodup_cons.mpr ⟨fun z => ?_, l2⟩, fun x hx => ?_⟩
      · have := (l3 t z).2
        omega
      · rcases List.mem_cons.mp hx with z | z
        · subst z; exact ⟨ht, by omega⟩
        · have := l3 x z
          exact ⟨this.1, by omega⟩
theorem Pth.gd {nx : α → List α} {G : α → Prop} (k : ∀ a b, G a → b ∈ nx a → G b) {n : Nat} {s t : α} {l : List α} (h : Pth nx n s t l) (hs : G s) : ∀ x ∈ l, G x := by
  induction h with
  | one => intro x hx; rw [List.mem_singleton.mp hx]; exact hs
  | cons hh _ ih =>
    intro x hx
    rcases List.mem_cons.mp hx with z | z
    · rw [z]; exact hs
    · exact ih (k _ _ hs hh) x z
end
end WH

set_option Elab.async false
set_option linter.all false
set_option maxRecDepth 100000
set_option maxHeartbeats 4000000
namespace WH
open PySem L2
/-! ### the order of stances -/
def lI (s : Sta) : List Int := [(s.1 : Int), s.2.1, s.2.2.1, s.2.2.2]
def leS (s t : Sta) : Bool := !PySem.W.dataLt (toPy (staD t)) (toPy (staD s))
theorem toPy_sta (s : Sta) : toPy (staD s) = .tuple ((lI s).map PyData.int) := by simp [staD, toPy, toPys, lI]
theorem ltS_eq (s t : Sta) : PySem.W.dataLt (toPy (staD s)) (toPy (staD t)) = decide (lI s < lI t) := by
  rw [toPy_sta, toPy_sta, PySem.W.dataLt_tuple]
  exact PySem.W.dataLt_ints _ _
theorem lI_inj {s t : Sta} (h : lI s = lI t) : s = t := by
  obtain ⟨a, b, c, d⟩ := s; obtain ⟨x, y, z, w⟩ := t
  simp [lI] at h
  simp only [Prod.mk.injEq]; omega
theorem leS_iff {s t : Sta} : leS s t = true ↔ ¬ lI t < lI s := by
  unfold leS; rw [ltS_eq]; simp
theorem leS_trans (a b c : Sta) (h1 : leS a b = true) (h2 : leS b c = true) : leS a c = true := by
  rw [leS_iff, List.not_lt] at *
  exact List.le_trans h1 h2
theorem leS_total (a b : Sta) : (leS a b || leS b a) = true := by
  rw [Bool.or_eq_true, leS_iff, leS_iff, List.not_lt, List.not_lt]
  exact List.le_total _ _
theorem leS_anti {a b : Sta} (h1 : leS a b = true) (h2 : leS b a = true) : a = b := by
  rw [leS_iff, List.not_lt] at *
  exact lI_inj (List.le_antisymm h1 h2)
def srt (l : List Sta) : List Sta := l.mergeSort leS
theorem srt_mem {l : List Sta} {s : Sta} : s ∈ srt l ↔ s ∈ l := List.mem_mergeSort
theorem srt_perm (l : List Sta) : (srt l).Perm l := List.mergeSort_perm l leS
theorem srt_pw (l : List Sta) : (srt l).Pairwise fun a b => leS a b = true := List.pairwise_mergeSort leS_trans leS_total l
theorem srt_nodup {l : List Sta} (h : l.Nodup) : (srt l).Nodup := (srt_perm l).nodup_iff.mpr h
theorem srt_len (l : List Sta) : (srt l).length = l.length := List.length_mergeSort l
/-- two ordered lists without doubles, of the same members, are equal -/
theorem ord_eq : ∀ {l m : List Sta}, l.Pairwise (fun a b => leS a b = true) → m.Pairwise (fun a b => leS a b = true) → l.Nodup → m.Nodup → (∀ s, s ∈ l ↔ s ∈ m) → l = m
  | [], [], _, _, _, _, _ => rfl
  | [], b :: m, _, _, _, _, h => by have := (h b).mpr (by simp); simp at this
  | a :: l, [], _, _, _, _, h => by have := (h a).mp (by simp); simp at this
  | a :: l, b :: m, p1, p2, n1, n2, h => by
    rw [List.pairwise_cons] at p1 p2
    rw [List.nodup_cons] at n1 n2
    have e : a = b := by
      rcases List.mem_cons.mp ((h a).mp (by simp)) with z | z
      · exact z
      · rcases List.mem_cons.mp ((h b).mpr (by simp)) with w | w
        · exact w.symm
        · exact leS_anti (p1.1 b w) (p2.1 a z)
    subst e
    congr 1
    refine ord_eq p1.2 p2.2 n1.2 n2.2 fun s => ⟨fun hs => ?_, fun hs => ?_⟩
    · rcases List.mem_cons.mp ((h s).mp (by simp [hs])) with z | z
      · subst z; exact absurd hs n1.1
      · exact z
    · rcases List.mem_cons.mp ((h s).mpr (by simp [hs])) with z | z
      · subst z; exact absurd hs n2.1
      · exact z
theorem sortL_sta (l : List Sta) : sortL (l.map staD) = (srt l).map staD := by
  unfold sortL srt
  exact (List.map_mergeSort (f := staD) (r := leS) (s := leP) fun a _ b _ => rfl).symm
theorem sortOk_sta (l : List Sta) : sortOk (l.map staD) = true := by
  unfold sortOk
  simp only [Bool.and_eq_true, List.all_eq_true, Bool.or_eq_true]
  refine ⟨⟨fun d hd => ?_, fun d hd e he => ?_⟩, .inl fun d hd => ?_⟩
  all_goals obtain ⟨s, _, rfl⟩ := List.mem_map.mp hd
  · exact pl_sta s
  · obtain ⟨t, _, rfl⟩ := List.mem_map.mp he
    simp [toPy_sta, PySem.W.alike, PySem.W.alikeAll, lI]
  · rfl
/-! ### moves -/
def chg (s : Sta) (l h : Nat) : Sta := match l with
  | 0 => (h, s.2.1, s.2.2.1, s.2.2.2)
  | 1 => (s.1, h, s.2.2.1, s.2.2.2)
  | 2 => (s.1, s.2.1, h, s.2.2.2)
  | _ => (s.1, s.2.1, s.2.2.1, h)
def rawLimb (r : Rk) (b : Bd) (s : Sta) (l : Nat) : List Sta := (((List.range r.length).filter fun h => decide (h ≠ pk s l)).map (chg s l)).filter (kept r b)
def rawNext (r : Rk) (b : Bd) (s : Sta) : List Sta := (List.range 4).flatMap (rawLimb r b s)
def nexts (r : Rk) (b : Bd) (s : Sta) : List Sta := srt (rawNext r b s)
section
variable {s : Sta}
@[simp] theorem sl_n0 : slD (staD s) none (some 0) = some (.tup []) := rfl
@[simp] theorem sl_n2 : slD (staD s) none (some 2) = some (.tup [.int s.1, .int s.2.1]) := rfl
@[simp] theorem sl_2n : slD (staD s) (some 2) none = some (.tup [.int s.2.2.1, .int s.2.2.2]) := rfl
@[simp] theorem sl_3n : slD (staD s) (some 3) none = some (.tup [.int s.2.2.2]) := rfl
@[simp] theorem sl_4n : slD (staD s) (some 4) none = some (.tup []) := rfl
end
def g_changed : GF
  | [sv, .int l, .int h], P, _ => ∃ (s : Sta) (l' h' : Nat), sv = staD s ∧ l = l' ∧ l' < 4 ∧ h = h' ∧ P (staD (chg s l' h'))
  | _, _, _ => False
/-! changed(stance, limb, hold): 0 stance, 1 limb, 2 hold -/
def N_changed : List Str := ["stance", "limb", "hold"]
def b_changed : DS := (dRet (dBin addD (dBin addD (dSl slD (dVar 0) dNo (dSome (dVar 1))) (dTup (dCons (dVar 2) dNil))) (dSl slD (dVar 0) (dSome (dBin addD (dVar 1) (dC (.int 1)))) dNo)))
theorem len_changed : ∀ ds P E, g_changed ds P E → ds.length = 3 := fun ds P E h => by
  unfold g_changed at h
  split at h <;> first | rfl | exact h.elim
theorem t_changed (ds : List D) (P : D → Prop) (h : g_changed ds P fun _ => False) : b_changed { nx := fun _ => P .non, rt := P } (startD N_changed ds) := by
  unfold g_changed at h
  split at h
  · obtain ⟨s, l, h', rfl, rfl, hl, rfl, q⟩ := h
    have : l = 0 ∨ l = 1 ∨ l = 2 ∨ l = 3 := by omega
    rcases this with rfl | rfl | rfl | rfl <;> simp [b_changed, startD, N_changed, addD] <;> exact q
  · exact h.elim
end WH

set_option Elab.async false
set_option linter.all false
set_option maxRecDepth 100000
set_option maxHeartbeats 4000000
namespace WH
open PySem L2
@[simp] theorem rockD_i {a b : Rk} : rockD a = rockD b ↔ a = b := rockD_inj
@[simp] theorem bodyD_i {a b : Bd} : bodyD a = bodyD b ↔ a = b := bodyD_inj
@[simp] theorem staD_i {a b : Sta} : staD a = staD b ↔ a = b := staD_inj
theorem ix_pk {s : Sta} {l : Nat} (h : l < 4) : ixD (staD s) (.int l) = some (.int (pk s l)) := by
  have : l = 0 ∨ l = 1 ∨ l = 2 ∨ l = 3 := by omega
  rcases this with rfl | rfl | rfl | rfl <;> rfl
theorem e_changed {s : Sta} {l h : Nat} {P : D → Prop} {E : Str → Prop} (hl : l < 4) : g_changed [staD s, .int l, .int h] P E ↔ P (staD (chg s l h)) := by
  simp only [g_changed]
  constructor
  · rintro ⟨s', l', h', e1, e2, _, e3, p⟩
    rw [staD_inj] at e1
    subst e1
    have : l = l' := by omega
    subst this
    have : h = h' := by omega
    subst this
    exact p
  · exact fun p => ⟨s, l, h, rfl, rfl, hl, rfl, p⟩
theorem chg_in {r : Rk} {s : Sta} {l h : Nat} (hs : InR r s) (hh : h < r.length) : InR r (chg s l h) := by
  unfold chg
  split
  · exact ⟨hh, hs.b, hs.c, hs.d⟩
  · exact ⟨hs.a, hh, hs.c, hs.d⟩
  · exact ⟨hs.a, hs.b, hh, hs.d⟩
  · exact ⟨hs.a, hs.b, hs.c, hh⟩
theorem rawLimb_len {r : Rk} {b : Bd} {s : Sta} {l : Nat} : (rawLimb r b s l).length ≤ r.length := by
  unfold rawLimb
  refine Nat.le_trans (List.length_filter_le _ _) ?_
  rw [List.length_map]
  refine Nat.le_trans (List.length_filter_le _ _) ?_
  simp
theorem flat_len {r : Rk} {b : Bd} {s : Sta} : ∀ l : List Nat, (l.flatMap (rawLimb r b s)).length ≤ r.length * l.length
  | [] => by simp
  | a :: l => by
    rw [List.flatMap_cons, List.length_append, List.length_cons, Nat.mul_add]
    have := flat_len (r := r) (b := b) (s := s) l
    have := rawLimb_len (r := r) (b := b) (s := s) (l := a)
    omega
def g_next_stances : GF
  | [rv, bv, sv], P, _ => ∃ r b s, rv = rockD r ∧ bv = bodyD b ∧ sv = staD s ∧ r.length ≤ 7 ∧ InR r s ∧ P (.lst ((nexts r b s).map staD))
  | _, _, _ => False
/-! next_stances(rock, body, stance): 0 rock, 1 body, 2 stance, 3 found, 4 limb, 5 some, 6 hold, 7 row -/
def N_next_stances : List Str := ["rock", "body", "stance", "found", "limb", "some", "hold", "row"]
def b_next_stances_L1 : DS := (dSeq (dSet 5 (dLc (diRange (dCons (dCB lenD (dCons (dVar 0) dNil)) dNil)) (.nm 6) (dCmp neD (dVar 6) (dBin ixD (dVar 2) (dVar 4))) (dCall g_changed (dCons (dVar 2) (dCons (dVar 4) (dCons (dVar 6) dNil)))) [6]))
      (fun E ρ => (∃ ds, ρ[3]? = some (some (Slot.own (.lst ds)))) ∧ dExt 3 (dLc (diSeq (dVar 5)) (.nm 7) (dTest (dCall g_is_kept (dCons (dVar 0) (dCons (dVar 1) (dCons (dVar 7) dNil))))) (dVar 7) [7]) E ρ))
def b_next_stances : DS := (dSeq (dOwn 3 (dLst dNil))
      (dSeq (dFor (diRange (dCons (dC (.int 4)) dNil)) (.nm 4) b_next_stances_L1)
      (dFrz 3 (dRetF (dSorted (dVar 3))))))
theorem len_next_stances : ∀ ds P E, g_next_stances ds P E → ds.length = 3 := fun ds P E h => by
  unfold g_next_stances at h
  split at h <;> first | rfl | exact h.elim
theorem ims_stas (l : List Sta) : FrOk (.lst (l.map staD)) = true := by
  show Ims (l.map staD) = true
  rw [Ims_all]
  simp [Im_sta]
theorem t_next_stances (ds : List D) (P : D → Prop) (h : g_next_stances ds P fun _ => False) : b_next_stances { nx := fun _ => P .non, rt := P } (startD N_next_stances ds) := by
  unfold g_next_stances at h
  split at h
  · obtain ⟨r, b, s, rfl, rfl, rfl, h7, hs, q⟩ := h
    simp [b_next_stances, startD, N_next_stances, -Prod.exists]
    refine for_ind (e := fun i : Nat => .int i) (fun l ρ => ∃ pre x4 x5 x6 x7, List.range 4 = pre ++ l ∧ ρ = [some (.sh (rockD r)), some (.sh (bodyD b)), some (.sh (staD s)), some (.own (.lst ((pre.flatMap (rawLimb r b s)).map staD))), x4, x5, x6, x7]) ?_ ?_ (List.range 4) _ ⟨[], none, none, none, none, rfl, rfl⟩
    · rintro a l ρ N ⟨pre, x4, x5, x6, x7, he, rfl⟩ hN
      have ha : a < 4 := List.mem_range.mp (by rw [he]; simp)
      have hp : pre.length ≤ 4 := by
        have := congrArg List.length he
        simp at this
        omega
      have hfl := flat_len (r := r) (b := b) (s := s) pre
      have hmul : r.length * pre.length ≤ 7 * 4 := Nat.mul_le_mul h7 hp
      simp [b_next_stances_L1, ix_pk ha, -Prod.exists]
      refine ⟨by omega, ?_⟩
      rw [rangeD_nat]
      refine lc_run (e := fun i : Nat => .int i) (f := fun i => staD (chg s a i)) (p := fun h => decide (h ≠ pk s a)) (List.range r.length) [] (by simp; omega) (fun i hi K1 K0 h1 => ?_) ?_
      · simp [wipeR, ix_pk ha, e_changed ha]
        by_cases hc : i = pk s a
        · simpa [hc] using h1
        · have : ¬ (i : Int) = pk s a := by omega
          rw [if_neg this]
          simpa [hc] using h1
      · simp [-Prod.exists]
        have em : (((List.range r.length).filter fun h => !decide (h = pk s a)).map fun i => staD (chg s a i)) = ((((List.range r.length).filter fun h => decide (h ≠ pk s a)).map (chg s a))).map staD := by simp [List.map_map, Function.comp_def]
        rw [em]
        refine lc_run (e := staD) (f := staD) (p := kept r b) _ [] ?_ (fun t ht K1 K0 h1 => ?_) ?_
        · simp only [List.length_nil, Nat.zero_add, List.length_map]
          exact Nat.le_trans (List.length_filter_le _ _) (by simp; omega)
        · obtain ⟨i, hi, rfl⟩ := List.mem_map.mp ht
          have hi' : i < r.length := List.mem_range.mp (List.mem_filter.mp hi).1
          simp [wipeR, e_kept (chg_in hs hi')]
          exact h1
        · have e2 : ((((List.range r.length).filter fun h => decide (h ≠ pk s a)).map (chg s a)).filter (kept r b)) = rawLimb r b s a := rfl
          rw [e2]
          have hl := rawLimb_len (r := r) (b := b) (s := s) (l := a)
          simp only [List.nil_append]
          simp
          have e3 : ((pre ++ [a]).flatMap (rawLimb r b s)).map staD = (pre.flatMap (rawLimb r b s)).map staD ++ (rawLimb r b s a).map staD := by simp [List.flatMap_append, List.map_append]
          exact ⟨by simp at hfl; omega, hN _ ⟨pre ++ [a], _, _, _, _, by rw [he]; simp, by rw [e3]⟩⟩
    · rintro ρ ⟨pre, x4, x5, x6, x7, he, rfl⟩
      simp at he
      subst he
      have hfl := flat_len (r := r) (b := b) (s := s) (List.range 4)
      have hmul : r.length * 4 ≤ 7 * 4 := Nat.mul_le_mul h7 (Nat.le_refl _)
      simp
      rw [← List.length_flatMap, sortL_sta]
      refine ⟨sortOk_sta _, ?_, ims_stas _, q⟩
      rw [List.length_range] at hfl
      omega
  · exact h.elim
end WH

set_option Elab.async false
set_option linter.all false
set_option maxRecDepth 100000
set_option maxHeartbeats 4000000
namespace WH
open PySem L2
/-! ### the graph of stances -/
theorem pk_chg {s : Sta} {l h : Nat} (hl : l < 4) : pk (chg s l h) l = h := by
  have : l = 0 ∨ l = 1 ∨ l = 2 ∨ l = 3 := by omega
  rcases this with rfl | rfl | rfl | rfl <;> rfl
theorem pk_chg_ne {s : Sta} {l k h : Nat} (hl : l < 4) (hk : k < 4) (e : k ≠ l) : pk (chg s l h) k = pk s k := by
  have h1 : l = 0 ∨ l = 1 ∨ l = 2 ∨ l = 3 := by omega
  have h2 : k = 0 ∨ k = 1 ∨ k = 2 ∨ k = 3 := by omega
  rcases h1 with rfl | rfl | rfl | rfl <;> rcases h2 with rfl | rfl | rfl | rfl <;> first | rfl | exact absurd rfl e
theorem chg_chg {s : Sta} {l h k : Nat} (hl : l < 4) : chg (chg s l h) l k = chg s l k := by
  have : l = 0 ∨ l = 1 ∨ l = 2 ∨ l = 3 := by omega
  rcases this with rfl | rfl | rfl | rfl <;> rfl
theorem chg_pk {s : Sta} {l : Nat} (hl : l < 4) : chg s l (pk s l) = s := by
  have : l = 0 ∨ l = 1 ∨ l = 2 ∨ l = 3 := by omega
  rcases this with rfl | rfl | rfl | rfl <;> rfl
theorem pk_in {r : Rk} {s : Sta} {l : Nat} (h : InR r s) : pk s l < r.length := by
  unfold pk
  split
  · exact h.a
  · exact h.b
  · exact h.c
  · exact h.d
def One (s t : Sta) : Prop := ∃ l h, l < 4 ∧ h ≠ pk s l ∧ t = chg s l h
theorem One.symm {s t : Sta} (h : One s t) : One t s := by
  obtain ⟨l, h, hl, hn, rfl⟩ := h
  exact ⟨l, pk s l, hl, by rw [pk_chg hl]; exact fun z => hn z.symm, by rw [chg_chg hl, chg_pk hl]⟩
theorem mem_nexts {r : Rk} {b : Bd} {s t : Sta} (hs : InR r s) : t ∈ nexts r b s ↔ InR r t ∧ kept r b t = true ∧ One s t := by
  unfold nexts
  rw [srt_mem]
  unfold rawNext rawLimb
  simp only [List.mem_flatMap, List.mem_range, List.mem_filter, List.mem_map, decide_eq_true_eq]
  constructor
  · rintro ⟨l, hl, ⟨h, ⟨hh, hn⟩, rfl⟩, hk⟩
    exact ⟨chg_in hs hh, hk, l, h, hl, hn, rfl⟩
  · rintro ⟨hi, hk, l, h, hl, hn, rfl⟩
    refine ⟨l, hl, ⟨h, ⟨?_, hn⟩, rfl⟩, hk⟩
    have := pk_in (l := l) hi
    rwa [pk_chg hl] at this
theorem nexts_in {r : Rk} {b : Bd} {s t : Sta} (hs : InR r s) (h : t ∈ nexts r b s) : InR r t := ((mem_nexts hs).mp h).1
theorem nexts_kept {r : Rk} {b : Bd} {s t : Sta} (hs : InR r s) (h : t ∈ nexts r b s) : kept r b t = true := ((mem_nexts hs).mp h).2.1
theorem nexts_nodup (r : Rk) (b : Bd) (s : Sta) : (nexts r b s).Nodup := by
  refine srt_nodup ?_
  unfold rawNext
  rw [List.Nodup, List.pairwise_flatMap]
  refine ⟨fun l hl => ?_, ?_⟩
  · have hl := List.mem_range.mp hl
    refine List.Pairwise.filter _ ?_
    rw [List.pairwise_map]
    refine (List.Pairwise.filter _ List.nodup_range).imp fun {x y} hxy e => hxy ?_
    have := congrArg (fun t => pk t l) e
    simpa [pk_chg hl] using this
  · refine (List.nodup_range (n := 4)).imp_of_mem fun {l k} hl hk hlk x hx y hy e => ?_
    have hl := List.mem_range.mp hl
    have hk := List.mem_range.mp hk
    unfold rawLimb at hx hy
    simp only [List.mem_filter, List.mem_map, decide_eq_true_eq] at hx hy
    obtain ⟨⟨h, ⟨_, hn⟩, rfl⟩, _⟩ := hx
    obtain ⟨⟨h', ⟨_, hn'⟩, e2⟩, _⟩ := hy
    have := congrArg (fun t => pk t l) (e.trans e2.symm)
    simp only [pk_chg hl, pk_chg_ne hk hl hlk] at this
    exact hn this
/-- good stances -/
structure Gd (r : Rk) (b : Bd) (s : Sta) : Prop where
  i : InR r s
  k : kept r b s = true
theorem nexts_gd {r : Rk} {b : Bd} {s t : Sta} (hs : InR r s) (h : t ∈ nexts r b s) : Gd r b t := ⟨nexts_in hs h, nexts_kept hs h⟩
theorem nexts_symm {r : Rk} {b : Bd} {s t : Sta} (hs : Gd r b s) (h : t ∈ nexts r b s) : s ∈ nexts r b t := by
  obtain ⟨h1, h2, h3⟩ := (mem_nexts hs.i).mp h
  exact (mem_nexts h1).mpr ⟨hs.i, hs.k, h3.symm⟩
theorem wk_gd {r : Rk} {b : Bd} {s t : Sta} {n : Nat} (h : Wk (nexts r b) n s t) (hs : Gd r b s) : Gd r b t := h.keeps (fun _ _ ha hb => nexts_gd ha.i hb) hs
theorem rch_gd {r : Rk} {b : Bd} {s t : Sta} (h : Rch (nexts r b) s t) (hs : Gd r b s) : Gd r b t := let ⟨_, w⟩ := h; wk_gd w hs
theorem wk_rev {r : Rk} {b : Bd} {s t : Sta} {n : Nat} (h : Wk (nexts r b) n s t) (hs : Gd r b s) : Wk (nexts r b) n t s := by
  induction h with
  | nil => exact .nil _
  | snoc w hu ih => exact .cons (nexts_symm (wk_gd w hs) hu) (ih hs)
theorem rch_symm {r : Rk} {b : Bd} {s t : Sta} (h : Rch (nexts r b) s t) (hs : Gd r b s) : Rch (nexts r b) t s := let ⟨n, w⟩ := h; ⟨n, wk_rev w hs⟩
/-! ### ways_from -/
def kS (s : Sta) : List Key := [.inl (s.1 : Int), .inl (s.2.1 : Int), .inl (s.2.2.1 : Int), .inl (s.2.2.2 : Int)]
@[simp] theorem asK_sta (s : Sta) : asK (staD s) = some (kS s) := rfl
theorem kS_inj {s t : Sta} : kS s = kS t ↔ s = t := by
  obtain ⟨a, b, c, d⟩ := s; obtain ⟨x, y, z, w⟩ := t
  simp only [kS, List.cons.injEq, Sum.inl.injEq, Prod.mk.injEq, and_true]
  omega
def oD : Option Sta → D
  | none => .non
  | some s => staD s
abbrev Kn := List (Sta × Option Sta)
def knD (kn : Kn) : List (D × D) := kn.map fun p => (staD p.1, oD p.2)
theorem dget_kn (t : Sta) : ∀ kn : Kn, dget (knD kn) (kS t) = (kn.find? fun p => decide (p.1 = t)).map fun p => oD p.2
  | [] => rfl
  | p :: kn => by
    have ih := dget_kn t kn
    unfold dget knD at ih ⊢
    rw [List.map_cons, List.find?_cons, List.find?_cons]
    by_cases e : p.1 = t
    · have : decide (asK (staD p.1) = some (kS t)) = true := by simp [e]
      rw [this]
      simp [e]
    · have : decide (asK (staD p.1) = some (kS t)) = false := by simp [kS_inj, e]
      rw [this]
      simp only [e, decide_false]
      exact ih
theorem dget_some {t : Sta} {kn : Kn} : (dget (knD kn) (kS t)).isSome = decide (t ∈ kn.map (·.1)) := by
  rw [dget_kn, Option.isSome_map]
  by_cases h : t ∈ kn.map (·.1)
  · obtain ⟨p, hp, e⟩ := List.mem_map.mp h
    have : (kn.find? fun p => decide (p.1 = t)).isSome = true := by
      rw [List.find?_isSome]
      exact ⟨p, hp, by simp [e]⟩
    rw [this, decide_eq_true h]
  · have : (kn.find? fun p => decide (p.1 = t)) = none := by
      rw [List.find?_eq_none]
      intro p hp
      simp only [decide_eq_true_eq]
      exact fun e => h (List.mem_map.mpr ⟨p, hp, e⟩)
    rw [this, decide_eq_false h]
    rfl
theorem dget_none {t : Sta} {kn : Kn} (h : t ∉ kn.map (·.1)) : dget (knD kn) (kS t) = none := by
  have := dget_some (t := t) (kn := kn)
  rw [decide_eq_false h] at this
  cases e : dget (knD kn) (kS t) with
  | none => rfl
  | some _ => rw [e] at this; cases this
theorem neD_nil {α : Type} {f : α → D} {l : List α} (g : ∀ a ∈ l, plN 5 (f a) = true) (h : ∀ a ∈ l, nB (f a) = true) : neD (.lst (l.map f)) (.lst []) = some (!decide (l = [])) :=
  neD_of (by simpa [plN] using g) (by simp [plN]) (by simpa [nB_lst] using h) (by simp [nB, nBs]) (by simp)
theorem neD_stas {l : List Sta} : neD (.lst (l.map staD)) (.lst []) = some (!decide (l = [])) := neD_nil (fun s _ => pl_sta s) (fun s _ => nB_sta s)
theorem len_all {r : Rk} (hr : r.length ≤ 7) {l : List Sta} (hn : l.Nodup) (hi : ∀ s ∈ l, InR r s) : l.length ≤ 2401 := by
  have h1 : l.length ≤ (allSta r.length).length := nodup_len hn fun s hs => mem_allSta.mpr (hi s hs)
  have h0 : ((allSta r.length).map lst4).length = (rowsK r.length 4).length := by rw [rowsK_all]
  rw [List.length_map, rowsK_len] at h0
  have h2 : r.length ^ 4 ≤ 7 ^ 4 := Nat.pow_le_pow_left hr 4
  omega
def g_ways_from : GF
  | [rv, bv, sv], P, _ => ∃ r b s, rv = rockD r ∧ bv = bodyD b ∧ sv = staD s ∧ r.length ≤ 7 ∧ InR r s ∧ ∀ (kn : Kn) (L : Sta → Nat), Bfs (nexts r b) s kn L → (∀ t ∈ kn.map (·.1), InR r t) → P (.dct (knD kn))
  | _, _, _ => False
/-! ways_from(rock, body, start): 0 rock, 1 body, 2 start, 3 known, 4 waiting, 5 here, 6 there -/
def N_ways_from : List Str := ["rock", "body", "start", "known", "waiting", "here", "there"]
def b_ways_from_L1 : DS := (dIfS (dCmp notInE (dVar 6) (dVarB 3)) (dSeq (dPut 3 (dVar 6) (dVar 5))
      (fun E ρ => (∃ ds, ρ[4]? = some (some (Slot.own (.lst ds)))) ∧ dApp 4 (dVar 6) E ρ)) dNext)
def b_ways_from_L2 : DS := (dSeq (dPop0 5 4)
      (dFor (diSeqE (dCall g_next_stances (dCons (dVar 0) (dCons (dVar 1) (dCons (dVar 5) dNil))))) (.nm 6) b_ways_from_L1))
def b_ways_from : DS := (dSeq (dPar 3 4 (kOwn (dDct1 (dVar 2) (dC .non)) (kOwn (dLst (dCons (dVar 2) dNil)) kNil)))
      (dSeq (dWhile (dCmp neD (dVarB 4) (dLst dNil)) b_ways_from_L2)
      (dRetO 3)))
theorem len_ways_from : ∀ ds P E, g_ways_from ds P E → ds.length = 3 := fun ds P E h => by
  unfold g_ways_from at h
  split at h <;> first | rfl | exact h.elim
theorem e_next {r : Rk} {b : Bd} {s : Sta} {P : D → Prop} {E : Str → Prop} (h7 : r.length ≤ 7) (hs : InR r s) : g_next_stances [rockD r, bodyD b, staD s] P E ↔ P (.lst ((nexts r b s).map staD)) := by
  simp only [g_next_stances]
  constructor
  · rintro ⟨r', b', s', e1, e2, e3, _, _, p⟩
    rw [rockD_inj] at e1; rw [bodyD_inj] at e2; rw [staD_inj] at e3
    subst e1; subst e2; subst e3
    exact p
  · exact fun p => ⟨r, b, s, rfl, rfl, rfl, h7, hs, p⟩
theorem fresh_snoc {kn : Kn} {l : List Sta} {t : Sta} : fresh kn (l ++ [t]) = fresh kn l ++ (if t ∈ kn.map (·.1) then [] else [t]) := by
  unfold fresh
  rw [List.filter_append]
  congr 1
  by_cases h : t ∈ kn.map (·.1)
  · rw [if_pos h]; simp [h]
  · rw [if_neg h]; simp [h]
theorem knD_app {kn kn' : Kn} : knD (kn ++ kn') = knD kn ++ knD kn' := by simp [knD]
theorem fr_kn {kn : Kn} : FrOk (.dct (knD kn)) = true := by
  show ((knD kn).all fun p => Im p.2) = true
  rw [List.all_eq_true]
  intro p hp
  obtain ⟨q, _, rfl⟩ := List.mem_map.mp hp
  show Im (oD q.2) = true
  cases q.2 with
  | none => rfl
  | some s => exact Im_sta s
theorem t_ways_from (ds : List D) (P : D → Prop) (h : g_ways_from ds P fun _ => False) : b_ways_from { nx := fun _ => P .non, rt := P } (startD N_ways_from ds) := by
  unfold g_ways_from at h
  split at h
  · obtain ⟨r, b, s, rfl, rfl, rfl, h7, hs, q⟩ := h
    simp only [b_ways_from, startD, N_ways_from, z_seq, z_par]
    simp [-Prod.exists]
    refine while_ind (fun m ρ => ∃ (kn : Kn) (wt : List Sta) (L : Sta → Nat) (x5 x6 : Option Slot), Bfi (nexts r b) s kn wt L ∧ (∀ t ∈ kn.map (·.1), InR r t) ∧ m = 2 * (2401 - kn.length) + wt.length ∧ ρ = [some (.sh (rockD r)), some (.sh (bodyD b)), some (.sh (staD s)), some (.own (.dct (knD kn))), some (.own (.lst (wt.map staD))), x5, x6]) _ ⟨[(s, none)], [s], fun _ => 0, none, none, Bfi.start _ _, by simpa using hs, rfl, rfl⟩ ?_
    rintro m ρ N ⟨kn, wt, L, x5, x6, hB, hin, rfl, rfl⟩ hN
    simp [neD_stas, -Prod.exists]
    have hkl : ∀ kn : Kn, (kn.map (·.1)).Nodup → (∀ t ∈ kn.map (·.1), InR r t) → kn.length ≤ 2401 := fun kn h1 h2 => by
      have := len_all h7 h1 h2
      simpa using this
    cases wt with
    | nil =>
      simp [-Prod.exists, fr_kn]
      exact q kn L hB.done hin
    | cons f w =>
      have hf : InR r f := hin f (hB.sub f (by simp))
      simp only [List.cons_ne_nil, if_false, b_ways_from_L2]
      simp [-Prod.exists]
      refine ⟨_, _, ⟨rfl, rfl⟩, ?_⟩
      rw [e_next h7 hf]
      simp [-Prod.exists]
      refine for_ind (e := staD) (fun l ρ => ∃ pre x6, nexts r b f = pre ++ l ∧ ρ = [some (.sh (rockD r)), some (.sh (bodyD b)), some (.sh (staD s)), some (.own (.dct (knD (kn ++ (fresh kn pre).map fun y => (y, some f))))), some (.own (.lst ((w ++ fresh kn pre).map staD))), some (.sh (staD f)), x6]) ?_ ?_ (nexts r b f) _ ⟨[], x6, rfl, by simp [fresh]⟩
      · rintro t l ρ N2 ⟨pre, x6, he, rfl⟩ hN2
        have hnd := nexts_nodup r b f
        rw [he] at hnd
        have htp : t ∉ pre := fun z => by
          have := (List.nodup_append.mp hnd).2.2 t z t (by simp)
          exact this rfl
        have ht : InR r t := nexts_in hf (by rw [he]; simp)
        have hmem : t ∈ (kn ++ (fresh kn pre).map fun y => (y, some f)).map (·.1) ↔ t ∈ kn.map (·.1) := by
          rw [List.map_append, List.mem_append]
          constructor
          · rintro (z | z)
            · exact z
            · exfalso
              obtain ⟨p, hp, e1⟩ := List.mem_map.mp z
              obtain ⟨y, hy, e2⟩ := List.mem_map.mp hp
              subst e2
              have : y = t := e1
              subst this
              exact htp (List.mem_filter.mp hy).1
          · exact .inl
        have hfl : (fresh kn pre).length ≤ 2401 := by
          have h1 : (fresh kn pre).length ≤ (nexts r b f).length := by
            rw [he, List.length_append]
            exact Nat.le_trans (List.length_filter_le _ _) (Nat.le_add_right _ _)
          have := len_all h7 (nexts_nodup r b f) fun s hs => nexts_in hf hs
          omega
        have hk := hkl kn hB.nd hin
        have hw : w.length ≤ 2401 := by
          have := len_all h7 (List.nodup_cons.mp hB.wn).2 fun t ht => hin t (hB.sub t (by simp [ht]))
          exact this
        simp [b_ways_from_L1, notInE, dget_some, -Prod.exists, -List.map_append, -List.map_map, -List.mem_map]
        have e1 : fresh kn (pre ++ [t]) = fresh kn pre ++ (if t ∈ kn.map (·.1) then [] else [t]) := fresh_snoc
        by_cases hk2 : t ∈ kn.map (·.1)
        · rw [if_pos hk2, List.append_nil] at e1
          rw [if_pos (hmem.mpr hk2)]
          exact hN2 _ ⟨pre ++ [t], _, by rw [he]; simp, by rw [e1]⟩
        · rw [if_neg hk2] at e1
          rw [if_neg (fun z => hk2 (hmem.mp z))]
          have e2 : knD (kn ++ (fresh kn pre ++ [t]).map fun y => (y, some f)) = knD (kn ++ (fresh kn pre).map fun y => (y, some f)) ++ [(staD t, staD f)] := by simp [knD, oD]
          have e3 : (w ++ (fresh kn pre ++ [t])).map staD = (w ++ fresh kn pre).map staD ++ [staD t] := by simp
          exact ⟨dget_none fun z => hk2 (hmem.mp z), by simp [knD]; omega, by omega, hN2 _ ⟨pre ++ [t], _, by rw [he]; simp, by rw [e1, e2, e3]⟩⟩
      · rintro ρ ⟨pre, x6, he, rfl⟩
        rw [List.append_nil] at he
        subst he
        obtain ⟨L', hB'⟩ := hB.step (nexts_nodup r b f)
        have hin' : ∀ t ∈ (kn ++ (fresh kn (nexts r b f)).map fun y => (y, some f)).map (·.1), InR r t := fun t ht => by
          rw [List.map_append, List.mem_append] at ht
          rcases ht with z | z
          · exact hin t z
          · obtain ⟨p, hp, e1⟩ := List.mem_map.mp z
            obtain ⟨y, hy, e2⟩ := List.mem_map.mp hp
            subst e2
            have : y = t := e1
            subst this
            exact nexts_in hf (List.mem_filter.mp hy).1
        have k1 := hkl _ hB'.nd hin'
        refine hN _ _ ?_ ⟨_, _, L', _, _, hB', hin', rfl, rfl⟩
        simp at k1 ⊢
        omega
  · exact h.elim
end WH

set_option Elab.async false
set_option linter.all false
set_option maxRecDepth 100000
set_option maxHeartbeats 4000000
namespace WH
open PySem L2
/-! ### check_stance, check_hold, check_all, moves, reachable -/
def g_check_stance : GF
  | [rv, bv, sv], P, E => ∃ r b, rv = rockD r ∧ bv = bodyD b ∧ chkS r b sv E fun _ => P .non
  | _, _, _ => False
/-! check_stance(rock, body, stance): 0 rock, 1 body, 2 stance -/
def N_check_stance : List Str := ["rock", "body", "stance"]
def b_check_stance (E : Str → Prop) : DS := (dIfS (dNot (dTest (dCall g_is_good_one (dCons (dVar 0) (dCons (dVar 1) (dCons (dVar 2) dNil)))))) (dRaise E "InvalidStance") dNext)
theorem len_check_stance : ∀ ds P E, g_check_stance ds P E → ds.length = 3 := fun ds P E h => by
  unfold g_check_stance at h
  split at h <;> first | rfl | exact h.elim
theorem e_goodone {r : Rk} {b : Bd} {v : D} {P : D → Prop} {E : Str → Prop} (h : plN 6 v = true) : g_is_good_one [rockD r, bodyD b, v] P E ↔ P (.bl (goodB r b v)) := ⟨fun ⟨r', b', v', e, _, p⟩ => by
  simp only [List.cons.injEq, rockD_inj, bodyD_inj, and_true] at e
  obtain ⟨rfl, rfl, rfl⟩ := e
  exact p, fun p => ⟨_, _, _, rfl, h, p⟩⟩
theorem t_check_stance (ds : List D) (P : D → Prop) (E : Str → Prop) (h : g_check_stance ds P E) : b_check_stance E { nx := fun _ => P .non, rt := P } (startD N_check_stance ds) := by
  match ds, h with
  | [rv, bv, sv], h =>
    obtain ⟨r, b, rfl, rfl, h⟩ := h
    simp [b_check_stance, startD, N_check_stance, e_goodone h.1]
    have h2 := h.2
    cases hc : goodB r b sv with
    | false => rw [if_neg (by simp [hc])] at h2; simpa using h2
    | true =>
      obtain ⟨s, e, hs, hk⟩ := good_of hc
      rw [if_pos hc] at h2
      simpa using h2 s e hs hk
def g_check_all : GF
  | [rv, bv, sv], P, E => chkR rv E fun r => chkB bv E fun b => chkS r b sv E fun _ => P .non
  | _, _, _ => False
/-! check_all(rock, body, stance): 0 rock, 1 body, 2 stance -/
def N_check_all : List Str := ["rock", "body", "stance"]
def b_check_all (E : Str → Prop) : DS := (dSeq (dDrop (dCallX E g_check_both (dCons (dVar 0) (dCons (dVar 1) dNil))))
      (dDrop (dCallX E g_check_stance (dCons (dVar 0) (dCons (dVar 1) (dCons (dVar 2) dNil))))))
theorem len_check_all : ∀ ds P E, g_check_all ds P E → ds.length = 3 := fun ds P E h => by
  unfold g_check_all at h
  split at h <;> first | rfl | exact h.elim
theorem t_check_all (ds : List D) (P : D → Prop) (E : Str → Prop) (h : g_check_all ds P E) : b_check_all E { nx := fun _ => P .non, rt := P } (startD N_check_all ds) := by
  match ds, h with
  | [rv, bv, sv], h =>
    simp [b_check_all, startD, N_check_all, g_check_both]
    refine chkR_mono h fun r er hr h1 => chkB_mono h1 fun b eb hb h2 => ?_
    exact ⟨r, b, er, eb, h2⟩
def g_moves : GF
  | [rv, bv, sv], P, E => chkR rv E fun r => chkB bv E fun b => chkS r b sv E fun s => P (.tup ((nexts r b s).map staD))
  | _, _, _ => False
/-! moves(rock, body, stance): 0 rock, 1 body, 2 stance -/
def N_moves : List Str := ["rock", "body", "stance"]
def b_moves (E : Str → Prop) : DS := (dSeq (dDrop (dCallX E g_check_all (dCons (dVar 0) (dCons (dVar 1) (dCons (dVar 2) dNil)))))
      (dRet (dCB tupleD (dCons (dCall g_next_stances (dCons (dVar 0) (dCons (dVar 1) (dCons (dVar 2) dNil)))) dNil))))
theorem len_moves : ∀ ds P E, g_moves ds P E → ds.length = 3 := fun ds P E h => by
  unfold g_moves at h
  split at h <;> first | rfl | exact h.elim
theorem t_moves (ds : List D) (P : D → Prop) (E : Str → Prop) (h : g_moves ds P E) : b_moves E { nx := fun _ => P .non, rt := P } (startD N_moves ds) := by
  match ds, h with
  | [rv, bv, sv], h =>
    simp [b_moves, startD, N_moves, g_check_all]
    refine chkR_mono h fun r er hr h1 => chkB_mono h1 fun b eb hb h2 => chkS_mono h2 fun s es hs hk h3 => ?_
    subst er; subst eb; subst es
    rw [e_next hr.seven hs]
    simp
    exact h3
noncomputable def reachL (r : Rk) (b : Bd) (s : Sta) : List Sta := by
  classical exact srt ((allSta r.length).filter fun t => decide (Rch (nexts r b) s t))
theorem allSta_nodup (n : Nat) : (allSta n).Nodup := by
  unfold allSta
  rw [List.Nodup, List.pairwise_flatMap]
  refine ⟨fun a _ => ?_, List.nodup_range.imp fun {a a'} h x hx y hy e => ?_⟩
  · rw [List.pairwise_flatMap]
    refine ⟨fun b _ => ?_, List.nodup_range.imp fun {b b'} h x hx y hy e => ?_⟩
    · rw [List.pairwise_flatMap]
      refine ⟨fun c _ => ?_, List.nodup_range.imp fun {c c'} h x hx y hy e => ?_⟩
      · rw [List.pairwise_map]
        exact List.nodup_range.imp fun {d d'} h e => h (by simpa using e)
      · obtain ⟨d, _, rfl⟩ := List.mem_map.mp hx
        obtain ⟨d', _, rfl⟩ := List.mem_map.mp hy
        simp at e
        exact h e.1
    · obtain ⟨c, _, hx⟩ := List.mem_flatMap.mp hx
      obtain ⟨c', _, hy⟩ := List.mem_flatMap.mp hy
      obtain ⟨d, _, rfl⟩ := List.mem_map.mp hx
      obtain ⟨d', _, rfl⟩ := List.mem_map.mp hy
      simp at e
      exact h e.1
  · obtain ⟨b, _, hx⟩ := List.mem_flatMap.mp hx
    obtain ⟨b', _, hy⟩ := List.mem_flatMap.mp hy
    obtain ⟨c, _, hx⟩ := List.mem_flatMap.mp hx
    obtain ⟨c', _, hy⟩ := List.mem_flatMap.mp hy
    obtain ⟨d, _, rfl⟩ := List.mem_map.mp hx
    obtain ⟨d', _, rfl⟩ := List.mem_map.mp hy
    simp at e
    exact h e.1
theorem mem_reachL {r : Rk} {b : Bd} {s t : Sta} (hs : InR r s) : t ∈ reachL r b s ↔ Rch (nexts r b) s t := by
  unfold reachL
  rw [srt_mem, List.mem_filter, mem_allSta]
  simp only [decide_eq_true_eq]
  exact ⟨fun h => h.2, fun h => ⟨let ⟨_, w⟩ := h; w.keeps (P := InR r) (fun a b ha hb => nexts_in ha hb) hs, h⟩⟩
theorem reachL_nodup (r : Rk) (b : Bd) (s : Sta) : (reachL r b s).Nodup := srt_nodup ((allSta_nodup _).filter _)
theorem reachL_pw (r : Rk) (b : Bd) (s : Sta) : (reachL r b s).Pairwise fun a b => leS a b = true := srt_pw _
theorem srt_reach {r : Rk} {b : Bd} {s : Sta} {kn : Kn} {L : Sta → Nat} (hs : InR r s) (h : Bfs (nexts r b) s kn L) : srt (kn.map (·.1)) = reachL r b s :=
  ord_eq (srt_pw _) (reachL_pw _ _ _) (srt_nodup h.nd) (reachL_nodup _ _ _) fun t => by rw [srt_mem, mem_reachL hs, h.mem]
theorem e_ways {r : Rk} {b : Bd} {s : Sta} {P : D → Prop} {E : Str → Prop} (h7 : r.length ≤ 7) (hs : InR r s) : g_ways_from [rockD r, bodyD b, staD s] P E ↔ ∀ (kn : Kn) (L : Sta → Nat), Bfs (nexts r b) s kn L → (∀ t ∈ kn.map (·.1), InR r t) → P (.dct (knD kn)) := by
  simp only [g_ways_from]
  constructor
  · rintro ⟨r', b', s', e1, e2, e3, _, _, p⟩
    rw [rockD_inj] at e1; rw [bodyD_inj] at e2; rw [staD_inj] at e3
    subst e1; subst e2; subst e3
    exact p
  · exact fun p => ⟨r, b, s, rfl, rfl, rfl, h7, hs, p⟩
theorem knD_fst (kn : Kn) : (knD kn).map (·.1) = (kn.map (·.1)).map staD := by simp [knD]
theorem kn_len {r : Rk} {b : Bd} {s : Sta} {kn : Kn} {L : Sta → Nat} (h7 : r.length ≤ 7) (h : Bfs (nexts r b) s kn L) (hin : ∀ t ∈ kn.map (·.1), InR r t) : kn.length ≤ 2401 := by
  have := len_all h7 h.nd hin
  simpa using this
def g_reachable : GF
  | [rv, bv, sv], P, E => chkR rv E fun r => chkB bv E fun b => chkS r b sv E fun s => P (.tup ((reachL r b s).map staD))
  | _, _, _ => False
/-! reachable(rock, body, stance): 0 rock, 1 body, 2 stance -/
def N_reachable : List Str := ["rock", "body", "stance"]
def b_reachable (E : Str → Prop) : DS := (dSeq (dDrop (dCallX E g_check_all (dCons (dVar 0) (dCons (dVar 1) (dCons (dVar 2) dNil)))))
      (dRet (dCB tupleD (dCons (dSorted (dCall g_ways_from (dCons (dVar 0) (dCons (dVar 1) (dCons (dVar 2) dNil))))) dNil))))
theorem len_reachable : ∀ ds P E, g_reachable ds P E → ds.length = 3 := fun ds P E h => by
  unfold g_reachable at h
  split at h <;> first | rfl | exact h.elim
theorem t_reachable (ds : List D) (P : D → Prop) (E : Str → Prop) (h : g_reachable ds P E) : b_reachable E { nx := fun _ => P .non, rt := P } (startD N_reachable ds) := by
  match ds, h with
  | [rv, bv, sv], h =>
    simp [b_reachable, startD, N_reachable, g_check_all]
    refine chkR_mono h fun r er hr h1 => chkB_mono h1 fun b eb hb h2 => chkS_mono h2 fun s es hs hk h3 => ?_
    subst er; subst eb; subst es
    rw [e_ways hr.seven hs]
    intro kn L hB hin
    have hl := kn_len hr.seven hB hin
    simp [knD_fst, -List.map_map, -Im_tup]
    refine ⟨sortOk_sta _, by simpa [knD] using (by omega : kn.length ≤ 100000), ?_⟩
    rw [sortL_sta, srt_reach hs hB]
    simp
    exact h3
/-! ### led_back, found_way, length, way -/
def onD : Option Nat → D
  | none => .non
  | some n => .int n
theorem dget_mem {kn : Kn} {t : Sta} {o : Option Sta} (hn : (kn.map (·.1)).Nodup) (h : (t, o) ∈ kn) : dget (knD kn) (kS t) = some (oD o) := by
  rw [dget_kn]
  have : (kn.find? fun p => decide (p.1 = t)) = some (t, o) := by
    induction kn with
    | nil => cases h
    | cons p kn ih =>
      rw [List.map_cons, List.nodup_cons] at hn
      rw [List.find?_cons]
      rcases List.mem_cons.mp h with z | z
      · subst z; simp
      · have : p.1 ≠ t := fun e => hn.1 (List.mem_map.mpr ⟨_, z, e.symm⟩)
        simp only [this, decide_false]
        exact ih hn.2 z
  rw [this]
  rfl
def g_led_back : GF
  | [.dct kv, sv], P, _ => ∃ (nx : Sta → List Sta) (s : Sta) (kn : Kn) (L : Sta → Nat) (t : Sta), kv = knD kn ∧ sv = staD t ∧ Bfs nx s kn L ∧ kn.length ≤ 2401 ∧ t ∈ kn.map (·.1) ∧ ∀ l, Pth nx (L t) s t l → P (.tup (l.map staD))
  | _, _, _ => False
/-! led_back(known, goal): 0 known, 1 goal, 2 found -/
def N_led_back : List Str := ["known", "goal", "found"]
def b_led_back_L1 : DS := (fun E ρ => (∃ ds, ρ[2]? = some (some (Slot.own (.lst ds)))) ∧ dApp 2 (dBin ixE (dVar 0) (dIxB ixE (dVarB 2) (dUn negD (dC (.int 1))))) E ρ)
def b_led_back : DS := (dSeq (dOwn 2 (dLst (dCons (dVar 1) dNil)))
      (dSeq (dWhile (dCmp notN (dBin ixE (dVar 0) (dIxB ixE (dVarB 2) (dUn negD (dC (.int 1))))) (dC .non)) b_led_back_L1)
      (dFrz 2 (dRet (dCB tupleD (dCons (dRevL (dVar 2)) dNil))))))
theorem len_led_back : ∀ ds P E, g_led_back ds P E → ds.length = 2 := fun ds P E h => by
  unfold g_led_back at h
  split at h <;> first | rfl | exact h.elim
theorem atI_last {α : Type} {l : List α} {x : α} : atI (l ++ [x]) (-1) = some x := by
  unfold atI ixN
  have : (1 : Int) ≤ (l.length : Int) + 1 := by omega
  have e : (-1 + ((l.length : Int) + 1)).toNat = l.length := by omega
  simp [this, e]
theorem t_led_back (ds : List D) (P : D → Prop) (h : g_led_back ds P fun _ => False) : b_led_back { nx := fun _ => P .non, rt := P } (startD N_led_back ds) := by
  unfold g_led_back at h
  split at h
  · obtain ⟨nx, s, kn, L, t, rfl, rfl, hB, hl, ht, q⟩ := h
    simp only [b_led_back, startD, N_led_back, z_seq, z_own]
    simp [-Prod.exists]
    have bnd : ∀ x ∈ kn.map (·.1), L x + 1 ≤ 2401 := fun x hx => by
      obtain ⟨l, l1, l2, l3⟩ := hB.many _ x hx rfl
      have := nodup_len l2 fun y hy => (l3 y hy).1
      rw [List.length_map] at this
      omega
    refine while_ind (fun m ρ => ∃ (fd : List Sta) (x : Sta), m = L x ∧ x ∈ kn.map (·.1) ∧ L x ≤ L t ∧ Pth nx (L t - L x) x t (fd ++ [x]).reverse ∧ ρ = [some (.sh (.dct (knD kn))), some (.sh (staD t)), some (.own (.lst ((fd ++ [x]).map staD)))]) _ ⟨[], t, rfl, ht, Nat.le_refl _, by rw [Nat.sub_self]; exact .one t, rfl⟩ ?_
    rintro m ρ N ⟨fd, x, rfl, hx, hle, hp, rfl⟩ hN
    have hlen := hp.len
    have hb := bnd t ht
    simp at hlen
    have hat : atI (List.map staD fd ++ [staD x]) (-1) = some (staD x) := atI_last
    simp [hat, Im_sta, -Prod.exists]
    rcases hB.key hx with ⟨h1, h2⟩ | ⟨p, h1⟩
    · rw [dget_mem hB.nd h1]
      subst h2
      rw [hB.L0, Nat.sub_zero] at hp
      have e1 : (List.map staD fd ++ [staD x]).reverse = ((fd ++ [x]).reverse).map staD := by simp
      simp only [oD, z_oPs, z_notN1]
      have := q _ hp
      simpa using this
    · obtain ⟨p1, p2, p3⟩ := hB.par x p h1
      have hlt : L p < L x := by omega
      rw [dget_mem hB.nd h1]
      simp [oD, b_led_back_L1, hat, Im_sta, dget_mem hB.nd h1, -Prod.exists]
      refine ⟨_, rfl, by omega, hN _ _ hlt ⟨fd ++ [x], p, rfl, p1, by omega, ?_, by simp⟩⟩
      have e2 : L t - L p = L t - L x + 1 := by omega
      rw [e2, List.reverse_append]
      exact .cons p2 hp
  · exact h.elim
end WH

set_option Elab.async false
set_option linter.all false
set_option maxRecDepth 100000
set_option maxHeartbeats 4000000
namespace WH
open PySem L2
def g_found_way : GF
  | [rv, bv, sv, gv], P, E => chkR rv E fun r => chkB bv E fun b => chkS r b sv E fun s => chkS r b gv E fun t => (∀ n l, dst (nexts r b) s t = some n → Pth (nexts r b) n s t l → P (.tup (l.map staD))) ∧ (dst (nexts r b) s t = none → P .non)
  | _, _, _ => False
/-! found_way(rock, body, start, goal): 0 rock, 1 body, 2 start, 3 goal, 4 known -/
def N_found_way : List Str := ["rock", "body", "start", "goal", "known"]
def b_found_way (E : Str → Prop) : DS := (dSeq (dDrop (dCallX E g_check_all (dCons (dVar 0) (dCons (dVar 1) (dCons (dVar 2) dNil)))))
      (dSeq (dDrop (dCallX E g_check_stance (dCons (dVar 0) (dCons (dVar 1) (dCons (dVar 3) dNil)))))
      (dSeq (dSet 4 (dCall g_ways_from (dCons (dVar 0) (dCons (dVar 1) (dCons (dVar 2) dNil)))))
      (dRet (dIf (dCmp inE (dVar 3) (dVar 4)) (dCall g_led_back (dCons (dVar 4) (dCons (dVar 3) dNil))) (dC .non))))))
theorem len_found_way : ∀ ds P E, g_found_way ds P E → ds.length = 4 := fun ds P E h => by
  unfold g_found_way at h
  split at h <;> first | rfl | exact h.elim
theorem e_led {nx : Sta → List Sta} {s : Sta} {kn : Kn} {L : Sta → Nat} {t : Sta} {P : D → Prop} {E : Str → Prop} (h1 : Bfs nx s kn L) (h2 : kn.length ≤ 2401) (h3 : t ∈ kn.map (·.1)) (p : ∀ l, Pth nx (L t) s t l → P (.tup (l.map staD))) : g_led_back [.dct (knD kn), staD t] P E := by
  simp only [g_led_back]
  exact ⟨nx, s, kn, L, t, rfl, rfl, h1, h2, h3, p⟩
theorem t_found_way (ds : List D) (P : D → Prop) (E : Str → Prop) (h : g_found_way ds P E) : b_found_way E { nx := fun _ => P .non, rt := P } (startD N_found_way ds) := by
  match ds, h with
  | [rv, bv, sv, gv], h =>
    simp [b_found_way, startD, N_found_way, g_check_all, -Prod.exists, -Prod.forall]
    refine chkR_mono h fun r er hr h1 => chkB_mono h1 fun b eb hb h2 => chkS_mono h2 fun s es hs hk h3 => ?_
    subst er; subst eb; subst es
    simp only [g_check_stance]
    refine ⟨r, b, rfl, rfl, chkS_mono h3 fun t et ht hkt h4 => ?_⟩
    subst et
    rw [e_ways hr.seven hs]
    intro kn L hB hin
    have hl := kn_len hr.seven hB hin
    simp [dget_some, -Prod.exists, -Prod.forall, -List.mem_map]
    by_cases hm : t ∈ kn.map (·.1)
    · rw [if_pos hm]
      refine e_led hB hl hm fun l hp => ?_
      simp
      exact h4.1 _ l (hB.dst hm) hp
    · rw [if_neg hm]
      exact h4.2 (lst_none.mpr fun n hn => hm (hB.all hn).1)
def g_length : GF
  | [rv, bv, sv, gv], P, E => chkR rv E fun r => chkB bv E fun b => chkS r b sv E fun s => chkS r b gv E fun t => P (onD (dst (nexts r b) s t))
  | _, _, _ => False
/-! length(rock, body, start, goal): 0 rock, 1 body, 2 start, 3 goal, 4 found -/
def N_length : List Str := ["rock", "body", "start", "goal", "found"]
def b_length (E : Str → Prop) : DS := (dSeq (dSet 4 (dCallX E g_found_way (dCons (dVar 0) (dCons (dVar 1) (dCons (dVar 2) (dCons (dVar 3) dNil))))))
      (dRet (dIf (dCmp notN (dVar 4) (dC .non)) (dBin subD (dCB lenD (dCons (dVar 4) dNil)) (dC (.int 1))) (dC .non))))
theorem len_length : ∀ ds P E, g_length ds P E → ds.length = 4 := fun ds P E h => by
  unfold g_length at h
  split at h <;> first | rfl | exact h.elim
theorem t_length (ds : List D) (P : D → Prop) (E : Str → Prop) (h : g_length ds P E) : b_length E { nx := fun _ => P .non, rt := P } (startD N_length ds) := by
  match ds, h with
  | [rv, bv, sv, gv], h =>
    simp [b_length, startD, N_length, g_found_way, -Prod.exists, -Prod.forall]
    refine chkR_mono h fun r er hr h1 => chkB_mono h1 fun b eb hb h2 => chkS_mono h2 fun s es hs hk h3 => chkS_mono h3 fun t et ht hkt h4 => ⟨fun n l hd hp => ?_, fun hd => ?_⟩
    · rw [hd] at h4
      have e : ((l.length : Int) - 1) = n := by have := hp.len; omega
      rw [e]
      exact h4
    · rw [hd] at h4
      exact h4
def g_way : GF
  | [rv, bv, sv, gv], P, E => chkR rv E fun r => chkB bv E fun b => chkS r b sv E fun s => chkS r b gv E fun t => (∀ n l, dst (nexts r b) s t = some n → Pth (nexts r b) n s t l → P (.tup (l.map staD))) ∧ (dst (nexts r b) s t = none → P .non)
  | _, _, _ => False
/-! way(rock, body, start, goal): 0 rock, 1 body, 2 start, 3 goal -/
def N_way : List Str := ["rock", "body", "start", "goal"]
def b_way (E : Str → Prop) : DS := (dRet (dCallX E g_found_way (dCons (dVar 0) (dCons (dVar 1) (dCons (dVar 2) (dCons (dVar 3) dNil))))))
theorem len_way : ∀ ds P E, g_way ds P E → ds.length = 4 := fun ds P E h => by
  unfold g_way at h
  split at h <;> first | rfl | exact h.elim
theorem t_way (ds : List D) (P : D → Prop) (E : Str → Prop) (h : g_way ds P E) : b_way E { nx := fun _ => P .non, rt := P } (startD N_way ds) := by
  match ds, h with
  | [rv, bv, sv, gv], h =>
    simp [b_way, startD, N_way, g_found_way, -Prod.exists, -Prod.forall]
    exact h
/-! ### is_any_way, is_way -/
def diffN (s t : Sta) : Nat := ((lst4 s).zip (lst4 t)).countP fun p => decide (p.1 ≠ p.2)
def g_differ_in_one : GF
  | [sv, tv], P, _ => ∃ s t, sv = staD s ∧ tv = staD t ∧ P (.bl (decide (diffN s t = 1)))
  | _, _, _ => False
/-! differ_in_one(one, other): 0 one, 1 other, 2 mine, 3 yours -/
def N_differ_in_one : List Str := ["one", "other", "mine", "yours"]
def b_differ_in_one : DS := (dRet (dCmpV eqD (dCB lenD (dCons (dLc (diZip (dCons (dVar 0) (dCons (dVar 1) dNil))) (.tp [2, 3]) (dCmp neD (dVar 2) (dVar 3)) (dC (.int 1)) [2, 3]) dNil)) (dC (.int 1))))
theorem len_differ_in_one : ∀ ds P E, g_differ_in_one ds P E → ds.length = 2 := fun ds P E h => by
  unfold g_differ_in_one at h
  split at h <;> first | rfl | exact h.elim
theorem zipD_map {α β : Type} {f : α → D} {g : β → D} : ∀ (l : List α) (m : List β), zipD (l.map f) (m.map g) = (l.zip m).map fun p => .pr [f p.1, g p.2]
  | [], _ => by simp [zipD]
  | _ :: _, [] => by simp [zipD]
  | a :: l, b :: m => by simp only [List.map_cons, zipD, List.zip_cons_cons, zipD_map l m]
theorem staD_lst (s : Sta) : staD s = .tup ((lst4 s).map fun i => .int (i : Nat)) := rfl
theorem t_differ_in_one (ds : List D) (P : D → Prop) (h : g_differ_in_one ds P fun _ => False) : b_differ_in_one { nx := fun _ => P .non, rt := P } (startD N_differ_in_one ds) := by
  unfold g_differ_in_one at h
  split at h
  · obtain ⟨s, t, rfl, rfl, q⟩ := h
    simp only [b_differ_in_one, startD, N_differ_in_one, z_ret, z_cmpV, z_cb, z_cons, z_nil, z_lc, z_zip, z_var, z_getS]
    simp [-Prod.exists, -Prod.forall]
    refine ⟨lst4 s |>.map fun i => .int (i : Nat), lst4 t |>.map fun i => .int (i : Nat), .inl ⟨rfl, rfl⟩, ?_⟩
    rw [zipD_map]
    refine lc_run (e := fun p : Nat × Nat => .pr [.int p.1, .int p.2]) (f := fun _ => .int 1) (p := fun p => decide (p.1 ≠ p.2)) _ [] (by simp [lst4]) (fun p hp K1 K0 h1 => ?_) ?_
    · simp [wipeR]
      by_cases hc : p.1 = p.2
      · simpa [hc] using h1
      · have : ¬ (p.1 : Int) = p.2 := by omega
        rw [if_neg this]
        simpa [hc] using h1
    · simp
      have e : (((lst4 s).zip (lst4 t)).filter fun p => !decide (p.1 = p.2)).length = diffN s t := by
        unfold diffN
        rw [List.countP_eq_length_filter]
        congr 1
        apply List.filter_congr
        intro x _
        simp
      rw [e]
      have e2 : decide ((diffN s t : Int) = 1) = decide (diffN s t = 1) := by
        by_cases h : diffN s t = 1
        · simp [h]
        · have : ¬ (diffN s t : Int) = 1 := by omega
          simp [h, this]
      rw [e2]
      exact q
  · exact h.elim
theorem diff_one {s t : Sta} : diffN s t = 1 ↔ One s t := by
  obtain ⟨a, b, c, d⟩ := s; obtain ⟨x, y, z, w⟩ := t
  unfold diffN lst4
  simp only [List.zip_cons_cons, List.zip_nil_right, List.countP_cons, List.countP_nil, decide_eq_true_eq]
  constructor
  · intro h
    by_cases h1 : a = x <;> by_cases h2 : b = y <;> by_cases h3 : c = z <;> by_cases h4 : d = w <;> simp [h1, h2, h3, h4] at h
    · exact ⟨3, w, by decide, fun e => h4 e.symm, by simp [chg, h1, h2, h3]⟩
    · exact ⟨2, z, by decide, fun e => h3 e.symm, by simp [chg, h1, h2, h4]⟩
    · exact ⟨1, y, by decide, fun e => h2 e.symm, by simp [chg, h1, h3, h4]⟩
    · exact ⟨0, x, by decide, fun e => h1 e.symm, by simp [chg, h2, h3, h4]⟩
  · rintro ⟨l, h, hl, hn, e⟩
    have : l = 0 ∨ l = 1 ∨ l = 2 ∨ l = 3 := by omega
    rcases this with rfl | rfl | rfl | rfl <;> simp [chg, pk] at e hn <;> obtain ⟨rfl, rfl, rfl, rfl⟩ := e <;> simp [Ne.symm hn]
end WH

set_option Elab.async false
set_option linter.all false
set_option maxRecDepth 100000
set_option maxHeartbeats 4000000
namespace WH
open PySem L2
theorem atI_0 {α : Type} {a : α} {l : List α} : atI (a :: l) 0 = some a := by
  have := atI_nat (xs := a :: l) (j := 0) (v := a) rfl
  simpa using this
def AnyW (r : Rk) (b : Bd) (v : D) : Prop := ∃ l n s t, v = .tup (l.map staD) ∧ Gd r b s ∧ Pth (nexts r b) n s t l
def IsW (r : Rk) (b : Bd) (s t : Sta) (v : D) : Prop := ∃ l n, v = .tup (l.map staD) ∧ Pth (nexts r b) n s t l
theorem pth_gd {r : Rk} {b : Bd} {n : Nat} {s t : Sta} {l : List Sta} (h : Pth (nexts r b) n s t l) (hs : Gd r b s) : ∀ x ∈ l, Gd r b x := h.gd (fun a c ha hc => nexts_gd ha.i hc) hs
theorem chain_pth {r : Rk} {b : Bd} : ∀ {l : List Sta} {f : Sta}, (∀ s ∈ f :: l, Gd r b s) → ((∀ p ∈ (f :: l).zip l, One p.1 p.2) ↔ ∃ n t, Pth (nexts r b) n f t (f :: l))
  | [], f, _ => ⟨fun _ => ⟨0, f, .one f⟩, fun _ p hp => by simp at hp⟩
  | g :: l, f, hg => by
    have ih := chain_pth (l := l) (f := g) fun s hs => hg s (List.mem_cons_of_mem _ hs)
    rw [List.zip_cons_cons]
    constructor
    · intro h
      obtain ⟨n, t, hp⟩ := ih.mp fun p hp => h p (List.mem_cons_of_mem _ hp)
      exact ⟨n + 1, t, .cons ((mem_nexts (hg f (by simp)).i).mpr ⟨(hg g (by simp)).i, (hg g (by simp)).k, h _ (List.mem_cons_self ..)⟩) hp⟩
    · rintro ⟨n, t, hp⟩ p hpm
      cases hp with
      | cons h1 h2 =>
        obtain ⟨q, e⟩ := h2.head
        cases e
        rcases List.mem_cons.mp hpm with z | z
        · subst z
          exact ((mem_nexts (hg f (by simp)).i).mp h1).2.2
        · exact ih.mpr ⟨_, _, h2⟩ p z
theorem cutL_1 {α : Type} {l : List α} : cutL l (some 1) none = l.tail := by
  unfold cutL
  have h1 : HT.sIx l.length 0 (some (1 : Int)) = min 1 l.length := HT.sIx_nat l.length 0 1
  have h2 : HT.sIx l.length l.length none = l.length := rfl
  rw [h1, h2]
  cases l with
  | nil => rfl
  | cons a l =>
    have : min 1 (a :: l).length = 1 := by simp
    rw [this, List.drop_one, List.tail_cons]
    apply List.take_of_length_le
    simp
theorem eqB_tnil {ds : List D} : eqB (.tup ds) (.tup []) = decide (ds = []) := by
  cases ds <;> simp [eqB, toPy, toPys, PyData.eqv, PyData.eqvAll]
theorem eqD_tnil {ds : List D} (h : plN 6 (.tup ds) = true) : eqD (.tup ds) (.tup []) = some (decide (ds = [])) := by
  unfold eqD
  rw [if_pos ⟨h, by simp [plN]⟩, eqB_tnil]
theorem goods_of {r : Rk} {b : Bd} : ∀ {ds : List D}, (∀ d ∈ ds, goodB r b d = true) → ∃ l : List Sta, ds = l.map staD ∧ ∀ s ∈ l, Gd r b s
  | [], _ => ⟨[], rfl, by simp⟩
  | d :: ds, h => by
    obtain ⟨l, rfl, hl⟩ := goods_of (ds := ds) fun d hd => h d (by simp [hd])
    obtain ⟨s, rfl, hs, hk⟩ := good_of (h d (by simp))
    refine ⟨s :: l, rfl, fun x hx => ?_⟩
    rcases List.mem_cons.mp hx with z | z
    · subst z; exact ⟨hs, hk⟩
    · exact hl x z
def g_is_any_way : GF
  | [rv, bv, v], P, _ => ∃ r b, rv = rockD r ∧ bv = bodyD b ∧ plN 6 v = true ∧ (∀ ds, v = .tup ds → ds.length ≤ 50000) ∧ ∀ bb : Bool, (bb = true ↔ AnyW r b v) → P (.bl bb)
  | _, _, _ => False
/-! is_any_way(rock, body, value): 0 rock, 1 body, 2 value, 3 row, 4 one, 5 other -/
def N_is_any_way : List Str := ["rock", "body", "value", "row", "one", "other"]
def b_is_any_way : DS := (dSeq (dIfS (dOr (dNot (dTest (dIsi "tuple" (dVar 2)))) (dOr (dCmp eqD (dVar 2) (dTup dNil)) (dNot (dTest (dCB allD (dCons (dLc (diSeq (dVar 2)) (.nm 3) dYes (dCall g_is_good_one (dCons (dVar 0) (dCons (dVar 1) (dCons (dVar 3) dNil)))) [3]) dNil)))))) (dRet (dC (.bl false))) dNext)
      (dRet (dCB allD (dCons (dLc (diZip (dCons (dVar 2) (dCons (dSl slD (dVar 2) (dSome (dC (.int 1))) dNo) dNil))) (.tp [4, 5]) dYes (dCall g_differ_in_one (dCons (dVar 4) (dCons (dVar 5) dNil))) [4, 5]) dNil))))
theorem len_is_any_way : ∀ ds P E, g_is_any_way ds P E → ds.length = 3 := fun ds P E h => by
  unfold g_is_any_way at h
  split at h <;> first | rfl | exact h.elim
theorem e_differ {s t : Sta} {P : D → Prop} {E : Str → Prop} : g_differ_in_one [staD s, staD t] P E ↔ P (.bl (decide (diffN s t = 1))) := by
  simp only [g_differ_in_one]
  constructor
  · rintro ⟨s', t', e1, e2, p⟩
    rw [staD_inj] at e1 e2
    subst e1; subst e2
    exact p
  · exact fun p => ⟨s, t, rfl, rfl, p⟩
theorem t_is_any_way (ds : List D) (P : D → Prop) (h : g_is_any_way ds P fun _ => False) : b_is_any_way { nx := fun _ => P .non, rt := P } (startD N_is_any_way ds) := by
  match ds, h with
  | [rv, bv, v], h =>
    obtain ⟨r, b, rfl, rfl, hv, hlen, q⟩ := h
    have hno := pl_no hv
    have qf : (¬ AnyW r b v) → P (.bl false) := fun h => q false ⟨fun z => by (cases z), fun z => absurd z h⟩
    cases v with
    | tup ds =>
      have hl := hlen ds rfl
      simp only [b_is_any_way, startD, N_is_any_way, z_seq, z_ifS, z_or, z_not, z_test]
      simp [isiD, eqD_tnil hv, -Prod.exists, -Prod.forall]
      have hp5 : ∀ d ∈ ds, plN 6 d = true ∧ plN 5 d = true := fun d hd => by
        have h5 : plN 5 d = true := (by simpa [plN] using hv : ∀ d ∈ ds, plN 5 d = true) d hd
        refine ⟨?_, h5⟩
        have mono : ∀ n d, plN n d = true → plN (n + 1) d = true := fun n => by
          induction n with
          | zero => intro d h; cases d <;> simp [plN] at h ⊢ <;> exact h
          | succ n ih =>
            intro d h
            cases d <;> simp [plN] at h ⊢ <;> first | exact h | exact fun x hx => ih x (h x hx)
        exact mono 5 d h5
      by_cases hnil : ds = []
      · rw [if_pos hnil]
        exact qf fun ⟨l, n, s, t, e, hs, hp⟩ => by
          obtain ⟨k, rfl⟩ := hp.head
          rw [hnil] at e
          simp at e
      rw [if_neg hnil]
      refine lc_map (e := id) (f := fun d => .bl (goodB r b d)) ds [] (by simp; omega) (fun d hd K1 h1 => ?_) ?_ |> fun z => by simpa using z
      · simp [wipeR, e_goodone (hp5 d hd).1]
        exact h1
      · simp only [List.nil_append]
        rw [asBs_map (fun d => goodB r b d)]
        simp [-Prod.exists, -Prod.forall]
        by_cases hall : ∀ d ∈ ds, goodB r b d = true
        · rw [if_pos hall]
          obtain ⟨l, rfl, hg⟩ := goods_of hall
          rw [cutL_1]
          cases l with
          | nil => exact absurd rfl hnil
          | cons f l =>
            refine ⟨(f :: l).map staD, l.map staD, ⟨rfl, rfl⟩, ?_⟩
            rw [zipD_map]
            refine lc_map (e := fun p : Sta × Sta => .pr [staD p.1, staD p.2]) (f := fun p => .bl (decide (diffN p.1 p.2 = 1))) _ [] ?_ (fun p hp K1 h1 => ?_) ?_
            · simp at hl ⊢
              omega
            · simp [wipeR, e_differ]
              simpa using h1
            · simp only [List.nil_append]
              rw [asBs_map (fun p : Sta × Sta => decide (diffN p.1 p.2 = 1))]
              simp only [Option.map_some, z_oPs, Im_bl, true_and]
              refine q _ ?_
              rw [List.all_map, List.all_eq_true]
              simp only [Function.comp, id, decide_eq_true_eq, diff_one]
              rw [chain_pth hg]
              constructor
              · rintro ⟨n, t, hp⟩
                exact ⟨_, n, f, t, rfl, hg f (by simp), hp⟩
              · rintro ⟨l', n, s, t, e, hs, hp⟩
                simp only [D.tup.injEq] at e
                have e2 := map_inj (fun _ _ h => staD_inj.mp h) e
                obtain ⟨k, rfl⟩ := hp.head
                cases e2
                exact ⟨n, t, hp⟩
        · rw [if_neg hall]
          exact qf fun ⟨l, n, s, t, e, hs, hp⟩ => hall fun d hd => by
            simp only [D.tup.injEq] at e
            subst e
            obtain ⟨x, hx, rfl⟩ := List.mem_map.mp hd
            have := pth_gd hp hs x hx
            rw [goodB_sta this.i]
            exact this.k
    | _ =>
      simp [b_is_any_way, startD, N_is_any_way, isiD] at hno ⊢
      try exact qf fun ⟨l, n, s, t, e, _⟩ => by cases e
theorem e_anyway {r : Rk} {b : Bd} {v : D} {P : D → Prop} {E : Str → Prop} (h : plN 6 v = true) (hl : ∀ ds, v = .tup ds → ds.length ≤ 50000) (p : ∀ bb : Bool, (bb = true ↔ AnyW r b v) → P (.bl bb)) : g_is_any_way [rockD r, bodyD b, v] P E := by
  simp only [g_is_any_way]
  exact ⟨r, b, rfl, rfl, h, hl, p⟩
def g_is_way : GF
  | [rv, bv, sv, gv, v], P, E => chkR rv E fun r => chkB bv E fun b => chkS r b sv E fun s => chkS r b gv E fun t => plN 6 v = true ∧ (∀ ds, v = .tup ds → ds.length ≤ 50000) ∧ ∀ bb : Bool, (bb = true ↔ IsW r b s t v) → P (.bl bb)
  | _, _, _ => False
/-! is_way(rock, body, start, goal, value): 0 rock, 1 body, 2 start, 3 goal, 4 value -/
def N_is_way : List Str := ["rock", "body", "start", "goal", "value"]
def b_is_way (E : Str → Prop) : DS := (dSeq (dDrop (dCallX E g_check_all (dCons (dVar 0) (dCons (dVar 1) (dCons (dVar 2) dNil)))))
      (dSeq (dDrop (dCallX E g_check_stance (dCons (dVar 0) (dCons (dVar 1) (dCons (dVar 3) dNil)))))
      (dRet (dAndV (dCall g_is_any_way (dCons (dVar 0) (dCons (dVar 1) (dCons (dVar 4) dNil)))) (dAndV (dCmpV eqD (dBin ixD (dVar 4) (dC (.int 0))) (dVar 2)) (dCmpV eqD (dBin ixD (dVar 4) (dUn negD (dC (.int 1)))) (dVar 3)))))))
theorem len_is_way : ∀ ds P E, g_is_way ds P E → ds.length = 5 := fun ds P E h => by
  unfold g_is_way at h
  split at h <;> first | rfl | exact h.elim
theorem eqD_sta {s t : Sta} : eqD (staD s) (staD t) = some (decide (s = t)) := eqD_of (pl_sta s) (pl_sta t) (nB_sta s) (nB_sta t) staD_inj
theorem neD_sta {s t : Sta} : neD (staD s) (staD t) = some (!decide (s = t)) := neD_of (pl_sta s) (pl_sta t) (nB_sta s) (nB_sta t) staD_inj
theorem IsW.any {r : Rk} {b : Bd} {s t : Sta} {v : D} (hs : Gd r b s) (h : IsW r b s t v) : AnyW r b v := let ⟨l, n, e, p⟩ := h; ⟨l, n, s, t, e, hs, p⟩
theorem t_is_way (ds : List D) (P : D → Prop) (E : Str → Prop) (h : g_is_way ds P E) : b_is_way E { nx := fun _ => P .non, rt := P } (startD N_is_way ds) := by
  match ds, h with
  | [rv, bv, sv, gv, v], h =>
    simp [b_is_way, startD, N_is_way, g_check_all, -Prod.exists, -Prod.forall]
    refine chkR_mono h fun r er hr h1 => chkB_mono h1 fun b eb hb h2 => chkS_mono h2 fun s es hs hk h3 => ?_
    subst er; subst eb; subst es
    simp only [g_check_stance]
    refine ⟨r, b, rfl, rfl, chkS_mono h3 fun t et ht hkt h4 => ?_⟩
    subst et
    obtain ⟨hv, hlen, q⟩ := h4
    refine e_anyway hv hlen fun bb hbb => ?_
    cases bb with
    | false =>
      simp
      refine q false ⟨fun z => by (cases z), fun z => ?_⟩
      exact absurd (hbb.mpr (z.any ⟨hs, hk⟩)) (by simp)
    | true =>
      obtain ⟨l, n, s', t', rfl, hs', hp⟩ := hbb.mp rfl
      obtain ⟨k, hk1⟩ := hp.head
      obtain ⟨k2, hk2⟩ := hp.last
      have e1 : atI (l.map staD) 0 = some (staD s') := by rw [hk1]; exact atI_0
      have e2 : atI (l.map staD) (-1) = some (staD t') := by
        rw [hk2, List.map_append]
        exact atI_last
      simp [e1, e2, eqD_sta]
      have key : IsW r b s t (.tup (l.map staD)) ↔ s' = s ∧ t' = t := by
        constructor
        · rintro ⟨l2, n2, e, hp2⟩
          simp only [D.tup.injEq] at e
          have e3 := map_inj (fun _ _ h => staD_inj.mp h) e
          subst e3
          obtain ⟨k3, hk3⟩ := hp2.head
          obtain ⟨k4, hk4⟩ := hp2.last
          rw [hk1] at hk3
          rw [hk2] at hk4
          simp at hk3 hk4
          exact ⟨hk3.1, hk4.2⟩
        · rintro ⟨rfl, rfl⟩
          exact ⟨l, n, rfl, hp⟩
      by_cases h5 : s' = s
      · rw [if_pos h5]
        refine q _ ?_
        rw [key]
        simp [h5]
      · rw [if_neg h5]
        refine q _ ?_
        rw [key]
        simp [h5]
/-! ### count_parts -/
def Parts (r : Rk) (b : Bd) (n : Nat) : Prop := ∃ reps : List Sta, reps.length = n ∧ (∀ p ∈ reps, Gd r b p) ∧ reps.Pairwise (fun p q => ¬ Rch (nexts r b) p q) ∧ ∀ s, Gd r b s → ∃ p ∈ reps, Rch (nexts r b) p s
def g_count_parts : GF
  | [rv, bv], P, E => chkR rv E fun r => chkB bv E fun b => ∀ n : Nat, Parts r b n → P (.int n)
  | _, _, _ => False
/-! count_parts(rock, body): 0 rock, 1 body, 2 rest, 3 many, 4 known, 5 row -/
def N_count_parts : List Str := ["rock", "body", "rest", "many", "known", "row"]
def b_count_parts_L1 (E : Str → Prop) : DS := (dSeq (dSet 4 (dCall g_ways_from (dCons (dVar 0) (dCons (dVar 1) (dCons (dBin ixE (dVar 2) (dC (.int 0))) dNil)))))
      (dPar 2 3 (kSh (dLc (diSeqE (dVar 2)) (.nm 5) (dCmp notInE (dVar 5) (dVar 4)) (dVar 5) [5]) (kSh (dBin addD (dVar 3) (dC (.int 1))) kNil))))
def b_count_parts (E : Str → Prop) : DS := (dSeq (dDrop (dCallX E g_check_both (dCons (dVar 0) (dCons (dVar 1) dNil))))
      (dSeq (dPar 2 3 (kSh (dCall g_good_stances (dCons (dVar 0) (dCons (dVar 1) dNil))) (kSh (dC (.int 0)) kNil)))
      (dSeq (dWhile (dCmp neD (dVar 2) (dLst dNil)) (b_count_parts_L1 E))
      (dRet (dVar 3)))))
theorem len_count_parts : ∀ ds P E, g_count_parts ds P E → ds.length = 2 := fun ds P E h => by
  unfold g_count_parts at h
  split at h <;> first | rfl | exact h.elim
theorem e_goods {r : Rk} {b : Bd} {P : D → Prop} {E : Str → Prop} (h : r.length ≤ 7) : g_good_stances [rockD r, bodyD b] P E ↔ P (.lst ((goods r b).map staD)) := ⟨fun ⟨r', b', e, _, p⟩ => by
  simp only [List.cons.injEq, rockD_inj, bodyD_inj, and_true] at e
  obtain ⟨rfl, rfl⟩ := e
  exact p, fun p => ⟨_, _, rfl, h, p⟩⟩
theorem goods_gd {r : Rk} {b : Bd} {s : Sta} : s ∈ goods r b ↔ Gd r b s := by
  rw [mem_goods]
  exact ⟨fun h => ⟨h.1, h.2⟩, fun h => ⟨h.i, h.k⟩⟩
theorem t_count_parts (ds : List D) (P : D → Prop) (E : Str → Prop) (h : g_count_parts ds P E) : b_count_parts E { nx := fun _ => P .non, rt := P } (startD N_count_parts ds) := by
  match ds, h with
  | [rv, bv], h =>
    simp only [b_count_parts, startD, N_count_parts, z_seq]
    simp [g_check_both, -Prod.exists, -Prod.forall]
    refine chkR_mono h fun r er hr h1 => chkB_mono h1 fun b eb hb h2 => ?_
    subst er; subst eb
    rw [e_goods hr.seven]
    refine while_ind (fun m ρ => ∃ (rest reps : List Sta) (x4 x5 : Option Slot), m = rest.length ∧ rest.length ≤ 2401 ∧ (∀ p ∈ reps, Gd r b p) ∧ reps.Pairwise (fun p q => ¬ Rch (nexts r b) p q) ∧ (∀ s ∈ rest, Gd r b s ∧ ∀ p ∈ reps, ¬ Rch (nexts r b) p s) ∧ (∀ s, Gd r b s → s ∈ rest ∨ ∃ p ∈ reps, Rch (nexts r b) p s) ∧
      ρ = [some (.sh (rockD r)), some (.sh (bodyD b)), some (.sh (.lst (rest.map staD))), some (.sh (.int reps.length)), x4, x5]) _ ⟨goods r b, [], none, none, rfl, goods_len hr.seven, by simp, by simp, fun s hs => ⟨goods_gd.mp hs, by simp⟩, fun s hs => .inl (goods_gd.mpr hs), rfl⟩ ?_
    rintro m ρ N ⟨rest, reps, x4, x5, rfl, hl, hg, hpw, hr1, hr2, rfl⟩ hN
    simp [neD_stas, -Prod.exists, -Prod.forall]
    cases rest with
    | nil =>
      simp
      exact h2 _ ⟨reps, rfl, hg, hpw, fun s hs => (hr2 s hs).resolve_left (by simp)⟩
    | cons f w =>
      have hf := hr1 f (by simp)
      simp only [List.cons_ne_nil, if_false, b_count_parts_L1]
      have e1 : atI (staD f :: w.map staD) 0 = some (staD f) := atI_0
      simp [e1, -Prod.exists, -Prod.forall]
      rw [e_ways hr.seven hf.1.i]
      intro kn L hB hin
      rw [← List.map_cons]
      refine lc_run (e := staD) (f := staD) (p := fun t => decide (t ∉ kn.map (·.1))) (f :: w) [] (by simp at hl ⊢; omega) (fun t ht K1 K0 h1 => ?_) ?_
      · simp [wipeR, notInE, dget_some, -List.mem_map]
        simp only [decide_eq_true_eq] at h1
        by_cases hk : t ∈ kn.map (·.1)
        · rw [if_pos hk]; rwa [if_neg (by simpa using hk)] at h1
        · rw [if_neg hk]; rwa [if_pos hk] at h1
      · simp only [List.nil_append]
        have hfk : f ∈ kn.map (·.1) := hB.mem.mpr (Rch.refl f)
        have hlt : ((f :: w).filter fun t => decide (t ∉ kn.map (·.1))).length < (f :: w).length := by
          rw [List.filter_cons]
          rw [if_neg (by simpa using hfk)]
          have := List.length_filter_le (fun t => decide (t ∉ kn.map (·.1))) w
          simp only [List.length_cons]
          omega
        have hmem : ∀ t, t ∈ (f :: w).filter (fun t => decide (t ∉ kn.map (·.1))) ↔ t ∈ f :: w ∧ ¬ Rch (nexts r b) f t := fun t => by
          rw [List.mem_filter]
          simp only [decide_eq_true_eq, hB.mem]
        refine hN _ _ hlt ⟨_, reps ++ [f], some (.sh (.dct (knD kn))), x5, rfl, by simp only [List.length_cons] at hl hlt; omega, ?_, ?_, ?_, ?_, by simp⟩
        · intro p hp
          rcases List.mem_append.mp hp with z | z
          · exact hg p z
          · rw [List.mem_singleton.mp z]; exact hf.1
        · rw [List.pairwise_append]
          refine ⟨hpw, by simp, fun p hp q hq => ?_⟩
          rw [List.mem_singleton.mp hq]
          exact hf.2 p hp
        · intro s hs
          obtain ⟨m1, m2⟩ := (hmem s).mp hs
          refine ⟨(hr1 s m1).1, fun p hp => ?_⟩
          rcases List.mem_append.mp hp with z | z
          · exact (hr1 s m1).2 p z
          · rw [List.mem_singleton.mp z]; exact m2
        · intro s hs
          rcases hr2 s hs with z | ⟨p, hp, hp2⟩
          · by_cases hc : Rch (nexts r b) f s
            · exact .inr ⟨f, by simp, hc⟩
            · exact .inl ((hmem s).mpr ⟨z, hc⟩)
          · exact .inr ⟨p, by simp [hp], hp2⟩
end WH

set_option Elab.async false
set_option linter.all false
set_option maxRecDepth 100000
set_option maxHeartbeats 4000000
namespace WH
open PySem L2
/-! ### tops -/
def tops (s : Sta) (i : Nat) : Bool := decide (s.1 = i) || decide (s.2.1 = i)
def g_does_top : GF
  | [sv, .int i], P, _ => ∃ (s : Sta) (j : Nat), sv = staD s ∧ i = j ∧ P (.bl (tops s j))
  | _, _, _ => False
/-! does_top(stance, top): 0 stance, 1 top -/
def N_does_top : List Str := ["stance", "top"]
def b_does_top : DS := (dRet (dCmpV inDD (dVar 1) (dSl slD (dVar 0) dNo (dSome (dC (.int 2))))))
theorem len_does_top : ∀ ds P E, g_does_top ds P E → ds.length = 2 := fun ds P E h => by
  unfold g_does_top at h
  split at h <;> first | rfl | exact h.elim
theorem dec_cast {a b : Nat} : decide ((a : Int) = b) = decide (a = b) := by
  by_cases h : a = b
  · simp [h]
  · have : ¬ (a : Int) = b := by omega
    simp [h, this]
theorem in_two {s : Sta} {j : Nat} : inDD (.int j) (.tup [.int s.1, .int s.2.1]) = some (tops s j) := by
  simp only [inDD]
  rw [if_pos (by simp [plN])]
  simp [eqB_int, tops, dec_cast]
theorem t_does_top (ds : List D) (P : D → Prop) (h : g_does_top ds P fun _ => False) : b_does_top { nx := fun _ => P .non, rt := P } (startD N_does_top ds) := by
  unfold g_does_top at h
  split at h
  · obtain ⟨s, j, rfl, rfl, q⟩ := h
    simp [b_does_top, startD, N_does_top, in_two]
    exact q
  · exact h.elim
theorem e_tops {s : Sta} {j : Nat} {P : D → Prop} {E : Str → Prop} : g_does_top [staD s, .int j] P E ↔ P (.bl (tops s j)) := by
  simp only [g_does_top]
  constructor
  · rintro ⟨s', j', e1, e2, p⟩
    rw [staD_inj] at e1
    subst e1
    have : j = j' := by omega
    subst this
    exact p
  · exact fun p => ⟨s, j, rfl, rfl, p⟩
def g_check_hold : GF
  | [rv, hv], P, E => ∃ r, rv = rockD r ∧ chkH r hv E fun _ => P .non
  | _, _, _ => False
/-! check_hold(rock, hold): 0 rock, 1 hold -/
def N_check_hold : List Str := ["rock", "hold"]
def b_check_hold (E : Str → Prop) : DS := (dIfS (dNot (dTest (dCall g_is_between (dCons (dVar 1) (dCons (dC (.int 0)) (dCons (dBin subD (dCB lenD (dCons (dVar 0) dNil)) (dC (.int 1))) dNil)))))) (dRaise E "InvalidHold") dNext)
theorem len_check_hold : ∀ ds P E, g_check_hold ds P E → ds.length = 2 := fun ds P E h => by
  unfold g_check_hold at h
  split at h <;> first | rfl | exact h.elim
theorem t_check_hold (ds : List D) (P : D → Prop) (E : Str → Prop) (h : g_check_hold ds P E) : b_check_hold E { nx := fun _ => P .non, rt := P } (startD N_check_hold ds) := by
  match ds, h with
  | [rv, hv], h =>
    obtain ⟨r, rfl, h⟩ := h
    simp [b_check_hold, startD, N_check_hold]
    refine ⟨hv, 0, _, rfl, ⟨6, h.1⟩, ?_⟩
    have h2 := h.2
    cases hc : isBet hv 0 ((r.length : Int) - 1) with
    | false => rw [if_neg (by simp [hc])] at h2; simpa using h2
    | true =>
      obtain ⟨i, e, hi⟩ := bet_of hc
      rw [if_pos hc] at h2
      simpa using h2 i e hi
def g_check_top : GF
  | [rv, bv, sv, hv], P, E => chkR rv E fun r => chkB bv E fun b => chkS r b sv E fun _ => chkH r hv E fun _ => P .non
  | _, _, _ => False
/-! check_top(rock, body, start, top): 0 rock, 1 body, 2 start, 3 top -/
def N_check_top : List Str := ["rock", "body", "start", "top"]
def b_check_top (E : Str → Prop) : DS := (dSeq (dDrop (dCallX E g_check_all (dCons (dVar 0) (dCons (dVar 1) (dCons (dVar 2) dNil)))))
      (dDrop (dCallX E g_check_hold (dCons (dVar 0) (dCons (dVar 3) dNil)))))
theorem len_check_top : ∀ ds P E, g_check_top ds P E → ds.length = 4 := fun ds P E h => by
  unfold g_check_top at h
  split at h <;> first | rfl | exact h.elim
theorem t_check_top (ds : List D) (P : D → Prop) (E : Str → Prop) (h : g_check_top ds P E) : b_check_top E { nx := fun _ => P .non, rt := P } (startD N_check_top ds) := by
  match ds, h with
  | [rv, bv, sv, hv], h =>
    simp [b_check_top, startD, N_check_top, g_check_all]
    refine chkR_mono h fun r er hr h1 => chkB_mono h1 fun b eb hb h2 => chkS_mono h2 fun s es hs hk h3 => ?_
    exact ⟨r, er, h3⟩
noncomputable def dTop (r : Rk) (b : Bd) (s : Sta) (i : Nat) : Option Nat := lst? fun n => ∃ t, Wk (nexts r b) n s t ∧ tops t i = true
def pD (l : List Sta) : D := .tup (l.map staD)
def g_found_climb : GF
  | [rv, bv, sv, .int i], P, _ => ∃ (r : Rk) (b : Bd) (s : Sta) (j : Nat), rv = rockD r ∧ bv = bodyD b ∧ sv = staD s ∧ i = j ∧ r.length ≤ 7 ∧ InR r s ∧ (∀ n l t, dTop r b s j = some n → Pth (nexts r b) n s t l → tops t j = true → P (pD l)) ∧ (dTop r b s j = none → P .non)
  | _, _, _ => False
/-! found_climb(rock, body, start, top): 0 rock, 1 body, 2 start, 3 top, 4 known, 5 rows, 6 there, 7 row -/
def N_found_climb : List Str := ["rock", "body", "start", "top", "known", "rows", "there", "row"]
def b_found_climb : DS := (dSeq (dSet 4 (dCall g_ways_from (dCons (dVar 0) (dCons (dVar 1) (dCons (dVar 2) dNil)))))
      (dSeq (dSet 5 (dLc (diSeqE (dVar 4)) (.nm 6) (dTest (dCall g_does_top (dCons (dVar 6) (dCons (dVar 3) dNil)))) (dCall g_led_back (dCons (dVar 4) (dCons (dVar 6) dNil))) [6]))
      (dRet (dIf (dCmp neD (dVar 5) (dLst dNil)) (dBin ixE (dMinL (dLc (diSeqE (dVar 5)) (.nm 7) dYes (dTup (dCons (dCB lenD (dCons (dVar 7) dNil)) (dCons (dVar 7) dNil))) [7])) (dC (.int 1))) (dC .non)))))
theorem len_found_climb : ∀ ds P E, g_found_climb ds P E → ds.length = 4 := fun ds P E h => by
  unfold g_found_climb at h
  split at h <;> first | rfl | exact h.elim
/-! the least of pairs (length, path) -/
def lpD (l : List Sta) : D := .tup [.int l.length, pD l]
theorem alike_stas : ∀ l m : List Sta, PySem.W.alikeAll (toPys (l.map staD)) (toPys (m.map staD)) = true
  | [], m => by simp [toPys, PySem.W.alikeAll]
  | _ :: _, [] => by simp [toPys, PySem.W.alikeAll]
  | a :: l, b :: m => by
    rw [List.map_cons, List.map_cons, toPys, toPys, PySem.W.alikeAll, alike_stas l m, toPy_sta, toPy_sta]
    simp [PySem.W.alike, PySem.W.alikeAll, lI]
theorem alike_pD (l m : List Sta) : PySem.W.alike (toPy (pD l)) (toPy (pD m)) = true := by
  unfold pD
  rw [toPy, toPy, PySem.W.alike]
  exact alike_stas l m
theorem toPy_lp (l : List Sta) : toPy (lpD l) = .tuple [.int l.length, toPy (pD l)] := by simp [lpD, toPy, toPys]
theorem lt_lp (l m : List Sta) : (PySem.W.dataLt (toPy (lpD l)) (toPy (lpD m)) = true → l.length ≤ m.length) ∧ (PySem.W.dataLt (toPy (lpD l)) (toPy (lpD m)) = false → m.length ≤ l.length) := by
  rw [toPy_lp, toPy_lp, PySem.W.dataLt_pair (by simp [PySem.W.alike]) (alike_pD l m), PySem.W.dataLt_int]
  by_cases h : l.length = m.length
  · exact ⟨fun _ => by omega, fun _ => by omega⟩
  · have hne : PyData.eqv (.int (l.length : Int)) (.int (m.length : Int)) = false := by simp [PyData.eqv]; omega
    rw [if_neg (by rw [hne]; simp)]
    exact ⟨fun q => by simp at q; omega, fun q => by simp at q; omega⟩
theorem min_lp : ∀ (ls : List (List Sta)) (l0 : List Sta), ∃ l ∈ l0 :: ls, PySem.W.minD (toPy (lpD l0)) ((ls.map lpD).map toPy) = toPy (lpD l) ∧ ∀ m ∈ l0 :: ls, l.length ≤ m.length
  | [], l0 => ⟨l0, by simp, rfl, by simp⟩
  | l1 :: ls, l0 => by
    have step : ∀ x y, PySem.W.minD x (y :: (ls.map lpD).map toPy) = PySem.W.minD (if PySem.W.dataLt y x = true then y else x) ((ls.map lpD).map toPy) := fun x y => rfl
    rw [List.map_cons, List.map_cons, step]
    have hl := lt_lp l1 l0
    by_cases h : PySem.W.dataLt (toPy (lpD l1)) (toPy (lpD l0)) = true
    · rw [if_pos h]
      obtain ⟨l, m1, m2, m3⟩ := min_lp ls l1
      refine ⟨l, List.mem_cons_of_mem _ m1, m2, fun m hm => ?_⟩
      rcases List.mem_cons.mp hm with z | z
      · subst z
        exact Nat.le_trans (m3 l1 (by simp)) (hl.1 h)
      · exact m3 m z
    · rw [if_neg h]
      obtain ⟨l, m1, m2, m3⟩ := min_lp ls l0
      refine ⟨l, ?_, m2, fun m hm => ?_⟩
      · rcases List.mem_cons.mp m1 with z | z
        · subst z; simp
        · simp [z]
      · rcases List.mem_cons.mp hm with z | z
        · subst z; exact m3 m (by simp)
        · rcases List.mem_cons.mp z with z | z
          · subst z
            exact Nat.le_trans (m3 l0 (by simp)) (hl.2 (by simpa using h))
          · exact m3 m (by simp [z])
theorem pl_pD (l : List Sta) {n : Nat} : plN (n + 2) (pD l) = true := pl_stas
theorem cmpOk_lp (ls : List (List Sta)) : cmpOk (ls.map lpD) = true := by
  unfold cmpOk
  simp only [Bool.and_eq_true, List.all_eq_true]
  refine ⟨⟨fun d hd => ?_, fun d hd e he => ?_⟩, fun d hd => ?_⟩
  all_goals obtain ⟨l, _, rfl⟩ := List.mem_map.mp hd
  · simp [lpD, plN_tup, pl_pD]
  · obtain ⟨m, _, rfl⟩ := List.mem_map.mp he
    rw [toPy_lp, toPy_lp]
    simp [PySem.W.alike, PySem.W.alikeAll, alike_pD]
  · rfl
theorem nB_pD (l : List Sta) : nB (pD l) = true := nB_stas
theorem Im_pD (l : List Sta) : Im (pD l) = true := Im_stas
theorem t_found_climb (ds : List D) (P : D → Prop) (h : g_found_climb ds P fun _ => False) : b_found_climb { nx := fun _ => P .non, rt := P } (startD N_found_climb ds) := by
  match ds, h with
  | [rv, bv, sv, .int i], h =>
    obtain ⟨r, b, s, j, rfl, rfl, rfl, rfl, h7, hs, q1, q2⟩ := h
    simp only [b_found_climb, startD, N_found_climb, z_seq, z_set, z_call, z_cons, z_nil, z_var, z_getS]
    simp only [List.map_cons, List.map_nil, List.cons_append, List.nil_append, List.getElem?_cons_zero, List.getElem?_cons_succ, z_oPs]
    rw [e_ways h7 hs]
    intro kn L hB hin
    have hl := kn_len h7 hB hin
    simp [knD_fst, -Prod.exists, -Prod.forall, -List.map_map]
    refine lc_rel (e := staD) (g := pD) (p := fun t => tops t j) (Rl := fun t l => Pth (nexts r b) (L t) s t l) (kn.map (·.1)) [] (by simp; omega) (fun t ht K1 K0 h1 => ?_) fun ys hys => ?_
    · simp [wipeR, e_tops]
      by_cases hc : tops t j = true
      · rw [if_pos hc] at h1 ⊢
        exact e_led hB hl ht fun l hp => h1 l hp
      · rw [if_neg hc] at h1 ⊢
        exact h1
    · simp only [List.nil_append]
      obtain ⟨y1, y2⟩ := paired_mem hys
      have hne : neD (.lst (ys.map pD)) (.lst []) = some (!decide (ys = [])) := neD_nil (fun l _ => pl_pD l) (fun l _ => nB_pD l)
      have hyl : ys.length ≤ 2401 := by
        have h1 := Paired.length hys
        have h2 := List.length_filter_le (fun t => tops t j) (kn.map (·.1))
        rw [List.length_map] at h2
        omega
      simp [hne, -Prod.exists, -Prod.forall]
      by_cases hnil : ys = []
      · rw [if_pos hnil]
        refine q2 (lst_none.mpr ?_)
        rintro n ⟨t, w, ht⟩
        obtain ⟨y, hy, _⟩ := y2 t (List.mem_filter.mpr ⟨(hB.all w).1, ht⟩)
        rw [hnil] at hy
        cases hy
      · rw [if_neg hnil]
        refine lc_map (e := pD) (f := lpD) ys [] (by simp; omega) (fun l _ K1 h1 => ?_) ?_
        · simp [wipeR]
          have : lenD [pD l] = some (.int l.length) := by simp [pD]
          rw [this]
          simpa [lpD] using h1
        · simp only [List.nil_append]
          cases ys with
          | nil => exact absurd rfl hnil
          | cons l0 ls =>
            refine ⟨lpD l0, ls.map lpD, rfl, cmpOk_lp (l0 :: ls), fun m hm em => ?_⟩
            obtain ⟨l, m1, m2, m3⟩ := min_lp ls l0
            rw [← List.map_cons] at hm
            obtain ⟨l', hl', rfl⟩ := List.mem_map.mp hm
            rw [m2, toPy_lp, toPy_lp] at em
            have elen : l'.length = l.length := by
              simp at em
              omega
            obtain ⟨t, ht, hp⟩ := y1 l' hl'
            obtain ⟨ht1, ht2⟩ := List.mem_filter.mp ht
            have e1 : ixE (lpD l') (.int 1) = some (pD l') := rfl
            rw [e1]
            simp only [z_oPs, Im_pD, true_and]
            refine q1 (L t) l' t (lst_some.mpr ⟨⟨t, hp.wk, ht2⟩, ?_⟩) hp ht2
            rintro n ⟨t', w, htt⟩
            obtain ⟨k1, k2⟩ := hB.all w
            obtain ⟨y, hy, hp2⟩ := y2 t' (List.mem_filter.mpr ⟨k1, htt⟩)
            have := m3 y hy
            have a1 := hp.len
            have a2 := hp2.len
            omega
end WH

set_option Elab.async false
set_option linter.all false
set_option maxRecDepth 100000
set_option maxHeartbeats 4000000
namespace WH
open PySem L2
theorem e_fclimb {r : Rk} {b : Bd} {s : Sta} {j : Nat} {P : D → Prop} {E : Str → Prop} (h7 : r.length ≤ 7) (hs : InR r s) (p1 : ∀ n l t, dTop r b s j = some n → Pth (nexts r b) n s t l → tops t j = true → P (pD l)) (p2 : dTop r b s j = none → P .non) : g_found_climb [rockD r, bodyD b, staD s, .int j] P E := by
  simp only [g_found_climb]
  exact ⟨r, b, s, j, rfl, rfl, rfl, rfl, h7, hs, p1, p2⟩
def g_climb : GF
  | [rv, bv, sv, hv], P, E => chkR rv E fun r => chkB bv E fun b => chkS r b sv E fun s => chkH r hv E fun j => (∀ n l t, dTop r b s j = some n → Pth (nexts r b) n s t l → tops t j = true → P (pD l)) ∧ (dTop r b s j = none → P .non)
  | _, _, _ => False
/-! climb(rock, body, start, top): 0 rock, 1 body, 2 start, 3 top -/
def N_climb : List Str := ["rock", "body", "start", "top"]
def b_climb (E : Str → Prop) : DS := (dSeq (dDrop (dCallX E g_check_top (dCons (dVar 0) (dCons (dVar 1) (dCons (dVar 2) (dCons (dVar 3) dNil))))))
      (dRet (dCall g_found_climb (dCons (dVar 0) (dCons (dVar 1) (dCons (dVar 2) (dCons (dVar 3) dNil)))))))
theorem len_climb : ∀ ds P E, g_climb ds P E → ds.length = 4 := fun ds P E h => by
  unfold g_climb at h
  split at h <;> first | rfl | exact h.elim
theorem t_climb (ds : List D) (P : D → Prop) (E : Str → Prop) (h : g_climb ds P E) : b_climb E { nx := fun _ => P .non, rt := P } (startD N_climb ds) := by
  match ds, h with
  | [rv, bv, sv, hv], h =>
    simp [b_climb, startD, N_climb, g_check_top, -Prod.exists, -Prod.forall]
    refine chkR_mono h fun r er hr h1 => chkB_mono h1 fun b eb hb h2 => chkS_mono h2 fun s es hs hk h3 => chkH_mono h3 fun j ej hj h4 => ?_
    subst er; subst eb; subst es; subst ej
    exact e_fclimb hr.seven hs (fun n l t a1 a2 a3 => ⟨Im_pD l, h4.1 n l t a1 a2 a3⟩) fun a => ⟨rfl, h4.2 a⟩
def g_fewest_moves : GF
  | [rv, bv, sv, hv], P, E => chkR rv E fun r => chkB bv E fun b => chkS r b sv E fun s => chkH r hv E fun j => P (onD (dTop r b s j))
  | _, _, _ => False
/-! fewest_moves(rock, body, start, top): 0 rock, 1 body, 2 start, 3 top, 4 found -/
def N_fewest_moves : List Str := ["rock", "body", "start", "top", "found"]
def b_fewest_moves (E : Str → Prop) : DS := (dSeq (dDrop (dCallX E g_check_top (dCons (dVar 0) (dCons (dVar 1) (dCons (dVar 2) (dCons (dVar 3) dNil))))))
      (dSeq (dSet 4 (dCall g_found_climb (dCons (dVar 0) (dCons (dVar 1) (dCons (dVar 2) (dCons (dVar 3) dNil))))))
      (dRet (dIf (dCmp notN (dVar 4) (dC .non)) (dBin subD (dCB lenD (dCons (dVar 4) dNil)) (dC (.int 1))) (dC .non)))))
theorem len_fewest_moves : ∀ ds P E, g_fewest_moves ds P E → ds.length = 4 := fun ds P E h => by
  unfold g_fewest_moves at h
  split at h <;> first | rfl | exact h.elim
theorem t_fewest_moves (ds : List D) (P : D → Prop) (E : Str → Prop) (h : g_fewest_moves ds P E) : b_fewest_moves E { nx := fun _ => P .non, rt := P } (startD N_fewest_moves ds) := by
  match ds, h with
  | [rv, bv, sv, hv], h =>
    simp [b_fewest_moves, startD, N_fewest_moves, g_check_top, -Prod.exists, -Prod.forall]
    refine chkR_mono h fun r er hr h1 => chkB_mono h1 fun b eb hb h2 => chkS_mono h2 fun s es hs hk h3 => chkH_mono h3 fun j ej hj h4 => ?_
    subst er; subst eb; subst es; subst ej
    refine e_fclimb hr.seven hs (fun n l t a1 a2 a3 => ?_) fun a => ?_
    · rw [a1] at h4
      have e : ((l.length : Int) - 1) = n := by have := a2.len; omega
      simp [pD, e]
      exact h4
    · rw [a] at h4
      simp
      exact h4
def IsC (r : Rk) (b : Bd) (s : Sta) (j : Nat) (v : D) : Prop := ∃ l n t, v = pD l ∧ Pth (nexts r b) n s t l ∧ tops t j = true ∧ ∀ x ∈ l.dropLast, tops x j = false
theorem cutL_m1 {α : Type} {l : List α} : cutL l none (some (-1)) = l.dropLast := by
  unfold cutL
  have h1 : HT.sIx l.length 0 none = 0 := rfl
  have h2 : HT.sIx l.length l.length (some (-1 : Int)) = l.length - 1 := by
    unfold HT.sIx
    simp only
    rw [if_pos (by decide)]
    omega
  rw [h1, h2, List.drop_zero, Nat.sub_zero, List.dropLast_eq_take]
def g_is_climb : GF
  | [rv, bv, sv, hv, v], P, E => chkR rv E fun r => chkB bv E fun b => chkS r b sv E fun s => chkH r hv E fun j => plN 6 v = true ∧ (∀ ds, v = .tup ds → ds.length ≤ 50000) ∧ ∀ bb : Bool, (bb = true ↔ IsC r b s j v) → P (.bl bb)
  | _, _, _ => False
/-! is_climb(rock, body, start, top, value): 0 rock, 1 body, 2 start, 3 top, 4 value, 5 row -/
def N_is_climb : List Str := ["rock", "body", "start", "top", "value", "row"]
def b_is_climb (E : Str → Prop) : DS := (dSeq (dDrop (dCallX E g_check_top (dCons (dVar 0) (dCons (dVar 1) (dCons (dVar 2) (dCons (dVar 3) dNil))))))
      (dSeq (dIfS (dOr (dNot (dTest (dCall g_is_any_way (dCons (dVar 0) (dCons (dVar 1) (dCons (dVar 4) dNil)))))) (dOr (dCmp neD (dBin ixD (dVar 4) (dC (.int 0))) (dVar 2)) (dNot (dTest (dCall g_does_top (dCons (dBin ixD (dVar 4) (dUn negD (dC (.int 1)))) (dCons (dVar 3) dNil))))))) (dRet (dC (.bl false))) dNext)
      (dRet (dNotV (dCB anyD (dCons (dLc (diSeq (dSl slD (dVar 4) dNo (dSome (dUn negD (dC (.int 1)))))) (.nm 5) dYes (dCall g_does_top (dCons (dVar 5) (dCons (dVar 3) dNil))) [5]) dNil))))))
theorem len_is_climb : ∀ ds P E, g_is_climb ds P E → ds.length = 5 := fun ds P E h => by
  unfold g_is_climb at h
  split at h <;> first | rfl | exact h.elim
theorem pD_inj {l m : List Sta} : pD l = pD m ↔ l = m := ⟨fun h => by
  simp only [pD, D.tup.injEq] at h
  exact map_inj (fun _ _ h => staD_inj.mp h) h, fun h => by rw [h]⟩
theorem t_is_climb (ds : List D) (P : D → Prop) (E : Str → Prop) (h : g_is_climb ds P E) : b_is_climb E { nx := fun _ => P .non, rt := P } (startD N_is_climb ds) := by
  match ds, h with
  | [rv, bv, sv, hv, v], h =>
    simp only [b_is_climb, startD, N_is_climb, z_seq]
    simp [g_check_top, -Prod.exists, -Prod.forall]
    refine chkR_mono h fun r er hr h1 => chkB_mono h1 fun b eb hb h2 => chkS_mono h2 fun s es hs hk h3 => chkH_mono h3 fun j ej hj h4 => ?_
    subst er; subst eb; subst es; subst ej
    obtain ⟨hv, hlen, q⟩ := h4
    refine e_anyway hv hlen fun bb hbb => ?_
    have qf : (¬ IsC r b s j v) → P (.bl false) := fun h => q false ⟨fun z => by (cases z), fun z => absurd z h⟩
    cases bb with
    | false =>
      simp
      refine qf ?_
      rintro ⟨l, n, t, e, hp, _⟩
      exact absurd (hbb.mpr ⟨l, n, s, t, e, ⟨hs, hk⟩, hp⟩) (by simp)
    | true =>
      obtain ⟨l, n, s', t', rfl, hs', hp⟩ := hbb.mp rfl
      obtain ⟨k, hk1⟩ := hp.head
      obtain ⟨k2, hk2⟩ := hp.last
      have e1 : atI (l.map staD) 0 = some (staD s') := by rw [hk1]; exact atI_0
      have e2 : atI (l.map staD) (-1) = some (staD t') := by
        rw [hk2, List.map_append]
        exact atI_last
      have hl50 : l.length ≤ 50000 := by have := hlen _ rfl; simpa using this
      have uniq : ∀ {n2 t2}, Pth (nexts r b) n2 s t2 l → s' = s ∧ t' = t2 := fun {n2 t2} hp2 => by
        obtain ⟨k3, hk3⟩ := hp2.head
        obtain ⟨k4, hk4⟩ := hp2.last
        rw [hk1] at hk3
        rw [hk2] at hk4
        simp at hk3 hk4
        exact ⟨hk3.1, hk4.2⟩
      simp [e1, e2, neD_sta, e_tops, cutL_m1, -Prod.exists, -Prod.forall]
      by_cases h5 : s' = s
      · rw [if_pos h5]
        by_cases h6 : tops t' j = true
        · rw [if_pos h6, ← List.map_dropLast]
          refine lc_map (e := staD) (f := fun x => .bl (tops x j)) l.dropLast [] (by simp; omega) (fun x _ K1 h1 => ?_) ?_
          · simp [wipeR, e_tops]
            exact h1
          · simp only [List.nil_append]
            rw [asBs_map (fun x => tops x j)]
            simp only [Option.map_some, z_oPs, z_asB, Im_bl, true_and]
            refine q _ ?_
            subst h5
            rw [List.any_map]
            constructor
            · intro h
              refine ⟨l, n, t', rfl, hp, h6, fun x hx => ?_⟩
              simp at h
              exact h _ _ _ _ hx
            · rintro ⟨l2, n2, t2, e, hp2, ht2, hx⟩
              have := pD_inj.mp (show pD l = pD l2 from e)
              subst this
              simp
              exact fun a b c d hx' => hx _ hx'
        · rw [if_neg h6]
          refine qf ?_
          rintro ⟨l2, n2, t2, e, hp2, ht2, _⟩
          have := pD_inj.mp (show pD l = pD l2 from e)
          subst this
          rw [(uniq hp2).2] at h6
          exact h6 ht2
      · rw [if_neg h5]
        refine qf ?_
        rintro ⟨l2, n2, t2, e, hp2, ht2, _⟩
        have := pD_inj.mp (show pD l = pD l2 from e)
        subst this
        exact h5 (uniq hp2).1
end WH

set_option Elab.async false
set_option linter.all false
set_option maxRecDepth 100000
set_option maxHeartbeats 4000000
namespace WH
open PySem L2
section
variable {r : Rk} {b : Bd} {s t : Sta} {j : Nat} {v : D} {P : D → Prop} {E : Str → Prop}
theorem e_len (hr : VR r) (hb : VB b) (hs : Gd r b s) (ht : Gd r b t) : g_length [rockD r, bodyD b, staD s, staD t] P E ↔ P (onD (dst (nexts r b) s t)) := by simp only [g_length, chkR_ok hr, chkB_ok hb, chkS_ok hs.i hs.k, chkS_ok ht.i ht.k]
theorem e_way (hr : VR r) (hb : VB b) (hs : Gd r b s) (ht : Gd r b t) : g_way [rockD r, bodyD b, staD s, staD t] P E ↔ (∀ n l, dst (nexts r b) s t = some n → Pth (nexts r b) n s t l → P (.tup (l.map staD))) ∧ (dst (nexts r b) s t = none → P .non) := by simp only [g_way, chkR_ok hr, chkB_ok hb, chkS_ok hs.i hs.k, chkS_ok ht.i ht.k]
theorem e_reach (hr : VR r) (hb : VB b) (hs : Gd r b s) : g_reachable [rockD r, bodyD b, staD s] P E ↔ P (.tup ((reachL r b s).map staD)) := by simp only [g_reachable, chkR_ok hr, chkB_ok hb, chkS_ok hs.i hs.k]
theorem e_moves (hr : VR r) (hb : VB b) (hs : Gd r b s) : g_moves [rockD r, bodyD b, staD s] P E ↔ P (.tup ((nexts r b s).map staD)) := by simp only [g_moves, chkR_ok hr, chkB_ok hb, chkS_ok hs.i hs.k]
theorem e_isway (hr : VR r) (hb : VB b) (hs : Gd r b s) (ht : Gd r b t) : g_is_way [rockD r, bodyD b, staD s, staD t, v] P E ↔ plN 6 v = true ∧ (∀ ds, v = .tup ds → ds.length ≤ 50000) ∧ ∀ bb : Bool, (bb = true ↔ IsW r b s t v) → P (.bl bb) := by simp only [g_is_way, chkR_ok hr, chkB_ok hb, chkS_ok hs.i hs.k, chkS_ok ht.i ht.k]
theorem e_few (hr : VR r) (hb : VB b) (hs : Gd r b s) (hj : j < r.length) : g_fewest_moves [rockD r, bodyD b, staD s, .int j] P E ↔ P (onD (dTop r b s j)) := by simp only [g_fewest_moves, chkR_ok hr, chkB_ok hb, chkS_ok hs.i hs.k, chkH_ok hj]
theorem e_climb (hr : VR r) (hb : VB b) (hs : Gd r b s) (hj : j < r.length) : g_climb [rockD r, bodyD b, staD s, .int j] P E ↔ (∀ n l t, dTop r b s j = some n → Pth (nexts r b) n s t l → tops t j = true → P (pD l)) ∧ (dTop r b s j = none → P .non) := by simp only [g_climb, chkR_ok hr, chkB_ok hb, chkS_ok hs.i hs.k, chkH_ok hj]
theorem e_isclimb (hr : VR r) (hb : VB b) (hs : Gd r b s) (hj : j < r.length) : g_is_climb [rockD r, bodyD b, staD s, .int j, v] P E ↔ plN 6 v = true ∧ (∀ ds, v = .tup ds → ds.length ≤ 50000) ∧ ∀ bb : Bool, (bb = true ↔ IsC r b s j v) → P (.bl bb) := by simp only [g_is_climb, chkR_ok hr, chkB_ok hb, chkS_ok hs.i hs.k, chkH_ok hj]
theorem e_parts (hr : VR r) (hb : VB b) : g_count_parts [rockD r, bodyD b] P E ↔ ∀ n : Nat, Parts r b n → P (.int n) := by simp only [g_count_parts, chkR_ok hr, chkB_ok hb]
end
/-! ### None or a number -/
theorem pl_on {n : Nat} (o : Option Nat) : plN n (onD o) = true := by cases o <;> simp [onD]
theorem nB_on (o : Option Nat) : nB (onD o) = true := by cases o <;> simp [onD, nB]
theorem onD_inj {a b : Option Nat} : onD a = onD b ↔ a = b := by
  cases a <;> cases b <;> simp [onD]
  omega
theorem neD_on {a b : Option Nat} : neD (onD a) (onD b) = some (!decide (a = b)) := neD_of (pl_on a) (pl_on b) (nB_on a) (nB_on b) onD_inj
theorem eqD_on {a b : Option Nat} : eqD (onD a) (onD b) = some (decide (a = b)) := eqD_of (pl_on a) (pl_on b) (nB_on a) (nB_on b) onD_inj
theorem isN_on {a : Option Nat} : isN (onD a) .non = some (decide (a = none)) := by cases a <;> rfl
theorem notN_on {a : Option Nat} : notN (onD a) .non = some (!decide (a = none)) := by cases a <;> rfl
@[simp] theorem isN_p {l : List Sta} : isN (pD l) .non = some false := rfl
@[simp] theorem notN_p {l : List Sta} : notN (pD l) .non = some true := rfl
theorem neD_bl {a b : Bool} : neD (.bl a) (.bl b) = some (!(a == b)) := by
  unfold neD
  rw [if_pos ⟨rfl, rfl⟩, eqB_bl]
@[simp] theorem Im_on {o : Option Nat} : Im (onD o) = true := by cases o <;> rfl
/-- the least of numbers -/
theorem foldl_min : ∀ (ns : List Int) (n : Int), (ns.foldl min n = n ∨ ns.foldl min n ∈ ns) ∧ ns.foldl min n ≤ n ∧ ∀ m ∈ ns, ns.foldl min n ≤ m
  | [], n => by simp
  | k :: ns, n => by
    obtain ⟨h1, h2, h3⟩ := foldl_min ns (min n k)
    rw [List.foldl_cons]
    refine ⟨?_, by omega, fun m hm => ?_⟩
    · rcases h1 with z | z
      · rw [z]
        rcases Int.le_total n k with c | c
        · left; omega
        · right; rw [Int.min_eq_right c]; simp
      · right; simp [z]
    · rcases List.mem_cons.mp hm with z | z
      · subst z; omega
      · exact h3 m z
def iD (n : Nat) : D := .int (n : Nat)
theorem min_nats {x : Nat} {xs : List Nat} {m : D} (hm : m ∈ iD x :: xs.map iD) (e : toPy m = PySem.W.minD (toPy (iD x)) ((xs.map iD).map toPy)) : ∃ k ∈ x :: xs, m = iD k ∧ ∀ y ∈ x :: xs, k ≤ y := by
  rw [← List.map_cons] at hm
  obtain ⟨k, hk, rfl⟩ := List.mem_map.mp hm
  refine ⟨k, hk, rfl, ?_⟩
  have e1 : (xs.map iD).map toPy = (xs.map fun (n : Nat) => (n : Int)).map PyData.int := by
    rw [List.map_map, List.map_map]
    apply List.map_congr_left
    intro a _
    simp [iD, toPy]
  have e2 : toPy (iD x) = .int x := by simp [iD, toPy]
  have e3 : toPy (iD k) = .int k := by simp [iD, toPy]
  rw [e1, e2, e3, PySem.W.minD_ints] at e
  have e4 : (k : Int) = (xs.map fun (n : Nat) => (n : Int)).foldl min (x : Int) := by injection e
  obtain ⟨_, h2, h3⟩ := foldl_min (xs.map fun (n : Nat) => (n : Int)) (x : Int)
  intro y hy
  rcases List.mem_cons.mp hy with z | z
  · subst z; omega
  · have := h3 (y : Int) (List.mem_map.mpr ⟨y, z, rfl⟩)
    omega
theorem cmpOk_nats (l : List Nat) : cmpOk (l.map iD) = true := by
  unfold cmpOk
  simp only [Bool.and_eq_true, List.all_eq_true]
  refine ⟨⟨fun d hd => ?_, fun d hd e he => ?_⟩, fun d hd => ?_⟩
  all_goals obtain ⟨k, _, rfl⟩ := List.mem_map.mp hd
  · rfl
  · obtain ⟨k', _, rfl⟩ := List.mem_map.mp he
    simp [iD, toPy, PySem.W.alike]
  · rfl
theorem neD_nats {l : List Nat} : neD (.lst (l.map iD)) (.lst []) = some (!decide (l = [])) := neD_nil (fun _ _ => rfl) (fun _ _ => rfl)
/-! ### facts of distances -/
section
variable {r : Rk} {b : Bd} {s t : Sta} {j : Nat}
theorem dst_rch {α : Type} {nx : α → List α} {s t : α} : dst nx s t ≠ none ↔ Rch nx s t := by
  constructor
  · intro h
    cases e : dst nx s t with
    | none => exact absurd e h
    | some n => exact ⟨n, (lst_some.mp e).1⟩
  · rintro ⟨n, w⟩ e
    exact lst_none.mp e n w
theorem dst_none {α : Type} {nx : α → List α} {s t : α} : dst nx s t = none ↔ ¬ Rch nx s t := by
  rw [← dst_rch]; simp
theorem dTop_none : dTop r b s j = none ↔ ∀ t, Rch (nexts r b) s t → tops t j = false := by
  unfold dTop
  rw [lst_none]
  constructor
  · intro h t ⟨n, w⟩
    cases e : tops t j with
    | false => rfl
    | true => exact absurd ⟨t, w, e⟩ (h n)
  · rintro h n ⟨t, w, e⟩
    rw [h t ⟨n, w⟩] at e
    cases e
theorem dTop_zero : dTop r b s j = some 0 ↔ tops s j = true := by
  unfold dTop
  rw [lst_some]
  constructor
  · rintro ⟨⟨t, w, e⟩, _⟩
    cases w
    exact e
  · intro h
    exact ⟨⟨s, .nil s, h⟩, fun _ _ => Nat.zero_le _⟩
theorem pth_idx {α : Type} {nx : α → List α} {n : Nat} {s t : α} {l : List α} (h : Pth nx n s t l) : ∀ x ∈ l.dropLast, ∃ m, m < n ∧ Wk nx m s x := by
  induction h with
  | one => intro x hx; simp at hx
  | cons h1 h2 ih =>
    intro x hx
    obtain ⟨k, e⟩ := h2.head
    subst e
    rw [List.dropLast_cons₂] at hx
    rcases List.mem_cons.mp hx with z | z
    · subst z; exact ⟨0, by omega, .nil _⟩
    · obtain ⟨m, h3, h4⟩ := ih x z
      exact ⟨m + 1, by omega, .cons h1 h4⟩
theorem climb_isC {n : Nat} {l : List Sta} (hd : dTop r b s j = some n) (hp : Pth (nexts r b) n s t l) (ht : tops t j = true) : IsC r b s j (pD l) := by
  refine ⟨l, n, t, rfl, hp, ht, fun x hx => ?_⟩
  obtain ⟨m, h1, h2⟩ := pth_idx hp x hx
  cases e : tops x j with
  | false => rfl
  | true =>
    have := (lst_some.mp hd).2 m ⟨x, h2, e⟩
    omega
theorem min_many {α : Type} {nx : α → List α} {s : α} : ∀ (n : Nat) (t : α), Wk nx n s t → (∀ m, Wk nx m s t → n ≤ m) → ∃ l : List α, l.length = n + 1 ∧ l.Nodup ∧ ∀ x ∈ l, ∃ m, m ≤ n ∧ Wk nx m s x := by
  intro n
  induction n with
  | zero =>
    intro t w _
    exact ⟨[t], rfl, by simp, fun x hx => by rw [List.mem_singleton.mp hx]; exact ⟨0, Nat.le_refl _, w⟩⟩
  | succ n ih =>
    intro t w hm
    cases w with
    | snoc w1 hu =>
      rename_i p
      obtain ⟨l, l1, l2, l3⟩ := ih p w1 fun m hw => by have := hm _ (hw.snoc hu); omega
      refine ⟨t :: l, by rw [List.length_cons, l1], List.nodup_cons.mpr ⟨fun z => ?_, l2⟩, fun x hx => ?_⟩
      · obtain ⟨m, h1, h2⟩ := l3 t z
        have := hm m h2
        omega
      · rcases List.mem_cons.mp hx with z | z
        · subst z; exact ⟨n + 1, Nat.le_refl _, w1.snoc hu⟩
        · obtain ⟨m, h1, h2⟩ := l3 x z
          exact ⟨m, by omega, h2⟩
theorem min_len {n : Nat} (h7 : r.length ≤ 7) (hs : Gd r b s) (w : Wk (nexts r b) n s t) (hm : ∀ m, Wk (nexts r b) m s t → n ≤ m) : n + 1 ≤ 2401 := by
  obtain ⟨l, l1, l2, l3⟩ := min_many n t w hm
  rw [← l1]
  exact len_all h7 l2 fun x hx => let ⟨m, _, w⟩ := l3 x hx; (wk_gd w hs).i
theorem dst_len {n : Nat} {l : List Sta} (h7 : r.length ≤ 7) (hs : Gd r b s) (hd : dst (nexts r b) s t = some n) (hp : Pth (nexts r b) n s t l) : l.length ≤ 2401 := by
  rw [hp.len]
  exact min_len h7 hs hp.wk (lst_some.mp hd).2
theorem dTop_len {n : Nat} {l : List Sta} (h7 : r.length ≤ 7) (hs : Gd r b s) (hd : dTop r b s j = some n) (hp : Pth (nexts r b) n s t l) (ht : tops t j = true) : l.length ≤ 2401 := by
  rw [hp.len]
  exact min_len h7 hs hp.wk fun m hw => (lst_some.mp hd).2 m ⟨t, hw, ht⟩
/-- from a neighbour -/
theorem dTop_step {o : Sta} {n : Nat} (ho : s ∈ nexts r b o) (hd : dTop r b s j = some n) : ∃ m, dTop r b o j = some m ∧ m ≤ n + 1 := by
  obtain ⟨⟨t, w, e⟩, _⟩ := lst_some.mp hd
  have h : ∃ t, Wk (nexts r b) (n + 1) o t ∧ tops t j = true := ⟨t, .cons ho w, e⟩
  obtain ⟨m, h1, h2⟩ := least (fun n => ∃ t, Wk (nexts r b) n o t ∧ tops t j = true) ⟨_, h⟩
  exact ⟨m, lst_some.mpr ⟨h1, h2⟩, h2 _ h⟩
end
end WH

set_option Elab.async false
set_option linter.all false
set_option maxRecDepth 100000
set_option maxHeartbeats 4000000
namespace WH
open PySem L2
/-! ### wider bodies, more holds -/
structure Wid (b c : Bd) : Prop where
  w0 : b.1 ≤ c.1
  w1 : b.2.1 ≤ c.2.1
  w2 : b.2.2.1 ≤ c.2.2.1
  w3 : b.2.2.2 ≤ c.2.2.2
theorem kept_wide {r : Rk} {b c : Bd} {s : Sta} (w : Wid b c) (h : kept r b s = true) : kept r c s = true := by
  rw [kept_iff] at h ⊢
  have := w.w0; have := w.w1; have := w.w2; have := w.w3
  obtain ⟨h1, h2, h3, h4, h5, h6, h7, h8, h9⟩ := h
  unfold nearL at *
  refine ⟨h1, ?_, ?_, ?_, ?_, ?_, ?_, ?_, ?_⟩ <;> omega
theorem hAt_app {r x : Rk} {i : Nat} (h : i < r.length) : hAt (r ++ x) i = hAt r i := by
  unfold hAt
  rw [List.getD_eq_getElem?_getD, List.getD_eq_getElem?_getD, List.getElem?_append_left h]
theorem InR.app {r : Rk} {s : Sta} (h : InR r s) (x : Rk) : InR (r ++ x) s := by
  have := h.a; have := h.b; have := h.c; have := h.d
  constructor <;> (rw [List.length_append]; omega)
theorem all_cong {α : Type} {l : List α} {p q : α → Bool} (h : ∀ x ∈ l, p x = q x) : l.all p = l.all q := by
  rw [Bool.eq_iff_iff, List.all_eq_true, List.all_eq_true]
  exact ⟨fun k x hx => by rw [← h x hx]; exact k x hx, fun k x hx => by rw [h x hx]; exact k x hx⟩
theorem kept_cong {r r' : Rk} {b : Bd} {s : Sta} (h : ∀ i ∈ lst4 s, hAt r' i = hAt r i) : kept r' b s = kept r b s := by
  have ha := h s.1 (by simp [lst4]); have hb := h s.2.1 (by simp [lst4]); have hc := h s.2.2.1 (by simp [lst4]); have hd := h s.2.2.2 (by simp [lst4])
  have hro : roomOk r' s = roomOk r s := all_cong fun i hi => by
    show decide (_ ≤ mOf r' i) = decide (_ ≤ mOf r i)
    rw [mOf, mOf, h i hi]
  rw [Bool.eq_iff_iff, kept_iff, kept_iff, hro]
  unfold nearL xOf yOf
  rw [ha, hb, hc, hd]
theorem kept_app {r x : Rk} {b : Bd} {s : Sta} (h : InR r s) : kept (r ++ x) b s = kept r b s := kept_cong fun i hi => hAt_app (h.mem hi)
theorem Gd.wide {r : Rk} {b c : Bd} {s : Sta} (h : Gd r b s) (w : Wid b c) : Gd r c s := ⟨h.i, kept_wide w h.k⟩
theorem Gd.app {r : Rk} {b : Bd} {s : Sta} (h : Gd r b s) (x : Rk) : Gd (r ++ x) b s := ⟨h.i.app x, by rw [kept_app h.i]; exact h.k⟩
theorem wk_wide {r : Rk} {b c : Bd} {n : Nat} {s t : Sta} (w : Wid b c) (hs : Gd r b s) (h : Wk (nexts r b) n s t) : Wk (nexts r c) n s t := by
  induction h with
  | nil => exact .nil _
  | snoc w1 hu ih =>
    have g := wk_gd w1 hs
    obtain ⟨h1, h2, h3⟩ := (mem_nexts g.i).mp hu
    exact .snoc (ih hs) ((mem_nexts g.i).mpr ⟨h1, kept_wide w h2, h3⟩)
theorem wk_app {r x : Rk} {b : Bd} {n : Nat} {s t : Sta} (hs : Gd r b s) (h : Wk (nexts r b) n s t) : Wk (nexts (r ++ x) b) n s t := by
  induction h with
  | nil => exact .nil _
  | snoc w1 hu ih =>
    have g := wk_gd w1 hs
    obtain ⟨h1, h2, h3⟩ := (mem_nexts g.i).mp hu
    exact .snoc (ih hs) ((mem_nexts (g.i.app x)).mpr ⟨h1.app x, by rw [kept_app h1]; exact h2, h3⟩)
theorem dTop_le {r r' : Rk} {b b' : Bd} {s : Sta} {j n : Nat} (k : ∀ m t, Wk (nexts r b) m s t → Wk (nexts r' b') m s t) (h : dTop r b s j = some n) : ∃ m, dTop r' b' s j = some m ∧ m ≤ n := by
  obtain ⟨⟨t, w, e⟩, _⟩ := lst_some.mp h
  have h2 : ∃ t, Wk (nexts r' b') n s t ∧ tops t j = true := ⟨t, k _ _ w, e⟩
  obtain ⟨m, a1, a2⟩ := least (fun n => ∃ t, Wk (nexts r' b') n s t ∧ tops t j = true) ⟨_, h2⟩
  exact ⟨m, lst_some.mpr ⟨a1, a2⟩, a2 _ h2⟩
theorem dst_le {r r' : Rk} {b b' : Bd} {s t : Sta} {n : Nat} (k : ∀ m t, Wk (nexts r b) m s t → Wk (nexts r' b') m s t) (h : dst (nexts r b) s t = some n) : ∃ m, dst (nexts r' b') s t = some m ∧ m ≤ n := by
  have w := (lst_some.mp h).1
  obtain ⟨m, a1, a2⟩ := least (fun n => Wk (nexts r' b') n s t) ⟨_, k _ _ w⟩
  exact ⟨m, lst_some.mpr ⟨a1, a2⟩, a2 _ (k _ _ w)⟩
/-! ### data of laws -/
@[simp] theorem it_body {b : Bd} : itemsOf (bodyD b) = some [.int b.1, .int b.2.1, .int b.2.2.1, .int b.2.2.2] := rfl
theorem add_rock {r : Rk} {x y m : Int} (h : r.length ≤ 7) : addD (rockD r) (.tup [.tup [.int x, .int y, .int m]]) = some (rockD (r ++ [(x, y, m)])) := by
  show addD (.tup _) _ = _
  rw [add_TT (by simp; omega), rockD, List.map_append]
  rfl
theorem atI_ex {α : Type} {l : List α} {i : Int} (h0 : 0 ≤ i) (h1 : i < l.length) : ∃ x ∈ l, atI l i = some x := by
  obtain ⟨n, rfl⟩ := Int.eq_ofNat_of_zero_le h0
  have hn : n < l.length := by omega
  exact ⟨l[n], List.getElem_mem hn, atI_nat (List.getElem?_eq_getElem hn)⟩
theorem ix_stas {l : List Sta} {i : Int} (h0 : 0 ≤ i) (h1 : i < l.length) : ∃ s ∈ l, atI (l.map staD) i = some (staD s) := by
  obtain ⟨d, hd, e⟩ := atI_ex (l := l.map staD) h0 (by simpa using h1)
  obtain ⟨s, hs, rfl⟩ := List.mem_map.mp hd
  exact ⟨s, hs, e⟩
theorem VR.more {r : Rk} {x y m : Int} (h : VR r) (h6 : r.length ≤ 6) (hx : 0 ≤ x ∧ x ≤ 20) (hy : 0 ≤ y ∧ y ≤ 20) (hm : 1 ≤ m ∧ m ≤ 2) (hn : ∀ h ∈ r, ¬ (h.1 = x ∧ h.2.1 = y)) : VR (r ++ [(x, y, m)]) where
  one := by simp
  seven := by simp; omega
  hold := fun h' hh => by
    rcases List.mem_append.mp hh with z | z
    · exact h.hold h' z
    · rw [List.mem_singleton.mp z]; simp; omega
  nd := by
    rw [List.map_append, List.nodup_append]
    refine ⟨h.nd, by simp, fun a ha b hb e => ?_⟩
    simp at hb
    subst hb
    obtain ⟨h', hh, e2⟩ := List.mem_map.mp ha
    rw [e] at e2
    simp only [Prod.mk.injEq] at e2
    exact hn h' hh e2
theorem eqD_stas0 {l : List Sta} : eqD (.tup (l.map staD)) (.tup []) = some (decide (l = [])) := by
  rw [eqD_tnil pl_stas]
  simp
theorem goods_pos {l : List Sta} (h : ¬ l = []) : (1 : Int) ≤ l.length := by
  have : 0 < l.length := List.length_pos_iff.mpr h
  omega
/-- what every law is worth -/
def g_law : GF := fun ds P _ => ∃ ns : List Int, ds = [.scr ns] ∧ ns.length ≤ 63 ∧ P (.bl true)
theorem len_law : ∀ ds P E, g_law ds P E → ds.length = 1 := fun ds P E ⟨v, e, _⟩ => by rw [e]; rfl
end WH

set_option Elab.async false
set_option linter.all false
set_option maxRecDepth 100000
set_option maxHeartbeats 4000000
namespace WH
open PySem L2
/-! ### barrier, is_barrier -/
theorem any_reach {r : Rk} {b : Bd} {s : Sta} {j : Nat} {kn : Kn} {L : Sta → Nat} (h : Bfs (nexts r b) s kn L) : (kn.map (·.1)).any (fun t => tops t j) = !decide (dTop r b s j = none) := by
  rw [Bool.eq_iff_iff, List.any_eq_true]
  simp only [Bool.not_eq_true', decide_eq_false_iff_not, dTop_none]
  constructor
  · rintro ⟨t, h1, h2⟩ h3
    rw [h3 t (h.mem.mp h1)] at h2
    cases h2
  · intro h1
    apply Classical.byContradiction
    intro h2
    apply h1
    intro t ht
    cases e : tops t j with
    | false => rfl
    | true => exact absurd ⟨t, h.mem.mpr ht, e⟩ h2
def g_barrier : GF
  | [rv, bv, sv, hv], P, E => chkR rv E fun r => chkB bv E fun b => chkS r b sv E fun s => chkH r hv E fun j => (dTop r b s j = none → P (pD (reachL r b s))) ∧ (dTop r b s j ≠ none → P .non)
  | _, _, _ => False
/-! barrier(rock, body, start, top): 0 rock, 1 body, 2 start, 3 top, 4 known, 5 row -/
def N_barrier : List Str := ["rock", "body", "start", "top", "known", "row"]
def b_barrier (E : Str → Prop) : DS := (dSeq (dDrop (dCallX E g_check_top (dCons (dVar 0) (dCons (dVar 1) (dCons (dVar 2) (dCons (dVar 3) dNil))))))
      (dSeq (dSet 4 (dCall g_ways_from (dCons (dVar 0) (dCons (dVar 1) (dCons (dVar 2) dNil)))))
      (dRet (dIf (dTest (dCB anyD (dCons (dLc (diSeqE (dVar 4)) (.nm 5) dYes (dCall g_does_top (dCons (dVar 5) (dCons (dVar 3) dNil))) [5]) dNil))) (dC .non) (dCB tupleD (dCons (dSorted (dVar 4)) dNil))))))
theorem len_barrier : ∀ ds P E, g_barrier ds P E → ds.length = 4 := fun ds P E h => by
  unfold g_barrier at h
  split at h <;> first | rfl | exact h.elim
theorem t_barrier (ds : List D) (P : D → Prop) (E : Str → Prop) (h : g_barrier ds P E) : b_barrier E { nx := fun _ => P .non, rt := P } (startD N_barrier ds) := by
  match ds, h with
  | [rv, bv, sv, hv], h =>
    simp only [b_barrier, startD, N_barrier, z_seq]
    simp [g_check_top, -Prod.exists, -Prod.forall]
    refine chkR_mono h fun r er hr h1 => chkB_mono h1 fun b eb hb h2 => chkS_mono h2 fun s es hs hk h3 => chkH_mono h3 fun j ej hj h4 => ?_
    subst er; subst eb; subst es; subst ej
    rw [e_ways hr.seven hs]
    intro kn L hB hin
    have hl := kn_len hr.seven hB hin
    simp [knD_fst, -List.map_map, -Prod.exists, -Prod.forall]
    refine lc_map (e := staD) (f := fun t => .bl (tops t j)) (kn.map (·.1)) [] (by simp; omega) (fun t ht K1 h1 => ?_) ?_
    · simp [wipeR, e_tops]
      exact h1
    · simp only [List.nil_append]
      rw [asBs_map (fun t => tops t j)]
      simp only [Option.map_some, z_oPs, z_asB]
      rw [List.any_map]
      have := any_reach (j := j) hB
      by_cases hd : dTop r b s j = none
      · rw [if_neg (by show ¬ ((kn.map (·.1)).any fun t => tops t j) = true; rw [this]; simp [hd])]
        refine ⟨sortOk_sta _, by omega, ?_⟩
        rw [sortL_sta, srt_reach hs hB]
        exact ⟨Im_pD _, h4.1 hd⟩
      · rw [if_pos (by show ((kn.map (·.1)).any fun t => tops t j) = true; rw [this]; simp [hd])]
        exact h4.2 hd
def ltS (s t : Sta) : Bool := decide (lI s < lI t)
theorem lexLt_lt : ∀ a b : List Int, HT.lexLt a b = decide (a < b)
  | [], [] => by rw [HT.lexLt_nil_nil]; simp
  | [], _ :: _ => by rw [HT.lexLt_nil_cons]; simp
  | _ :: _, [] => by rw [HT.lexLt_cons_nil]; simp
  | a :: l, b :: m => by
    rw [HT.lexLt_cons, lexLt_lt l m]
    by_cases h : a = b
    · subst h
      simp [List.cons_lt_cons_iff]
    · rw [if_neg h]
      simp [List.cons_lt_cons_iff, h]
theorem ltE_sta {s t : Sta} : ltE (staD s) (staD t) = some (ltS s t) := by
  show some (HT.lexLt (lI s) (lI t)) = _
  rw [lexLt_lt]
  rfl
theorem ltS_iff {s t : Sta} : ltS s t = true ↔ leS s t = true ∧ s ≠ t := by
  rw [leS_iff]
  simp only [ltS, decide_eq_true_eq]
  constructor
  · intro h
    exact ⟨fun z => List.lt_irrefl _ (List.lt_trans h z), fun z => by subst z; exact List.lt_irrefl _ h⟩
  · rintro ⟨h1, h2⟩
    rw [List.not_lt] at h1
    rcases List.le_iff_lt_or_eq.mp h1 with z | z
    · exact z
    · exact absurd (lI_inj z) h2
theorem ltS_trans {a b c : Sta} (h1 : ltS a b = true) (h2 : ltS b c = true) : ltS a c = true := by
  simp only [ltS, decide_eq_true_eq] at *
  exact List.lt_trans h1 h2
def Asc (l : List Sta) : Prop := l.Pairwise fun a b => ltS a b = true
theorem chain_asc : ∀ l : List Sta, (∀ p ∈ l.zip l.tail, ltS p.1 p.2 = true) ↔ Asc l
  | [] => by simp [Asc]
  | [a] => by simp [Asc]
  | a :: b :: l => by
    have ih := chain_asc (b :: l)
    unfold Asc at ih ⊢
    rw [List.tail_cons, List.zip_cons_cons, List.pairwise_cons, ← ih, List.tail_cons]
    constructor
    · intro h
      have h1 := h (a, b) (by simp)
      have h2 : ∀ p ∈ (b :: l).zip l, ltS p.1 p.2 = true := fun p hp => h p (List.mem_cons_of_mem _ hp)
      refine ⟨fun x hx => ?_, h2⟩
      rcases List.mem_cons.mp hx with z | z
      · subst z; exact h1
      · exact ltS_trans h1 ((List.pairwise_cons.mp (ih.mp h2)).1 x z)
    · rintro ⟨h1, h2⟩ p hp
      rcases List.mem_cons.mp hp with z | z
      · subst z; exact h1 b (by simp)
      · exact h2 p z
theorem asc_iff {l : List Sta} : Asc l ↔ l.Pairwise (fun a b => leS a b = true) ∧ l.Nodup := by
  unfold Asc List.Nodup
  rw [← List.pairwise_and_iff]
  constructor
  · exact fun h => h.imp fun {a b} z => ltS_iff.mp z
  · exact fun h => h.imp fun {a b} z => ltS_iff.mpr z
theorem asc_eq {l m : List Sta} (h1 : Asc l) (h2 : Asc m) (h : ∀ s, s ∈ l ↔ s ∈ m) : l = m := by
  rw [asc_iff] at h1 h2
  exact ord_eq h1.1 h2.1 h1.2 h2.2 h
theorem asc_srt {l : List Sta} (h : l.Nodup) : Asc (srt l) := asc_iff.mpr ⟨srt_pw l, srt_nodup h⟩
theorem asc_reach (r : Rk) (b : Bd) (s : Sta) : Asc (reachL r b s) := asc_iff.mpr ⟨reachL_pw r b s, reachL_nodup r b s⟩
structure Bar (r : Rk) (b : Bd) (s : Sta) (j : Nat) (l : List Sta) : Prop where
  gd : ∀ x ∈ l, Gd r b x
  asc : Asc l
  s : s ∈ l
  top : ∀ x ∈ l, tops x j = false
  cl : ∀ x ∈ l, ∀ y ∈ nexts r b x, y ∈ l
def IsB (r : Rk) (b : Bd) (s : Sta) (j : Nat) (v : D) : Prop := ∃ l, v = pD l ∧ Bar r b s j l
theorem in_stasT {s : Sta} {l : List Sta} : inDD (staD s) (.tup (l.map staD)) = some (decide (s ∈ l)) := inDD_ofT (pl_sta s) (fun a _ => pl_sta a) (nB_sta s) (fun a _ => nB_sta a) ⟨fun ⟨a, h, e⟩ => by rw [staD_inj] at e; subst e; exact h, fun h => ⟨s, h, rfl⟩⟩
theorem in_stasL {s : Sta} {l : List Sta} : inDD (staD s) (.lst (l.map staD)) = some (decide (s ∈ l)) := inDD_of (pl_sta s) (fun a _ => pl_sta a) (nB_sta s) (fun a _ => nB_sta a) ⟨fun ⟨a, h, e⟩ => by rw [staD_inj] at e; subst e; exact h, fun h => ⟨s, h, rfl⟩⟩
theorem notin_stasT {s : Sta} {l : List Sta} : notInDD (staD s) (.tup (l.map staD)) = some (!decide (s ∈ l)) := by rw [notInDD, in_stasT]; rfl
theorem notin_stasL {s : Sta} {l : List Sta} : notInDD (staD s) (.lst (l.map staD)) = some (!decide (s ∈ l)) := by rw [notInDD, in_stasL]; rfl
theorem pl_up : ∀ n d, plN n d = true → plN (n + 1) d = true := fun n => by
  induction n with
  | zero => intro d h; cases d <;> simp [plN] at h ⊢ <;> exact h
  | succ n ih =>
    intro d h
    cases d <;> simp [plN] at h ⊢ <;> first | exact h | exact fun x hx => ih x (h x hx)
theorem pl_mem {ds : List D} {n : Nat} (hv : plN (n + 1) (.tup ds) = true) : ∀ d ∈ ds, plN n d = true := by simpa [plN] using hv
theorem nexts_len {r : Rk} {b : Bd} {s : Sta} (h7 : r.length ≤ 7) (hs : InR r s) : (nexts r b s).length ≤ 2401 := len_all h7 (nexts_nodup r b s) fun t ht => nexts_in hs ht
def g_is_barrier : GF
  | [rv, bv, sv, hv, v], P, E => chkR rv E fun r => chkB bv E fun b => chkS r b sv E fun s => chkH r hv E fun j => plN 6 v = true ∧ (∀ ds, v = .tup ds → ds.length ≤ 50000) ∧ ∀ bb : Bool, (bb = true ↔ IsB r b s j v) → P (.bl bb)
  | _, _, _ => False
/-! is_barrier(rock, body, start, top, value): 0 rock, 1 body, 2 start, 3 top, 4 value, 5 row, 6 one, 7 other, 8 there -/
def N_is_barrier : List Str := ["rock", "body", "start", "top", "value", "row", "one", "other", "there"]
def b_is_barrier (E : Str → Prop) : DS := (dSeq (dDrop (dCallX E g_check_top (dCons (dVar 0) (dCons (dVar 1) (dCons (dVar 2) (dCons (dVar 3) dNil))))))
      (dSeq (dIfS (dOr (dNot (dTest (dIsi "tuple" (dVar 4)))) (dNot (dTest (dCB allD (dCons (dLc (diSeq (dVar 4)) (.nm 5) dYes (dCall g_is_good_one (dCons (dVar 0) (dCons (dVar 1) (dCons (dVar 5) dNil)))) [5]) dNil))))) (dRet (dC (.bl false))) dNext)
      (dSeq (dIfS (dOr (dNot (dTest (dCB allD (dCons (dLc (diZip (dCons (dVar 4) (dCons (dSl slD (dVar 4) (dSome (dC (.int 1))) dNo) dNil))) (.tp [6, 7]) dYes (dCmpV ltE (dVar 6) (dVar 7)) [6, 7]) dNil)))) (dCmp notInDD (dVar 2) (dVar 4))) (dRet (dC (.bl false))) dNext)
      (dSeq (dIfS (dTest (dCB anyD (dCons (dLc (diSeq (dVar 4)) (.nm 5) dYes (dCall g_does_top (dCons (dVar 5) (dCons (dVar 3) dNil))) [5]) dNil))) (dRet (dC (.bl false))) dNext)
      (dRet (dCB allD (dCons (dLc (diSeq (dVar 4)) (.nm 5) dYes (dCB allD (dCons (dLc (diSeq (dCall g_next_stances (dCons (dVar 0) (dCons (dVar 1) (dCons (dVar 5) dNil))))) (.nm 8) dYes (dCmpV inDD (dVar 8) (dVar 4)) [8]) dNil)) [5]) dNil)))))))
theorem len_is_barrier : ∀ ds P E, g_is_barrier ds P E → ds.length = 5 := fun ds P E h => by
  unfold g_is_barrier at h
  split at h <;> first | rfl | exact h.elim
theorem t_is_barrier (ds : List D) (P : D → Prop) (E : Str → Prop) (h : g_is_barrier ds P E) : b_is_barrier E { nx := fun _ => P .non, rt := P } (startD N_is_barrier ds) := by
  match ds, h with
  | [rv, bv, sv, hv, v], h =>
    simp only [b_is_barrier, startD, N_is_barrier, z_seq]
    simp [g_check_top, -Prod.exists, -Prod.forall]
    refine chkR_mono h fun r er hr h1 => chkB_mono h1 fun b eb hb h2 => chkS_mono h2 fun s es hs hk h3 => chkH_mono h3 fun j ej hj h4 => ?_
    subst er; subst eb; subst es; subst ej
    obtain ⟨hv, hlen, q⟩ := h4
    have hno := pl_no hv
    have qf : (¬ IsB r b s j v) → P (.bl false) := fun h => q false ⟨fun z => by (cases z), fun z => absurd z h⟩
    cases v with
    | tup ds =>
      have hl := hlen ds rfl
      simp [isiD, -Prod.exists, -Prod.forall]
      refine lc_map (e := id) (f := fun d => .bl (goodB r b d)) ds [] (by simp; omega) (fun d hd K1 h1 => ?_) ?_ |> fun z => by simpa using z
      · simp [wipeR, e_goodone (pl_up _ _ (pl_mem hv d hd))]
        exact h1
      · simp only [List.nil_append]
        rw [asBs_map (fun d => goodB r b d)]
        simp [-Prod.exists, -Prod.forall]
        by_cases hall : ∀ d ∈ ds, goodB r b d = true
        · rw [if_pos hall]
          obtain ⟨l, rfl, hg⟩ := goods_of hall
          have hl50 : l.length ≤ 50000 := by simpa using hl
          rw [cutL_1, ← List.map_tail]
          refine ⟨l.map staD, l.tail.map staD, ⟨rfl, rfl⟩, ?_⟩
          rw [zipD_map]
          refine lc_map (e := fun p : Sta × Sta => .pr [staD p.1, staD p.2]) (f := fun p => .bl (ltS p.1 p.2)) _ [] ?_ (fun p hp K1 h1 => ?_) ?_
          · simp
            omega
          · simp [wipeR, ltE_sta]
            simpa using h1
          · simp only [List.nil_append]
            rw [asBs_map (fun p : Sta × Sta => ltS p.1 p.2)]
            simp [-Prod.exists, -Prod.forall, notin_stasT]
            have nb : ∀ {Q : Prop}, (∀ l2, pD l = pD l2 → Bar r b s j l2 → Q) → IsB r b s j (.tup (l.map staD)) → Q := fun k ⟨l2, e, hb⟩ => k l2 e hb
            by_cases c1 : ∀ x : Sta × Sta, x ∈ l.zip l.tail → ltS x.fst x.snd = true
            · rw [if_pos c1]
              by_cases c2 : s ∈ l
              · rw [if_pos c2]
                refine lc_map (e := staD) (f := fun t => .bl (tops t j)) l [] (by simp; omega) (fun t ht K1 h1 => ?_) ?_
                · simp [wipeR, e_tops]
                  exact h1
                · simp only [List.nil_append]
                  rw [asBs_map (fun t => tops t j)]
                  simp only [Option.map_some, z_oPs, z_asB]
                  rw [List.any_map]
                  by_cases c3 : (l.any (id ∘ fun t => tops t j)) = true
                  · rw [if_pos c3]
                    refine qf (nb fun l2 e hb => ?_)
                    rw [pD_inj] at e
                    subst e
                    obtain ⟨x, hx, ht⟩ := List.any_eq_true.mp c3
                    have := hb.top x hx
                    simp [this] at ht
                  · rw [if_neg c3]
                    refine lc_map (e := staD) (f := fun t => .bl ((nexts r b t).all fun y => decide (y ∈ l))) l [] (by simp; omega) (fun t ht K1 h1 => ?_) ?_
                    · simp [wipeR, e_next hr.seven (hg t ht).i, -Prod.exists, -Prod.forall]
                      refine lc_map (e := staD) (f := fun y => .bl (decide (y ∈ l))) (nexts r b t) [] (by have := nexts_len (b := b) hr.seven (hg t ht).i; simp; omega) (fun y hy K2 h2 => ?_) ?_
                      · simp [wipeR, in_stasT, -Prod.exists, -Prod.forall]
                        exact h2
                      · simp only [List.nil_append]
                        rw [asBs_map (fun y => decide (y ∈ l))]
                        simp only [Option.map_some, z_oPs, List.all_map]
                        exact h1
                    · simp only [List.nil_append]
                      rw [asBs_map (fun t => (nexts r b t).all fun y => decide (y ∈ l))]
                      simp only [Option.map_some, z_oPs, z_asB, Im_bl, true_and, List.all_map]
                      refine q _ ?_
                      simp only [List.all_eq_true, Function.comp_def, id, decide_eq_true_eq]
                      constructor
                      · intro h5
                        refine ⟨l, rfl, hg, (chain_asc l).mp c1, c2, fun x hx => ?_, h5⟩
                        cases e : tops x j with
                        | false => rfl
                        | true => exact absurd (List.any_eq_true.mpr ⟨x, hx, e⟩) c3
                      · refine nb fun l2 e hb => ?_
                        rw [pD_inj] at e
                        subst e
                        exact hb.cl
              · rw [if_neg c2]
                refine qf (nb fun l2 e hb => ?_)
                rw [pD_inj] at e
                subst e
                exact c2 hb.s
            · rw [if_neg c1]
              refine qf (nb fun l2 e hb => ?_)
              rw [pD_inj] at e
              subst e
              exact c1 ((chain_asc l).mpr hb.asc)
        · rw [if_neg hall]
          exact qf fun ⟨l, e, hb⟩ => hall fun d hd => by
            simp only [pD, D.tup.injEq] at e
            subst e
            obtain ⟨x, hx, rfl⟩ := List.mem_map.mp hd
            have := hb.gd x hx
            rw [goodB_sta this.i]
            exact this.k
    | _ =>
      simp [isiD] at hno ⊢
      try exact qf fun ⟨l, e, _⟩ => by cases e
section
variable {r : Rk} {b : Bd} {s t : Sta} {j : Nat} {v : D} {P : D → Prop} {E : Str → Prop}
theorem e_bar (hr : VR r) (hb : VB b) (hs : Gd r b s) (hj : j < r.length) : g_barrier [rockD r, bodyD b, staD s, .int j] P E ↔ (dTop r b s j = none → P (pD (reachL r b s))) ∧ (dTop r b s j ≠ none → P .non) := by simp only [g_barrier, chkR_ok hr, chkB_ok hb, chkS_ok hs.i hs.k, chkH_ok hj]
theorem e_isbar (hr : VR r) (hb : VB b) (hs : Gd r b s) (hj : j < r.length) : g_is_barrier [rockD r, bodyD b, staD s, .int j, v] P E ↔ plN 6 v = true ∧ (∀ ds, v = .tup ds → ds.length ≤ 50000) ∧ ∀ bb : Bool, (bb = true ↔ IsB r b s j v) → P (.bl bb) := by simp only [g_is_barrier, chkR_ok hr, chkB_ok hb, chkS_ok hs.i hs.k, chkH_ok hj]
/-- for a list of stances -/
theorem e_isbarL {l : List Sta} (hr : VR r) (hb : VB b) (hs : Gd r b s) (hj : j < r.length) (hl : l.length ≤ 50000) (p : ∀ bb : Bool, (bb = true ↔ Bar r b s j l) → P (.bl bb)) : g_is_barrier [rockD r, bodyD b, staD s, .int j, pD l] P E := by
  refine (e_isbar hr hb hs hj).mpr ⟨pl_pD l, fun ds e => ?_, fun bb h => p bb ?_⟩
  · simp only [pD, D.tup.injEq] at e
    rw [← e, List.length_map]
    exact hl
  · rw [h]
    constructor
    · rintro ⟨l2, e, hb⟩
      rw [pD_inj] at e
      subst e
      exact hb
    · exact fun h => ⟨l, rfl, h⟩
theorem bar_reach (hs : Gd r b s) (h : dTop r b s j = none) : Bar r b s j (reachL r b s) := by
  refine ⟨fun x hx => rch_gd ((mem_reachL hs.i).mp hx) hs, asc_reach r b s, (mem_reachL hs.i).mpr (Rch.refl s), fun x hx => dTop_none.mp h x ((mem_reachL hs.i).mp hx), fun x hx y hy => ?_⟩
  rw [mem_reachL hs.i] at hx ⊢
  obtain ⟨n, w⟩ := hx
  exact ⟨n + 1, w.snoc hy⟩
theorem bar_all {l : List Sta} (h : Bar r b s j l) : ∀ x, Rch (nexts r b) s x → x ∈ l := fun x ⟨n, w⟩ => w.keeps (P := fun x => x ∈ l) (fun a c ha hc => h.cl a ha c hc) h.s
theorem bar_none {l : List Sta} (h : Bar r b s j l) : dTop r b s j = none := dTop_none.mpr fun t ht => h.top t (bar_all h t ht)
end
end WH

set_option Elab.async false
set_option linter.all false
set_option maxRecDepth 100000
set_option maxHeartbeats 4000000
namespace WH
open PySem L2
/-- the rest of a block under a name -/
theorem seq_name {A B rest : DS} {E : DEnds} {ρ : R} (h : ∀ K : R → Prop, K = rest E → A { E with nx := B { E with nx := K } } ρ) : dSeq A (dSeq B rest) E ρ := h _ rfl
theorem seq_name1 {A rest : DS} {E : DEnds} {ρ : R} (h : ∀ K : R → Prop, K = rest E → A { E with nx := K } ρ) : dSeq A rest E ρ := h _ rfl
def dK (K : R → Prop) : DS := fun _ => K
@[simp] theorem z_dK {K : R → Prop} {E : DEnds} {ρ : R} : dK K E ρ ↔ K ρ := .rfl
def seqs : List DS → DS → DS
  | [], t => t
  | a :: l, t => dSeq a (seqs l t)
theorem seqs_cut : ∀ (l : List DS) (rest : DS) {E : DEnds} {ρ : R}, seqs l rest E ρ ↔ seqs l (dK (rest E)) E ρ := by
  intro l
  induction l with
  | nil => exact fun _ _ _ => .rfl
  | cons a l ih =>
    intro rest E ρ
    have : seqs l rest E = seqs l (dK (rest E)) E := funext fun ρ => propext (ih rest)
    show a { E with nx := seqs l rest E } ρ ↔ a { E with nx := seqs l (dK (rest E)) E } ρ
    rw [this]
theorem seq_cut (l : List DS) (rest : DS) {E : DEnds} {ρ : R} (h : ∀ K : R → Prop, K = rest E → seqs l (dK K) E ρ) : seqs l rest E ρ := (seqs_cut l rest).mpr (h _ rfl)
/-! ### two bodies -/
def g_check_two : GF
  | [bv, cv], P, E => chkB bv E fun _ => chkB cv E fun _ => P .non
  | _, _, _ => False
/-! check_two(one, other): 0 one, 1 other -/
def N_check_two : List Str := ["one", "other"]
def b_check_two (E : Str → Prop) : DS := (dSeq (dDrop (dCallX E g_check_body (dCons (dVar 0) dNil)))
      (dDrop (dCallX E g_check_body (dCons (dVar 1) dNil))))
theorem len_check_two : ∀ ds P E, g_check_two ds P E → ds.length = 2 := fun ds P E h => by
  unfold g_check_two at h
  split at h <;> first | rfl | exact h.elim
theorem t_check_two (ds : List D) (P : D → Prop) (E : Str → Prop) (h : g_check_two ds P E) : b_check_two E { nx := fun _ => P .non, rt := P } (startD N_check_two ds) := by
  match ds, h with
  | [bv, cv], h =>
    simp [b_check_two, startD, N_check_two, g_check_body]
    exact h
instance (b c : Bd) : Decidable (Wid b c) := decidable_of_iff (b.1 ≤ c.1 ∧ b.2.1 ≤ c.2.1 ∧ b.2.2.1 ≤ c.2.2.1 ∧ b.2.2.2 ≤ c.2.2.2) ⟨fun h => ⟨h.1, h.2.1, h.2.2.1, h.2.2.2⟩, fun h => ⟨h.w0, h.w1, h.w2, h.w3⟩⟩
def g_is_wider : GF
  | [bv, cv], P, E => chkB bv E fun b => chkB cv E fun c => P (.bl (decide (Wid c b)))
  | _, _, _ => False
/-! is_wider(one, other): 0 one, 1 other, 2 mine, 3 yours -/
def N_is_wider : List Str := ["one", "other", "mine", "yours"]
def b_is_wider (E : Str → Prop) : DS := (dSeq (dDrop (dCallX E g_check_two (dCons (dVar 0) (dCons (dVar 1) dNil))))
      (dRet (dCB allD (dCons (dLc (diZip (dCons (dVar 0) (dCons (dVar 1) dNil))) (.tp [2, 3]) dYes (dCmpV geD (dVar 2) (dVar 3)) [2, 3]) dNil))))
theorem len_is_wider : ∀ ds P E, g_is_wider ds P E → ds.length = 2 := fun ds P E h => by
  unfold g_is_wider at h
  split at h <;> first | rfl | exact h.elim
theorem t_is_wider (ds : List D) (P : D → Prop) (E : Str → Prop) (h : g_is_wider ds P E) : b_is_wider E { nx := fun _ => P .non, rt := P } (startD N_is_wider ds) := by
  match ds, h with
  | [bv, cv], h =>
    simp only [b_is_wider, startD, N_is_wider, z_seq]
    simp [g_check_two, -Prod.exists, -Prod.forall]
    refine chkB_mono h fun b eb hb h1 => chkB_mono h1 fun c ec hc h2 => ?_
    subst eb; subst ec
    refine ⟨[.int b.1, .int b.2.1, .int b.2.2.1, .int b.2.2.2], [.int c.1, .int c.2.1, .int c.2.2.1, .int c.2.2.2], .inl ⟨rfl, rfl⟩, ?_⟩
    simp [zipD, z_lc1, wipeR, asBs]
    have e : (decide (c.1 ≤ b.1) && (decide (c.2.1 ≤ b.2.1) && (decide (c.2.2.1 ≤ b.2.2.1) && decide (c.2.2.2 ≤ b.2.2.2)))) = decide (Wid c b) := by
      rw [Bool.eq_iff_iff]
      simp only [Bool.and_eq_true, decide_eq_true_eq]
      exact ⟨fun h => ⟨h.1, h.2.1, h.2.2.1, h.2.2.2⟩, fun h => ⟨h.w0, h.w1, h.w2, h.w3⟩⟩
    rw [e]
    exact h2
def partL (r : Rk) (b c : Bd) : List Sta := srt ((goods r b).filter (fun s => decide (s ∉ goods r c)) ++ (goods r c).filter (fun s => decide (s ∉ goods r b)))
theorem goods_nodup (r : Rk) (b : Bd) : (goods r b).Nodup := (allSta_nodup _).filter _
theorem mem_partL {r : Rk} {b c : Bd} {s : Sta} : s ∈ partL r b c ↔ InR r s ∧ kept r b s ≠ kept r c s := by
  unfold partL
  simp only [srt_mem, List.mem_append, List.mem_filter, mem_goods, decide_eq_true_eq]
  cases h1 : kept r b s <;> cases h2 : kept r c s <;> simp
theorem asc_part (r : Rk) (b c : Bd) : Asc (partL r b c) := by
  refine asc_srt (List.nodup_append.mpr ⟨(goods_nodup r b).filter _, (goods_nodup r c).filter _, fun x hx y hy e => ?_⟩)
  subst e
  rw [List.mem_filter] at hx hy
  simp at hx hy
  exact hx.2 hy.1
theorem part_symm (r : Rk) (b c : Bd) : partL r c b = partL r b c := asc_eq (asc_part r c b) (asc_part r b c) fun s => by
  rw [mem_partL, mem_partL]
  exact and_congr .rfl ⟨Ne.symm, Ne.symm⟩
theorem part_self (r : Rk) (b : Bd) : partL r b b = [] := by
  cases h : partL r b b with
  | nil => rfl
  | cons s l =>
    have : s ∈ partL r b b := by rw [h]; simp
    exact absurd rfl (mem_partL.mp this).2
theorem part_len {r : Rk} {b c : Bd} (h : r.length ≤ 7) : (partL r b c).length ≤ 2401 := len_all h (asc_iff.mp (asc_part r b c)).2 fun s hs => (mem_partL.mp hs).1
def g_partings : GF
  | [rv, bv, cv], P, E => chkR rv E fun r => chkB bv E fun b => chkB cv E fun c => P (.lst ((partL r b c).map staD))
  | _, _, _ => False
/-! partings(rock, one, other): 0 rock, 1 one, 2 other, 3 mine, 4 yours, 5 row -/
def N_partings : List Str := ["rock", "one", "other", "mine", "yours", "row"]
def b_partings (E : Str → Prop) : DS := (dSeq (dDrop (dCallX E g_check_rock (dCons (dVar 0) dNil)))
      (dSeq (dDrop (dCallX E g_check_two (dCons (dVar 1) (dCons (dVar 2) dNil))))
      (dSeq (dUnp (.tp [3, 4]) (dTup (dCons (dCall g_good_stances (dCons (dVar 0) (dCons (dVar 1) dNil))) (dCons (dCall g_good_stances (dCons (dVar 0) (dCons (dVar 2) dNil))) dNil))))
      (dRetF (dSorted (dBin addD (dLc (diSeq (dVar 3)) (.nm 5) (dCmp notInDD (dVar 5) (dVar 4)) (dVar 5) [5]) (dLc (diSeq (dVar 4)) (.nm 5) (dCmp notInDD (dVar 5) (dVar 3)) (dVar 5) [5])))))))
theorem len_partings : ∀ ds P E, g_partings ds P E → ds.length = 3 := fun ds P E h => by
  unfold g_partings at h
  split at h <;> first | rfl | exact h.elim
theorem t_partings (ds : List D) (P : D → Prop) (E : Str → Prop) (h : g_partings ds P E) : b_partings E { nx := fun _ => P .non, rt := P } (startD N_partings ds) := by
  match ds, h with
  | [rv, bv, cv], h =>
    simp only [b_partings, startD, N_partings, z_seq]
    simp [g_check_rock, g_check_two, -Prod.exists, -Prod.forall]
    refine chkR_mono h fun r er hr h1 => chkB_mono h1 fun b eb hb h2 => chkB_mono h2 fun c ec hc h3 => ?_
    subst er; subst eb; subst ec
    rw [e_goods hr.seven, e_goods hr.seven]
    have hl1 := goods_len (b := b) hr.seven
    have hl2 := goods_len (b := c) hr.seven
    simp [setAll, -Prod.exists, -Prod.forall]
    refine lc_run (e := staD) (f := staD) (p := fun s => decide (s ∉ goods r c)) (goods r b) [] (by simp; omega) (fun s hs K1 K0 k1 => ?_) ?_
    · simp [wipeR, notin_stasL]
      by_cases hc : s ∈ goods r c <;> simpa [hc] using k1
    · refine lc_run (e := staD) (f := staD) (p := fun s => decide (s ∉ goods r b)) (goods r c) [] (by simp; omega) (fun s hs K1 K0 k1 => ?_) ?_
      · simp [wipeR, notin_stasL]
        by_cases hc : s ∈ goods r b <;> simpa [hc] using k1
      · have f1 := List.length_filter_le (fun s => decide (s ∉ goods r c)) (goods r b)
        have f2 := List.length_filter_le (fun s => decide (s ∉ goods r b)) (goods r c)
        simp only [List.nil_append]
        rw [add_LL (by simp only [List.length_map]; omega), ← List.map_append]
        simp only [z_oPs]
        refine ⟨_, z_itEl, sortOk_sta _, by simp only [List.length_map, List.length_append]; omega, ?_⟩
        rw [sortL_sta]
        exact ⟨ims_stas _, h3⟩
def g_go_alike : GF
  | [rv, bv, cv], P, E => chkR rv E fun r => chkB bv E fun b => chkB cv E fun c => P (.bl (decide (partL r b c = [])))
  | _, _, _ => False
/-! go_alike(rock, one, other): 0 rock, 1 one, 2 other -/
def N_go_alike : List Str := ["rock", "one", "other"]
def b_go_alike (E : Str → Prop) : DS := (dRet (dCmpV eqD (dCallX E g_partings (dCons (dVar 0) (dCons (dVar 1) (dCons (dVar 2) dNil)))) (dLst dNil)))
theorem len_go_alike : ∀ ds P E, g_go_alike ds P E → ds.length = 3 := fun ds P E h => by
  unfold g_go_alike at h
  split at h <;> first | rfl | exact h.elim
theorem eqD_stas {l : List Sta} : eqD (.lst (l.map staD)) (.lst []) = some (decide (l = [])) := eqD_nil (fun s _ => pl_sta s) (fun s _ => nB_sta s)
theorem t_go_alike (ds : List D) (P : D → Prop) (E : Str → Prop) (h : g_go_alike ds P E) : b_go_alike E { nx := fun _ => P .non, rt := P } (startD N_go_alike ds) := by
  match ds, h with
  | [rv, bv, cv], h =>
    simp only [b_go_alike, startD, N_go_alike, z_seq]
    simp [g_partings, -Prod.exists, -Prod.forall, eqD_stas]
    exact h
def g_parting_stance : GF
  | [rv, bv, cv], P, E => chkR rv E fun r => chkB bv E fun b => chkB cv E fun c => P (oD (partL r b c).head?)
  | _, _, _ => False
/-! parting_stance(rock, one, other): 0 rock, 1 one, 2 other, 3 found -/
def N_parting_stance : List Str := ["rock", "one", "other", "found"]
def b_parting_stance (E : Str → Prop) : DS := (dSeq (dSet 3 (dCallX E g_partings (dCons (dVar 0) (dCons (dVar 1) (dCons (dVar 2) dNil)))))
      (dRet (dIf (dCmp neD (dVar 3) (dLst dNil)) (dBin ixD (dVar 3) (dC (.int 0))) (dC .non))))
theorem len_parting_stance : ∀ ds P E, g_parting_stance ds P E → ds.length = 3 := fun ds P E h => by
  unfold g_parting_stance at h
  split at h <;> first | rfl | exact h.elim
theorem t_parting_stance (ds : List D) (P : D → Prop) (E : Str → Prop) (h : g_parting_stance ds P E) : b_parting_stance E { nx := fun _ => P .non, rt := P } (startD N_parting_stance ds) := by
  match ds, h with
  | [rv, bv, cv], h =>
    simp only [b_parting_stance, startD, N_parting_stance, z_seq]
    simp [g_partings, -Prod.exists, -Prod.forall, neD_stas]
    refine chkR_mono h fun r er hr h1 => chkB_mono h1 fun b eb hb h2 => chkB_mono h2 fun c ec hc h3 => ?_
    cases e : partL r b c with
    | nil => rw [e] at h3; simpa [oD] using h3
    | cons s l =>
      rw [e] at h3
      have : atI ((s :: l).map staD) 0 = some (staD s) := atI_0
      simp only [List.head?_cons, oD] at h3
      simp only [List.cons_ne_nil, if_false, z_ixL, this, z_oPs]
      exact ⟨Im_sta s, h3⟩
section
variable {r : Rk} {b c : Bd} {s t : Sta} {j : Nat} {v : D} {P : D → Prop} {E : Str → Prop}
theorem e_wider (hb : VB b) (hc : VB c) : g_is_wider [bodyD b, bodyD c] P E ↔ P (.bl (decide (Wid c b))) := by simp only [g_is_wider, chkB_ok hb, chkB_ok hc]
theorem e_alike (hr : VR r) (hb : VB b) (hc : VB c) : g_go_alike [rockD r, bodyD b, bodyD c] P E ↔ P (.bl (decide (partL r b c = []))) := by simp only [g_go_alike, chkR_ok hr, chkB_ok hb, chkB_ok hc]
theorem e_part (hr : VR r) (hb : VB b) (hc : VB c) : g_parting_stance [rockD r, bodyD b, bodyD c] P E ↔ P (oD (partL r b c).head?) := by simp only [g_parting_stance, chkR_ok hr, chkB_ok hb, chkB_ok hc]
/-! ### bodies that go alike -/
def Same (r : Rk) (b c : Bd) : Prop := ∀ s, InR r s → kept r b s = kept r c s
theorem same_part : partL r b c = [] ↔ Same r b c := by
  constructor
  · intro h s hs
    cases e : decide (kept r b s = kept r c s) with
    | true => exact of_decide_eq_true e
    | false =>
      have : s ∈ partL r b c := mem_partL.mpr ⟨hs, of_decide_eq_false e⟩
      rw [h] at this
      cases this
  · intro h
    cases e : partL r b c with
    | nil => rfl
    | cons s l =>
      have := mem_partL.mp (show s ∈ partL r b c by rw [e]; simp)
      exact absurd (h s this.1) this.2
theorem Same.goods (h : Same r b c) : goods r b = goods r c := by
  unfold WH.goods
  exact List.filter_congr fun s hs => h s (mem_allSta.mp hs)
theorem asc_nexts : Asc (nexts r b s) := asc_iff.mpr ⟨srt_pw _, nexts_nodup r b s⟩
theorem Same.nexts (h : Same r b c) (hs : InR r s) : nexts r b s = nexts r c s := asc_eq asc_nexts asc_nexts fun t => by
  rw [mem_nexts hs, mem_nexts hs]
  exact and_congr_right fun ht => by rw [h t ht]
theorem Same.symm (h : Same r b c) : Same r c b := fun s hs => (h s hs).symm
theorem Same.wk1 {n : Nat} (h : Same r b c) (hs : InR r s) (w : Wk (WH.nexts r b) n s t) : Wk (WH.nexts r c) n s t := by
  induction w with
  | nil => exact .nil _
  | snoc w1 hu ih =>
    have hi := w1.keeps (P := InR r) (fun a b ha hb => nexts_in ha hb) hs
    rw [h.nexts hi] at hu
    exact .snoc (ih hs) hu
theorem Same.wk {n : Nat} (h : Same r b c) (hs : InR r s) : Wk (WH.nexts r b) n s t ↔ Wk (WH.nexts r c) n s t := ⟨h.wk1 hs, h.symm.wk1 hs⟩
theorem Same.dst (h : Same r b c) (hs : InR r s) : dst (WH.nexts r b) s t = dst (WH.nexts r c) s t := by
  unfold WH.dst
  congr 1
  exact funext fun n => propext (h.wk hs)
theorem Same.dTop (h : Same r b c) (hs : InR r s) : dTop r b s j = dTop r c s j := by
  unfold WH.dTop
  congr 1
  exact funext fun n => propext ⟨fun ⟨t, w, e⟩ => ⟨t, (h.wk hs).mp w, e⟩, fun ⟨t, w, e⟩ => ⟨t, (h.wk hs).mpr w, e⟩⟩
theorem Same.gd (h : Same r b c) : Gd r b s ↔ Gd r c s := ⟨fun g => ⟨g.i, by rw [← h s g.i]; exact g.k⟩, fun g => ⟨g.i, by rw [h s g.i]; exact g.k⟩⟩
theorem Same.rch (h : Same r b c) (hs : InR r s) : Rch (WH.nexts r b) s t ↔ Rch (WH.nexts r c) s t := ⟨fun ⟨n, w⟩ => ⟨n, (h.wk hs).mp w⟩, fun ⟨n, w⟩ => ⟨n, (h.wk hs).mpr w⟩⟩
theorem parts_le {l m : List Sta} (hg : ∀ p ∈ l, Gd r b p) (hp : l.Pairwise fun p q => ¬ Rch (WH.nexts r b) p q) (hm : ∀ p ∈ m, Gd r b p) (hc : ∀ s, Gd r b s → ∃ p ∈ m, Rch (WH.nexts r b) p s) : l.length ≤ m.length := by
  classical
  have ex : ∀ s, ∃ p, Gd r b s → p ∈ m ∧ Rch (WH.nexts r b) p s := fun s => by
    by_cases h : Gd r b s
    · obtain ⟨p, h1, h2⟩ := hc s h
      exact ⟨p, fun _ => ⟨h1, h2⟩⟩
    · exact ⟨s, fun z => absurd z h⟩
  obtain ⟨f, hf⟩ := Classical.axiomOfChoice ex
  have hnd : (l.map f).Nodup := by
    rw [List.Nodup, List.pairwise_map]
    refine hp.imp_of_mem fun {p q} hpm hqm hn e => hn ?_
    have h1 := hf p (hg p hpm)
    have h2 := hf q (hg q hqm)
    rw [← e] at h2
    exact (rch_symm h1.2 (hm _ h1.1)).trans h2.2
  have := nodup_len hnd (m := m) fun x hx => by
    obtain ⟨p, hp, rfl⟩ := List.mem_map.mp hx
    exact (hf p (hg p hp)).1
  simpa using this
theorem parts_uniq {n m : Nat} (h1 : Parts r b n) (h2 : Parts r b m) : n = m := by
  obtain ⟨l, rfl, a1, a2, a3⟩ := h1
  obtain ⟨k, rfl, b1, b2, b3⟩ := h2
  exact Nat.le_antisymm (parts_le a1 a2 b1 b3) (parts_le b1 b2 a1 a3)
theorem Same.parts {n : Nat} (h : Same r b c) (hp : Parts r b n) : Parts r c n := by
  obtain ⟨l, e, a1, a2, a3⟩ := hp
  refine ⟨l, e, fun p hp => h.gd.mp (a1 p hp), a2.imp_of_mem fun {p q} hp hq hn z => hn ((h.rch (a1 p hp).i).mpr z), fun s hs => ?_⟩
  obtain ⟨p, hp, hr⟩ := a3 s (h.gd.mpr hs)
  exact ⟨p, hp, (h.rch (a1 p hp).i).mp hr⟩
end
end WH

set_option Elab.async false
set_option linter.all false
set_option maxRecDepth 100000
set_option maxHeartbeats 4000000
namespace WH
open PySem L2
/-! ### has_climb -/
def g_has_climb : GF
  | [rv, bv, sv, .int i], P, _ => ∃ (r : Rk) (b : Bd) (s : Sta) (j : Nat), rv = rockD r ∧ bv = bodyD b ∧ sv = staD s ∧ i = j ∧ r.length ≤ 7 ∧ InR r s ∧ P (.bl (!decide (dTop r b s j = none)))
  | _, _, _ => False
/-! has_climb(rock, body, start, top): 0 rock, 1 body, 2 start, 3 top, 4 row -/
def N_has_climb : List Str := ["rock", "body", "start", "top", "row"]
def b_has_climb : DS := (dRet (dCB anyD (dCons (dLc (diSeqE (dCall g_ways_from (dCons (dVar 0) (dCons (dVar 1) (dCons (dVar 2) dNil))))) (.nm 4) dYes (dCall g_does_top (dCons (dVar 4) (dCons (dVar 3) dNil))) [4]) dNil)))
theorem len_has_climb : ∀ ds P E, g_has_climb ds P E → ds.length = 4 := fun ds P E h => by
  unfold g_has_climb at h
  split at h <;> first | rfl | exact h.elim
theorem t_has_climb (ds : List D) (P : D → Prop) (h : g_has_climb ds P fun _ => False) : b_has_climb { nx := fun _ => P .non, rt := P } (startD N_has_climb ds) := by
  match ds, h with
  | [rv, bv, sv, .int i], h =>
    obtain ⟨r, b, s, j, rfl, rfl, rfl, rfl, h7, hs, q⟩ := h
    simp only [b_has_climb, startD, N_has_climb]
    simp [-Prod.exists, -Prod.forall]
    rw [e_ways h7 hs]
    intro kn L hB hin
    have hl := kn_len h7 hB hin
    simp [knD_fst, -List.map_map, -Prod.exists, -Prod.forall]
    refine lc_map (e := staD) (f := fun t => .bl (tops t j)) (kn.map (·.1)) [] (by simp; omega) (fun t ht K1 h1 => ?_) ?_
    · simp [wipeR, e_tops]
      exact h1
    · simp only [List.nil_append]
      rw [asBs_map (fun t => tops t j)]
      simp only [Option.map_some, z_oPs, z_asB]
      rw [List.any_map]
      have := any_reach (j := j) hB
      have e : ((kn.map (·.1)).any (id ∘ fun t => tops t j)) = !decide (dTop r b s j = none) := this
      rw [e]
      exact ⟨rfl, q⟩
theorem e_has {r : Rk} {b : Bd} {s : Sta} {j : Nat} {P : D → Prop} {E : Str → Prop} (h7 : r.length ≤ 7) (hs : InR r s) : g_has_climb [rockD r, bodyD b, staD s, .int j] P E ↔ P (.bl (!decide (dTop r b s j = none))) := by
  simp only [g_has_climb]
  constructor
  · rintro ⟨r', b', s', j', e1, e2, e3, e4, _, _, p⟩
    rw [rockD_inj] at e1; rw [bodyD_inj] at e2; rw [staD_inj] at e3
    have : j = j' := by omega
    subst e1; subst e2; subst e3; subst this
    exact p
  · exact fun p => ⟨r, b, s, j, rfl, rfl, rfl, rfl, h7, hs, p⟩
/-! ### has_climb_on -/
def inH (hs : List Nat) (s : Sta) : Bool := (lst4 s).all fun i => decide (i ∈ hs)
def nxH (r : Rk) (b : Bd) (hs : List Nat) (s : Sta) : List Sta := (nexts r b s).filter (inH hs)
def On (r : Rk) (b : Bd) (s : Sta) (j : Nat) (hs : List Nat) : Prop := inH hs s = true ∧ ∃ t, Rch (nxH r b hs) s t ∧ tops t j = true
noncomputable def onB (r : Rk) (b : Bd) (s : Sta) (j : Nat) (hs : List Nat) : Bool := by
  classical exact decide (On r b s j hs)
theorem onB_true {r : Rk} {b : Bd} {s : Sta} {j : Nat} {hs : List Nat} : onB r b s j hs = true ↔ On r b s j hs := by
  unfold onB; simp
theorem onB_false {r : Rk} {b : Bd} {s : Sta} {j : Nat} {hs : List Nat} : onB r b s j hs = false ↔ ¬ On r b s j hs := by
  unfold onB; simp
structure Dfs (nx : Sta → List Sta) (bad : Sta → Bool) (s : Sta) (kn wt : List Sta) : Prop where
  nd : kn.Nodup
  st : s ∈ kn
  sub : ∀ x ∈ wt, x ∈ kn
  wn : wt.Nodup
  rch : ∀ x ∈ kn, Rch nx s x
  cl : ∀ x ∈ kn, x ∉ wt → bad x = false ∧ ∀ y ∈ nx x, y ∈ kn
theorem Dfs.start (nx : Sta → List Sta) (bad : Sta → Bool) (s : Sta) : Dfs nx bad s [s] [s] where
  nd := by simp
  st := by simp
  sub := fun x hx => hx
  wn := by simp
  rch := fun x hx => by rw [List.mem_singleton.mp hx]; exact Rch.refl s
  cl := fun x hx hn => absurd hx hn
theorem Dfs.done {nx : Sta → List Sta} {bad : Sta → Bool} {s : Sta} {kn : List Sta} (h : Dfs nx bad s kn []) : ∀ t, Rch nx s t → bad t = false := fun t ⟨n, w⟩ => by
  have : t ∈ kn := w.keeps (P := fun x => x ∈ kn) (fun a c ha hc => (h.cl a ha (by simp)).2 c hc) h.st
  exact (h.cl t this (by simp)).1
theorem Dfs.step {nx : Sta → List Sta} {bad : Sta → Bool} {s f : Sta} {kn w : List Sta} (h : Dfs nx bad s kn (w ++ [f])) (hn : (nx f).Nodup) (hb : bad f = false) : Dfs nx bad s (kn ++ (nx f).filter fun t => decide (t ∉ kn)) (w ++ (nx f).filter fun t => decide (t ∉ kn)) := by
  have hf : f ∈ kn := h.sub f (by simp)
  have hm : ∀ x, x ∈ (nx f).filter (fun t => decide (t ∉ kn)) ↔ x ∈ nx f ∧ x ∉ kn := fun x => by rw [List.mem_filter]; simp
  have hw := List.nodup_append.mp h.wn
  refine ⟨?_, by simp [h.st], ?_, ?_, ?_, ?_⟩
  · rw [List.nodup_append]
    exact ⟨h.nd, hn.filter _, fun a ha b hb e => ((hm b).mp hb).2 (e ▸ ha)⟩
  · intro x hx
    rcases List.mem_append.mp hx with z | z
    · exact List.mem_append_left _ (h.sub x (by simp [z]))
    · exact List.mem_append_right _ z
  · rw [List.nodup_append]
    exact ⟨hw.1, hn.filter _, fun a ha b hb e => ((hm b).mp hb).2 (e ▸ h.sub a (by simp [ha]))⟩
  · intro x hx
    rcases List.mem_append.mp hx with z | z
    · exact h.rch x z
    · exact (h.rch f hf).trans (Rch.step ((hm x).mp z).1)
  · intro x hx hnx
    have hk : x ∈ kn := by
      rcases List.mem_append.mp hx with z | z
      · exact z
      · exact absurd (List.mem_append_right _ z) hnx
    by_cases e : x = f
    · subst e
      refine ⟨hb, fun y hy => ?_⟩
      by_cases hy2 : y ∈ kn
      · exact List.mem_append_left _ hy2
      · exact List.mem_append_right _ ((hm y).mpr ⟨hy, hy2⟩)
    · obtain ⟨c1, c2⟩ := h.cl x hk fun z => by
        rcases List.mem_append.mp z with z | z
        · exact hnx (List.mem_append_left _ z)
        · exact e (List.mem_singleton.mp z)
      exact ⟨c1, fun y hy => List.mem_append_left _ (c2 y hy)⟩
def kvD (kn : List Sta) : List (D × D) := kn.map fun t => (staD t, .bl true)
theorem dget_kv (t : Sta) : ∀ kn : List Sta, (dget (kvD kn) (kS t)).isSome = decide (t ∈ kn)
  | [] => rfl
  | p :: kn => by
    have ih := dget_kv t kn
    unfold dget kvD at ih ⊢
    rw [List.map_cons, List.find?_cons]
    by_cases e : p = t
    · have : decide (asK (staD p) = some (kS t)) = true := by simp [e]
      rw [this]
      simp [e]
    · have : decide (asK (staD p) = some (kS t)) = false := by simp [kS_inj, e]
      rw [this]
      simp only
      rw [ih]
      have : (t ∈ p :: kn) ↔ t ∈ kn := by rw [List.mem_cons]; exact ⟨fun z => z.resolve_left fun z => e z.symm, .inr⟩
      simp only [this]
theorem dget_kv0 {t : Sta} {kn : List Sta} (h : t ∉ kn) : dget (kvD kn) (kS t) = none := by
  have := dget_kv t kn
  rw [decide_eq_false h] at this
  cases e : dget (kvD kn) (kS t) with
  | none => rfl
  | some _ => rw [e] at this; cases this
theorem iD_inj {a b : Nat} : iD a = iD b ↔ a = b := by
  simp only [iD, D.int.injEq]; omega
theorem in_nats {hv : D} {hs : List Nat} (h : hv = .lst (hs.map iD) ∨ hv = .tup (hs.map iD)) (i : Nat) : inE (iD i) hv = some (decide (i ∈ hs)) := by
  rcases h with rfl | rfl
  · rw [z_inEl]
    exact inDD_of rfl (fun _ _ => rfl) rfl (fun _ _ => rfl) ⟨fun ⟨a, h, e⟩ => by rw [iD_inj] at e; subst e; exact h, fun h => ⟨i, h, rfl⟩⟩
  · rw [z_inEt]
    exact inDD_ofT rfl (fun _ _ => rfl) rfl (fun _ _ => rfl) ⟨fun ⟨a, h, e⟩ => by rw [iD_inj] at e; subst e; exact h, fun h => ⟨i, h, rfl⟩⟩
theorem itE_sta (s : Sta) : itemsE (staD s) = some ((lst4 s).map iD) := rfl
def g_has_climb_on : GF
  | [rv, bv, sv, .int i, hv], P, _ => ∃ (r : Rk) (b : Bd) (s : Sta) (j : Nat) (hs : List Nat), rv = rockD r ∧ bv = bodyD b ∧ sv = staD s ∧ i = j ∧ (hv = .lst (hs.map iD) ∨ hv = .tup (hs.map iD)) ∧ r.length ≤ 7 ∧ InR r s ∧ P (.bl (onB r b s j hs))
  | _, _, _ => False
/-! has_climb_on(rock, body, start, top, holds): 0 rock, 1 body, 2 start, 3 top, 4 holds, 5 hold, 6 known, 7 waiting, 8 here, 9 there -/
def N_has_climb_on : List Str := ["rock", "body", "start", "top", "holds", "hold", "known", "waiting", "here", "there"]
def b_has_climb_on_L1 : DS := (dIfS (dAnd (dCmp notInE (dVar 9) (dVarB 6)) (dTest (dCB allD (dCons (dLc (diSeqE (dVar 9)) (.nm 5) dYes (dCmpV inE (dVar 5) (dVar 4)) [5]) dNil)))) (dSeq (dPut 6 (dVar 9) (dC (.bl true)))
      (fun E ρ => (∃ ds, ρ[7]? = some (some (Slot.own (.lst ds)))) ∧ dApp 7 (dVar 9) E ρ)) dNext)
def b_has_climb_on_L2 : DS := (dSeq (dPopL 8 7)
      (dSeq (dIfS (dTest (dCall g_does_top (dCons (dVar 8) (dCons (dVar 3) dNil)))) (dRet (dC (.bl true))) dNext)
      (dFor (diSeqE (dCall g_next_stances (dCons (dVar 0) (dCons (dVar 1) (dCons (dVar 8) dNil))))) (.nm 9) b_has_climb_on_L1)))
def b_has_climb_on : DS := (dSeq (dIfS (dNot (dTest (dCB allD (dCons (dLc (diSeqE (dVar 2)) (.nm 5) dYes (dCmpV inE (dVar 5) (dVar 4)) [5]) dNil)))) (dRet (dC (.bl false))) dNext)
      (dSeq (dPar 6 7 (kOwn (dDct1 (dVar 2) (dC (.bl true))) (kOwn (dLst (dCons (dVar 2) dNil)) kNil)))
      (dSeq (dWhile (dCmp neD (dVarB 7) (dLst dNil)) b_has_climb_on_L2)
      (dRet (dC (.bl false))))))
theorem len_has_climb_on : ∀ ds P E, g_has_climb_on ds P E → ds.length = 5 := fun ds P E h => by
  unfold g_has_climb_on at h
  split at h <;> first | rfl | exact h.elim
theorem lc_inH {hv : D} {hs : List Nat} (h : hv = .lst (hs.map iD) ∨ hv = .tup (hs.map iD)) {ρ : R} (s : Sta) {P : List D → Prop} (h4 : ∀ x, (ρ.set 5 x)[4]? = some (some (.sh hv))) (h5 : ρ.length = 10) (p : P ((lst4 s).map fun i => .bl (decide (i ∈ hs)))) :
    lcGo (.nm 5) dYes (dCmpV inE (dVar 5) (dVar 4)) ρ ((lst4 s).map iD) [] P := by
  refine lc_map (e := iD) (f := fun i => .bl (decide (i ∈ hs))) (lst4 s) [] (by simp [lst4]) (fun i hi K1 h1 => ?_) (by simpa using p)
  have e5 : (ρ.set 5 (some (Slot.sh (iD i))))[5]? = some (some (.sh (iD i))) := by rw [List.getElem?_set_self (by omega)]
  simp [getS, e5, h4, in_nats h]
  exact h1
def frH (kn : List Sta) (hs : List Nat) (l : List Sta) : List Sta := l.filter fun t => decide (t ∉ kn) && inH hs t
theorem frH_nx {r : Rk} {b : Bd} {kn : List Sta} {hs : List Nat} {f : Sta} : frH kn hs (nexts r b f) = (nxH r b hs f).filter fun t => decide (t ∉ kn) := by
  unfold frH nxH
  rw [List.filter_filter]
theorem asBs_lst4 {hs : List Nat} {s : Sta} : asBs ((lst4 s).map fun i => D.bl (decide (i ∈ hs))) = some ((lst4 s).map fun i => decide (i ∈ hs)) := asBs_map (fun i => decide (i ∈ hs)) (lst4 s)
theorem nxH_in {r : Rk} {b : Bd} {hs : List Nat} {s t : Sta} (h : InR r s) (ht : t ∈ nxH r b hs s) : InR r t := nexts_in h (List.mem_filter.mp ht).1
theorem t_has_climb_on (ds : List D) (P : D → Prop) (h : g_has_climb_on ds P fun _ => False) : b_has_climb_on { nx := fun _ => P .non, rt := P } (startD N_has_climb_on ds) := by
  match ds, h with
  | [rv, bv, sv, .int i, hv], h =>
    obtain ⟨r, b, s, j, hs, rfl, rfl, rfl, rfl, hh, h7, hsi, q⟩ := h
    simp only [b_has_climb_on, startD, N_has_climb_on, z_seq, z_par]
    simp [itE_sta, -Prod.exists, -Prod.forall, -List.map_map]
    refine lc_inH hh s (by simp [wipeR]) (by simp [wipeR]) ?_
    simp only [asBs_lst4, Option.map_some, z_oPs, z_asB]
    have ein : ((lst4 s).map fun i => decide (i ∈ hs)).all id = inH hs s := by rw [List.all_map]; rfl
    rw [ein]
    by_cases hin : inH hs s = true
    · rw [hin]
      simp only [Bool.not_true, if_true, if_false, Bool.false_eq_true]
      refine while_ind (fun m ρ => ∃ (kn wt : List Sta) (x5 x8 x9 : Option Slot), Dfs (nxH r b hs) (fun t => tops t j) s kn wt ∧ (∀ t ∈ kn, InR r t) ∧ m = 2 * (2401 - kn.length) + wt.length ∧ ρ = [some (.sh (rockD r)), some (.sh (bodyD b)), some (.sh (staD s)), some (.sh (.int j)), some (.sh hv), x5, some (.own (.dct (kvD kn))), some (.own (.lst (wt.map staD))), x8, x9]) _ ⟨[s], [s], none, none, none, Dfs.start _ _ _, by simpa using hsi, rfl, rfl⟩ ?_
      rintro m ρ N ⟨kn, wt, x5, x8, x9, hB, hkin, rfl, rfl⟩ hN
      simp [neD_stas, -Prod.exists, -Prod.forall]
      rcases List.eq_nil_or_concat wt with rfl | ⟨w, f, rfl⟩
      · simp
        have : onB r b s j hs = false := onB_false.mpr fun ⟨_, t, h1, h2⟩ => by
          have := hB.done t h1
          rw [this] at h2; cases h2
        rw [this] at q
        exact q
      · rw [List.concat_eq_append] at hB hN ⊢
        have hf : f ∈ kn := hB.sub f (by simp)
        have hfi := hkin f hf
        rw [if_neg (by simp)]
        simp only [b_has_climb_on_L2, z_seq]
        simp [-Prod.exists, -Prod.forall]
        refine ⟨_, _, ⟨rfl, rfl⟩, ?_⟩
        rw [e_tops]
        simp only [z_asB, z_oPs]
        by_cases ht : tops f j = true
        · rw [if_pos ht]
          have : onB r b s j hs = true := onB_true.mpr ⟨hin, f, hB.rch f hf, ht⟩
          rw [this] at q
          exact q
        · rw [if_neg ht, e_next h7 hfi]
          simp only [z_itEl, z_oPs]
          have hkl : kn.length ≤ 2401 := len_all h7 hB.nd hkin
          have hwl : w.length ≤ 2401 := len_all h7 (List.nodup_append.mp hB.wn).1 fun t ht => hkin t (hB.sub t (by simp [ht]))
          have hnl := nexts_len (b := b) h7 hfi
          refine for_ind (e := staD) (fun l ρ => ∃ pre x5 x9, nexts r b f = pre ++ l ∧ ρ = [some (.sh (rockD r)), some (.sh (bodyD b)), some (.sh (staD s)), some (.sh (.int j)), some (.sh hv), x5, some (.own (.dct (kvD (kn ++ frH kn hs pre)))), some (.own (.lst ((w ++ frH kn hs pre).map staD))), some (.sh (staD f)), x9]) ?_ ?_ (nexts r b f) _ ⟨[], x5, x9, rfl, by simp [frH]⟩
          · rintro t l ρ N2 ⟨pre, x5, x9, he, rfl⟩ hN2
            have hnd := nexts_nodup r b f
            rw [he] at hnd
            have htp : t ∉ pre := fun z => (List.nodup_append.mp hnd).2.2 t z t (by simp) rfl
            have hmem : t ∈ kn ++ frH kn hs pre ↔ t ∈ kn := by
              rw [List.mem_append]
              exact ⟨fun z => z.resolve_right fun z => htp (List.mem_filter.mp z).1, .inl⟩
            have hfl : (frH kn hs pre).length ≤ 2401 := by
              have := List.length_filter_le (fun t => decide (t ∉ kn) && inH hs t) pre
              have h2 : pre.length ≤ (nexts r b f).length := by rw [he, List.length_append]; omega
              unfold frH
              omega
            have esn : frH kn hs (pre ++ [t]) = frH kn hs pre ++ (if (decide (t ∉ kn) && inH hs t) = true then [t] else []) := by
              unfold frH
              rw [List.filter_append, List.filter_cons, List.filter_nil]
            simp only [b_has_climb_on_L1]
            simp [notInE, dget_kv, hmem, -Prod.exists, -Prod.forall, -List.map_append, -List.mem_append]
            by_cases hk : t ∈ kn
            · rw [if_pos hk]
              refine hN2 _ ⟨pre ++ [t], x5, some (.sh (staD t)), by rw [he]; simp, ?_⟩
              rw [esn]
              simp [hk]
            · rw [if_neg hk, itE_sta]
              simp only [z_oPs]
              refine lc_inH hh t (by simp [wipeR]) (by simp [wipeR]) ?_
              simp only [asBs_lst4, Option.map_some, z_oPs, z_asB]
              have ein : ((lst4 t).map fun i => decide (i ∈ hs)).all id = inH hs t := by rw [List.all_map]; rfl
              rw [ein]
              by_cases hi : inH hs t = true
              · rw [if_pos hi]
                refine ⟨dget_kv0 (fun z => hk (hmem.mp z)), ?_, ?_, ?_⟩
                · rw [kvD, List.length_map, List.length_append]; omega
                · omega
                · refine hN2 _ ⟨pre ++ [t], x5, some (.sh (staD t)), by rw [he]; simp, ?_⟩
                  rw [esn]
                  simp [hk, hi, kvD]
              · rw [if_neg hi]
                refine hN2 _ ⟨pre ++ [t], x5, some (.sh (staD t)), by rw [he]; simp, ?_⟩
                rw [esn]
                simp [hk, hi]
          · rintro ρ ⟨pre, x5, x9, he, rfl⟩
            rw [List.append_nil] at he
            subst he
            have hB' := hB.step ((nexts_nodup r b f).filter (inH hs)) (by simpa using ht)
            rw [← frH_nx] at hB'
            have hin' : ∀ t ∈ kn ++ frH kn hs (nexts r b f), InR r t := fun t ht => by
              rcases List.mem_append.mp ht with z | z
              · exact hkin t z
              · exact nexts_in hfi (List.mem_filter.mp z).1
            have hkl' : (kn ++ frH kn hs (nexts r b f)).length ≤ 2401 := len_all h7 hB'.nd hin'
            refine hN _ _ ?_ ⟨_, _, _, _, _, hB', hin', rfl, rfl⟩
            simp at hkl' ⊢
            omega
    · have hf : inH hs s = false := by simpa using hin
      rw [hf]
      simp
      have : onB r b s j hs = false := onB_false.mpr fun z => hin z.1
      rw [this] at q
      exact q
end WH

set_option Elab.async false
set_option linter.all false
set_option maxRecDepth 100000
set_option maxHeartbeats 4000000
namespace WH
open PySem L2
theorem e_hason {r : Rk} {b : Bd} {s : Sta} {j : Nat} {hv : D} {hs : List Nat} {P : D → Prop} {E : Str → Prop} (h7 : r.length ≤ 7) (hsi : InR r s) (hh : hv = .lst (hs.map iD) ∨ hv = .tup (hs.map iD)) (p : P (.bl (onB r b s j hs))) : g_has_climb_on [rockD r, bodyD b, staD s, .int j, hv] P E := by
  simp only [g_has_climb_on]
  exact ⟨r, b, s, j, hs, rfl, rfl, rfl, rfl, hh, h7, hsi, p⟩
/-! ### needed_holds -/
def but (n h : Nat) : List Nat := (List.range n).filter fun o => decide (o ≠ h)
noncomputable def needL (r : Rk) (b : Bd) (s : Sta) (j : Nat) : List Nat := (List.range r.length).filter fun h => !onB r b s j (but r.length h)
def rwD (l : List Nat) : D := .tup (l.map iD)
def g_needed_holds : GF
  | [rv, bv, sv, hv], P, E => chkR rv E fun r => chkB bv E fun b => chkS r b sv E fun s => chkH r hv E fun j => (dTop r b s j = none → P .non) ∧ (dTop r b s j ≠ none → P (rwD (needL r b s j)))
  | _, _, _ => False
/-! needed_holds(rock, body, start, top): 0 rock, 1 body, 2 start, 3 top, 4 holds, 5 found, 6 hold, 7 one -/
def N_needed_holds : List Str := ["rock", "body", "start", "top", "holds", "found", "hold", "one"]
def b_needed_holds_L1 (E : Str → Prop) : DS := (dIfS (dNot (dTest (dCall g_has_climb_on (dCons (dVar 0) (dCons (dVar 1) (dCons (dVar 2) (dCons (dVar 3) (dCons (dLc (diSeq (dVar 4)) (.nm 7) (dCmp neD (dVar 7) (dVar 6)) (dVar 7) [7]) dNil)))))))) (fun E ρ => (∃ ds, ρ[5]? = some (some (Slot.own (.lst ds)))) ∧ dApp 5 (dVar 6) E ρ) dNext)
def b_needed_holds (E : Str → Prop) : DS := (dSeq (dDrop (dCallX E g_check_top (dCons (dVar 0) (dCons (dVar 1) (dCons (dVar 2) (dCons (dVar 3) dNil))))))
      (dSeq (dIfS (dNot (dTest (dCall g_has_climb (dCons (dVar 0) (dCons (dVar 1) (dCons (dVar 2) (dCons (dVar 3) dNil))))))) (dRet (dC .non)) dNext)
      (dSeq (dPar 4 5 (kSh (dLstRg (dCB lenD (dCons (dVar 0) dNil))) (kOwn (dLst dNil) kNil)))
      (dSeq (dFor (diSeq (dVar 4)) (.nm 6) (b_needed_holds_L1 E))
      (dFrz 5 (dRet (dCB tupleD (dCons (dVar 5) dNil))))))))
theorem len_needed_holds : ∀ ds P E, g_needed_holds ds P E → ds.length = 4 := fun ds P E h => by
  unfold g_needed_holds at h
  split at h <;> first | rfl | exact h.elim
theorem range_iD {n : Nat} : rangeD (n : Int) = (List.range n).map iD := rangeD_nat
theorem Im_rw (l : List Nat) : Im (rwD l) = true := by
  show Im (.tup _) = true
  rw [Im_tup, List.all_eq_true]
  intro d hd
  obtain ⟨i, _, rfl⟩ := List.mem_map.mp hd
  rfl
theorem t_needed_holds (ds : List D) (P : D → Prop) (E : Str → Prop) (h : g_needed_holds ds P E) : b_needed_holds E { nx := fun _ => P .non, rt := P } (startD N_needed_holds ds) := by
  match ds, h with
  | [rv, bv, sv, hv], h =>
    simp only [b_needed_holds, startD, N_needed_holds, z_seq]
    simp [g_check_top, -Prod.exists, -Prod.forall]
    refine chkR_mono h fun r er hr h1 => chkB_mono h1 fun b eb hb h2 => chkS_mono h2 fun s es hs hk h3 => chkH_mono h3 fun j ej hj h4 => ?_
    subst er; subst eb; subst es; subst ej
    rw [e_has hr.seven hs]
    simp only [z_asB, z_oPs]
    by_cases hd : dTop r b s j = none
    · simp [hd]
      exact h4.1 hd
    · have h7 := hr.seven
      simp [hd, range_iD, -Prod.exists, -Prod.forall]
      refine ⟨by omega, ?_⟩
      refine for_ind (e := iD) (fun l ρ => ∃ pre x6 x7, List.range r.length = pre ++ l ∧ ρ = [some (.sh (rockD r)), some (.sh (bodyD b)), some (.sh (staD s)), some (.sh (.int j)), some (.sh (.lst ((List.range r.length).map iD))), some (.own (.lst ((pre.filter fun h => !onB r b s j (but r.length h)).map iD))), x6, x7]) ?_ ?_ (List.range r.length) _ ⟨[], none, none, rfl, rfl⟩
      · rintro h l ρ N ⟨pre, x6, x7, he, rfl⟩ hN
        have hpl : pre.length ≤ 7 := by
          have := congrArg List.length he
          simp at this
          omega
        simp only [b_needed_holds_L1]
        simp [-Prod.exists, -Prod.forall]
        refine lc_run (e := iD) (f := iD) (p := fun o => decide (o ≠ h)) (List.range r.length) [] (by simp; omega) (fun o ho K1 K0 k1 => ?_) ?_
        · have : neD (iD o) (iD h) = some (!decide (o = h)) := neD_of rfl rfl rfl rfl iD_inj
          simp [wipeR, this]
          by_cases hc : o = h <;> simpa [hc] using k1
        · simp only [List.nil_append]
          refine e_hason hr.seven hs (hs := but r.length h) (.inl rfl) ?_
          simp only [z_asB, z_oPs]
          have hfl := List.length_filter_le (fun h => !onB r b s j (but r.length h)) pre
          cases ho : onB r b s j (but r.length h) with
          | true =>
            simp [-Prod.exists, -Prod.forall]
            exact hN _ ⟨pre ++ [h], _, _, by rw [he]; simp, by simp [ho]; exact ⟨rfl, rfl⟩⟩
          | false =>
            simp [-Prod.exists, -Prod.forall]
            refine ⟨by omega, hN _ ⟨pre ++ [h], _, _, by rw [he]; simp, by simp [ho]; exact ⟨rfl, rfl⟩⟩⟩
      · rintro ρ ⟨pre, x6, x7, he, rfl⟩
        rw [List.append_nil] at he
        subst he
        simp
        exact ⟨Im_rw _, h4.2 hd⟩
/-! ### subsets_of, fewest_holds -/
def sub2 : Nat → List (List Nat)
  | 0 => [[]]
  | n + 1 => sub2 n ++ (sub2 n).map (· ++ [n])
def prD (l : List Nat) : D := .tup [.int l.length, rwD l]
def leR (a c : List Nat) : Bool := leP (prD a) (prD c)
def subL (n : Nat) : List (List Nat) := (sub2 n).mergeSort leR
theorem mem_subL {n : Nat} {l : List Nat} : l ∈ subL n ↔ l ∈ sub2 n := List.mem_mergeSort
theorem sub2_len : ∀ n, (sub2 n).length = 2 ^ n
  | 0 => rfl
  | n + 1 => by simp [sub2, sub2_len n]; omega
theorem sub2_mem_len : ∀ {n : Nat} {l : List Nat}, l ∈ sub2 n → l.length ≤ n
  | 0, l, h => by simp [sub2] at h; subst h; simp
  | n + 1, l, h => by
    simp only [sub2, List.mem_append, List.mem_map] at h
    rcases h with z | ⟨k, z, rfl⟩
    · have := sub2_mem_len z; omega
    · have := sub2_mem_len z; simp; omega
theorem pl_rw {n : Nat} (l : List Nat) : plN (n + 1) (rwD l) = true := by
  rw [rwD, plN_tup, List.all_eq_true]
  intro d hd
  obtain ⟨i, _, rfl⟩ := List.mem_map.mp hd
  cases n <;> rfl
theorem sortL_pr (l : List (List Nat)) : sortL (l.map prD) = (l.mergeSort leR).map prD := by
  unfold sortL
  exact (List.map_mergeSort (f := prD) (r := leR) (s := leP) fun a _ b _ => rfl).symm
theorem alike_nats : ∀ l m : List Nat, PySem.W.alikeAll (toPys (l.map iD)) (toPys (m.map iD)) = true
  | [], m => by simp [toPys, PySem.W.alikeAll]
  | _ :: _, [] => by simp [toPys, PySem.W.alikeAll]
  | a :: l, b :: m => by
    rw [List.map_cons, List.map_cons, toPys, toPys, PySem.W.alikeAll, alike_nats l m]
    simp [iD, toPy, PySem.W.alike]
theorem sortOk_pr (l : List (List Nat)) : sortOk (l.map prD) = true := by
  unfold sortOk
  simp only [Bool.and_eq_true, List.all_eq_true, Bool.or_eq_true]
  refine ⟨⟨fun d hd => ?_, fun d hd e he => ?_⟩, .inl fun d hd => ?_⟩
  all_goals obtain ⟨s, _, rfl⟩ := List.mem_map.mp hd
  · simp [prD, plN_tup, pl_rw]
  · obtain ⟨t, _, rfl⟩ := List.mem_map.mp he
    have := alike_nats s t
    simp [prD, rwD, toPy, toPys, PySem.W.alike, PySem.W.alikeAll, this]
  · rfl
def g_subsets_of : GF
  | [.int n], P, _ => ∃ k : Nat, n = k ∧ k ≤ 7 ∧ P (.lst ((subL k).map rwD))
  | _, _, _ => False
/-! subsets_of(many): 0 many, 1 rows, 2 one, 3 row, 4 size -/
def N_subsets_of : List Str := ["many", "rows", "one", "row", "size"]
def b_subsets_of_L1 : DS := (dSet 1 (dBin addD (dVar 1) (dLc (diSeq (dVar 1)) (.nm 3) dYes (dBin addD (dVar 3) (dTup (dCons (dVar 2) dNil))) [3])))
def b_subsets_of : DS := (dSeq (dSet 1 (dLst (dCons (dTup dNil) dNil)))
      (dSeq (dFor (diRange (dCons (dVar 0) dNil)) (.nm 2) b_subsets_of_L1)
      (dRetF (dLc (diSeq (dSorted (dLc (diSeq (dVar 1)) (.nm 3) dYes (dTup (dCons (dCB lenD (dCons (dVar 3) dNil)) (dCons (dVar 3) dNil))) [3]))) (.tp [4, 3]) dYes (dVar 3) [4, 3]))))
theorem len_subsets_of : ∀ ds P E, g_subsets_of ds P E → ds.length = 1 := fun ds P E h => by
  unfold g_subsets_of at h
  split at h <;> first | rfl | exact h.elim
theorem t_subsets_of (ds : List D) (P : D → Prop) (h : g_subsets_of ds P fun _ => False) : b_subsets_of { nx := fun _ => P .non, rt := P } (startD N_subsets_of ds) := by
  unfold g_subsets_of at h
  split at h
  · obtain ⟨n, rfl, h7, q⟩ := h
    simp only [b_subsets_of, startD, N_subsets_of, z_seq]
    simp [range_iD, -Prod.exists, -Prod.forall]
    refine ⟨by omega, ?_⟩
    refine for_ind (e := iD) (fun l ρ => ∃ i x2 x3, l = (List.range n).drop i ∧ i ≤ n ∧ ρ = [some (.sh (.int n)), some (.sh (.lst ((sub2 i).map rwD))), x2, x3, none]) ?_ ?_ (List.range n) _ ⟨0, none, none, rfl, Nat.zero_le _, rfl⟩
    · rintro a l ρ N ⟨i, x2, x3, he, hi, rfl⟩ hN
      have hlt : i < n := by
        have := congrArg List.length he
        simp at this
        omega
      rw [List.drop_eq_getElem_cons (by simpa using hlt), List.getElem_range] at he
      injection he with e1 e2
      subst e1
      have hsl : (sub2 a).length ≤ 128 := by
        rw [sub2_len]
        exact Nat.pow_le_pow_right (n := 2) (by decide) (by omega : a ≤ 7)
      simp only [b_subsets_of_L1]
      simp [-Prod.exists, -Prod.forall]
      refine lc_map (e := rwD) (f := fun l => rwD (l ++ [a])) (sub2 a) [] (by simp; omega) (fun l2 hl2 K1 h1 => ?_) ?_
      · have : addD (rwD l2) (.tup [iD a]) = some (rwD (l2 ++ [a])) := by
          rw [rwD, add_TT (by have := sub2_mem_len hl2; simp; omega), rwD, List.map_append]; rfl
        simp [wipeR, this]
        exact h1
      · simp only [List.nil_append]
        rw [add_LL (by simp; omega)]
        simp only [z_oPs]
        refine hN _ ⟨a + 1, some (.sh (iD a)), x3, e2, hlt, ?_⟩
        simp [sub2]
    · rintro ρ ⟨i, x2, x3, he, hi, rfl⟩
      have : i = n := by
        have := congrArg List.length he
        simp at this
        omega
      subst this
      have hsl : (sub2 i).length ≤ 128 := by
        rw [sub2_len]
        exact Nat.pow_le_pow_right (n := 2) (by decide) h7
      simp [-Prod.exists, -Prod.forall]
      refine lc_map (e := rwD) (f := prD) (sub2 i) [] (by simp; omega) (fun l2 hl2 K1 h1 => ?_) ?_
      · have : lenD [rwD l2] = some (.int l2.length) := by simp [rwD]
        simp [wipeR, this]
        exact h1
      · simp only [List.nil_append]
        refine ⟨sortOk_pr _, by simp; omega, ?_⟩
        rw [sortL_pr]
        refine lc_map (e := prD) (f := rwD) (subL i) [] (by simp [subL]; omega) (fun l2 hl2 K1 h1 => ?_) ?_
        · simp [wipeR, prD, setAll]
          exact h1
        · simp only [List.nil_append]
          refine ⟨?_, q⟩
          simp [FrOk, Ims_all, Im_rw]
  · exact h.elim
noncomputable def fewL (r : Rk) (b : Bd) (s : Sta) (j : Nat) : Option (List Nat) := (subL r.length).find? (onB r b s j)
def orD : Option (List Nat) → D
  | none => .non
  | some l => rwD l
def g_fewest_holds : GF
  | [rv, bv, sv, hv], P, E => chkR rv E fun r => chkB bv E fun b => chkS r b sv E fun s => chkH r hv E fun j => P (orD (fewL r b s j))
  | _, _, _ => False
/-! fewest_holds(rock, body, start, top): 0 rock, 1 body, 2 start, 3 top, 4 row -/
def N_fewest_holds : List Str := ["rock", "body", "start", "top", "row"]
def b_fewest_holds_L1 (E : Str → Prop) : DS := (dIfS (dTest (dCall g_has_climb_on (dCons (dVar 0) (dCons (dVar 1) (dCons (dVar 2) (dCons (dVar 3) (dCons (dVar 4) dNil))))))) (dRet (dVar 4)) dNext)
def b_fewest_holds (E : Str → Prop) : DS := (dSeq (dDrop (dCallX E g_check_top (dCons (dVar 0) (dCons (dVar 1) (dCons (dVar 2) (dCons (dVar 3) dNil))))))
      (dSeq (dFor (diSeq (dCall g_subsets_of (dCons (dCB lenD (dCons (dVar 0) dNil)) dNil))) (.nm 4) (b_fewest_holds_L1 E))
      (dRet (dC .non))))
theorem len_fewest_holds : ∀ ds P E, g_fewest_holds ds P E → ds.length = 4 := fun ds P E h => by
  unfold g_fewest_holds at h
  split at h <;> first | rfl | exact h.elim
theorem t_fewest_holds (ds : List D) (P : D → Prop) (E : Str → Prop) (h : g_fewest_holds ds P E) : b_fewest_holds E { nx := fun _ => P .non, rt := P } (startD N_fewest_holds ds) := by
  match ds, h with
  | [rv, bv, sv, hv], h =>
    simp only [b_fewest_holds, startD, N_fewest_holds, z_seq]
    simp [g_check_top, -Prod.exists, -Prod.forall]
    refine chkR_mono h fun r er hr h1 => chkB_mono h1 fun b eb hb h2 => chkS_mono h2 fun s es hs hk h3 => chkH_mono h3 fun j ej hj h4 => ?_
    subst er; subst eb; subst es; subst ej
    have er : lenD [rockD r] = some (.int r.length) := by simp [rockD]
    simp only [er, z_oPs, g_subsets_of]
    refine ⟨r.length, rfl, hr.seven, ?_⟩
    simp only [z_itL, z_oPs]
    refine for_ind (e := rwD) (fun l ρ => ∃ x4, l.find? (onB r b s j) = fewL r b s j ∧ ρ = [some (.sh (rockD r)), some (.sh (bodyD b)), some (.sh (staD s)), some (.sh (.int j)), x4]) ?_ ?_ (subL r.length) _ ⟨none, rfl, rfl⟩
    · rintro a l ρ N ⟨x4, he, rfl⟩ hN
      rw [List.find?_cons] at he
      simp only [b_fewest_holds_L1]
      simp [-Prod.exists, -Prod.forall]
      refine e_hason hr.seven hs (hs := a) (.inr rfl) ?_
      simp only [z_asB, z_oPs]
      cases ho : onB r b s j a with
      | true =>
        rw [ho] at he
        simp only at he
        rw [← he] at h4
        simp
        exact ⟨Im_rw _, h4⟩
      | false =>
        rw [ho] at he
        simp only at he
        simp
        exact hN _ ⟨_, he, rfl⟩
    · rintro ρ ⟨x4, he, rfl⟩
      simp only [List.find?_nil] at he
      rw [← he] at h4
      simp
      exact h4
/-! ### least_reach -/
def setB (b : Bd) (w : Nat) (x : Int) : Bd := match w with
  | 0 => (x, b.2.1, b.2.2.1, b.2.2.2)
  | 1 => (b.1, x, b.2.2.1, b.2.2.2)
  | 2 => (b.1, b.2.1, x, b.2.2.2)
  | _ => (b.1, b.2.1, b.2.2.1, x)
noncomputable def okR (r : Rk) (b : Bd) (s : Sta) (j : Nat) : Bool := kept r b s && !decide (dTop r b s j = none)
noncomputable def leastR (r : Rk) (b : Bd) (s : Sta) (j w : Nat) : Option Nat := (List.range 21).find? fun (x : Nat) => okR r (setB b w x) s j
def chkW (v : D) (E : Str → Prop) (K : Nat → Prop) : Prop := plN 6 v = true ∧ if isBet v 0 3 = true then ∀ i : Nat, v = .int i → i < 4 → K i else E "InvalidNumber"
theorem chkW_ok {i : Nat} {E : Str → Prop} {K : Nat → Prop} (h : i < 4) : chkW (.int i) E K ↔ K i := by
  unfold chkW
  have hb : isBet (.int (i : Int)) 0 3 = true := by simp [isBet]; omega
  rw [hb]
  simp only [plN, true_and, if_true]
  exact ⟨fun k => k i rfl h, fun k j e _ => by
    have : i = j := by have := D.int.inj e; omega
    subst this; exact k⟩
theorem chkW_bad {v : D} {E : Str → Prop} {K : Nat → Prop} (h : plN 6 v = true) (h2 : isBet v 0 3 = false) : chkW v E K ↔ E "InvalidNumber" := by
  unfold chkW
  simp [h, h2]
def g_least_reach : GF
  | [rv, bv, sv, hv, wv], P, E => chkR rv E fun r => chkB bv E fun b => chkS r b sv E fun s => chkH r hv E fun j => chkW wv E fun w => P (onD (leastR r b s j w))
  | _, _, _ => False
/-! least_reach(rock, body, start, top, which): 0 rock, 1 body, 2 start, 3 top, 4 which, 5 reach, 6 there -/
def N_least_reach : List Str := ["rock", "body", "start", "top", "which", "reach", "there"]
def b_least_reach_L1 (E : Str → Prop) : DS := (dSeq (dSet 6 (dBin addD (dBin addD (dSl slD (dVar 1) dNo (dSome (dVar 4))) (dTup (dCons (dVar 5) dNil))) (dSl slD (dVar 1) (dSome (dBin addD (dVar 4) (dC (.int 1)))) dNo)))
      (dIfS (dAnd (dTest (dCall g_is_kept (dCons (dVar 0) (dCons (dVar 6) (dCons (dVar 2) dNil))))) (dTest (dCall g_has_climb (dCons (dVar 0) (dCons (dVar 6) (dCons (dVar 2) (dCons (dVar 3) dNil))))))) (dRet (dVar 5)) dNext))
def b_least_reach (E : Str → Prop) : DS := (dSeq (dDrop (dCallX E g_check_top (dCons (dVar 0) (dCons (dVar 1) (dCons (dVar 2) (dCons (dVar 3) dNil))))))
      (dSeq (dIfS (dNot (dTest (dCall g_is_between (dCons (dVar 4) (dCons (dC (.int 0)) (dCons (dC (.int 3)) dNil)))))) (dRaise E "InvalidNumber") dNext)
      (dSeq (dFor (diRange (dCons (dC (.int 21)) dNil)) (.nm 5) (b_least_reach_L1 E))
      (dRet (dC .non)))))
theorem len_least_reach : ∀ ds P E, g_least_reach ds P E → ds.length = 5 := fun ds P E h => by
  unfold g_least_reach at h
  split at h <;> first | rfl | exact h.elim
theorem t_least_reach (ds : List D) (P : D → Prop) (E : Str → Prop) (h : g_least_reach ds P E) : b_least_reach E { nx := fun _ => P .non, rt := P } (startD N_least_reach ds) := by
  match ds, h with
  | [rv, bv, sv, hv, wv], h =>
    simp only [b_least_reach, startD, N_least_reach, z_seq]
    simp [g_check_top, -Prod.exists, -Prod.forall]
    refine chkR_mono h fun r er hr h1 => chkB_mono h1 fun b eb hb h2 => chkS_mono h2 fun s es hs hk h3 => chkH_mono h3 fun j ej hj h4 => ?_
    subst er; subst eb; subst es; subst ej
    refine ⟨wv, 0, 3, rfl, ⟨6, h4.1⟩, ?_⟩
    have h5 := h4.2
    cases hc : isBet wv 0 3 with
    | false => rw [if_neg (by simp [hc])] at h5; simpa using h5
    | true =>
      rw [if_pos hc] at h5
      obtain ⟨w, rfl, hw⟩ : ∃ w : Nat, wv = .int w ∧ w < 4 := by
        unfold isBet at hc
        split at hc
        · rename_i i
          simp at hc
          exact ⟨i.toNat, by congr 1; omega, by omega⟩
        · cases hc
      have h6 : P (onD (leastR r b s j w)) := h5 w rfl hw
      simp [-Prod.exists, -Prod.forall]
      rw [show (21 : Int) = ((21 : Nat) : Int) from rfl, range_iD]
      refine for_ind (e := iD) (fun l ρ => ∃ x5 x6, (l.find? fun (x : Nat) => okR r (setB b w x) s j) = leastR r b s j w ∧ ρ = [some (.sh (rockD r)), some (.sh (bodyD b)), some (.sh (staD s)), some (.sh (.int j)), some (.sh (.int w)), x5, x6]) ?_ ?_ (List.range 21) _ ⟨none, none, rfl, rfl⟩
      · rintro x l ρ N ⟨x5, x6, he, rfl⟩ hN
        rw [List.find?_cons] at he
        have eb : oP (slD (bodyD b) none (some (w : Int))) (fun d => oP (addD d (.tup [iD x])) fun d2 => oP (slD (bodyD b) (some ((w : Int) + 1)) none) fun d3 => oP (addD d2 d3) fun d4 => d4 = bodyD (setB b w x)) := by
          have : w = 0 ∨ w = 1 ∨ w = 2 ∨ w = 3 := by omega
          rcases this with rfl | rfl | rfl | rfl <;> exact ⟨_, rfl, _, rfl, _, rfl, _, rfl, rfl⟩
        obtain ⟨d1, e1, d2, e2, d3, e3, d4, e4, e5⟩ := eb
        subst e5
        simp only [b_least_reach_L1]
        simp [e1, e2, e3, e4, e_kept hs, e_has hr.seven hs, -Prod.exists, -Prod.forall]
        have okE : okR r (setB b w x) s j = (kept r (setB b w x) s && !decide (dTop r (setB b w x) s j = none)) := rfl
        cases ho : okR r (setB b w x) s j with
        | true =>
          rw [ho] at he
          rw [okE] at ho
          simp at he ho
          rw [← he] at h6
          simp [ho]
          exact ⟨rfl, h6⟩
        | false =>
          rw [ho] at he
          rw [okE] at ho
          simp at he ho
          have fin := hN [some (.sh (rockD r)), some (.sh (bodyD b)), some (.sh (staD s)), some (.sh (.int j)), some (.sh (.int w)), some (.sh (iD x)), some (.sh (bodyD (setB b w x)))] ⟨_, _, he, rfl⟩
          by_cases hk : kept r (setB b w x) s = true
          · simp [hk, ho hk]; exact fin
          · simp [hk]; exact fin
      · rintro ρ ⟨x5, x6, he, rfl⟩
        simp only [List.find?_nil] at he
        rw [← he] at h6
        simp
        exact h6
section
variable {r : Rk} {b : Bd} {s t : Sta} {j w : Nat} {v : D} {P : D → Prop} {E : Str → Prop}
theorem e_need (hr : VR r) (hb : VB b) (hs : Gd r b s) (hj : j < r.length) : g_needed_holds [rockD r, bodyD b, staD s, .int j] P E ↔ (dTop r b s j = none → P .non) ∧ (dTop r b s j ≠ none → P (rwD (needL r b s j))) := by simp only [g_needed_holds, chkR_ok hr, chkB_ok hb, chkS_ok hs.i hs.k, chkH_ok hj]
theorem e_fewest (hr : VR r) (hb : VB b) (hs : Gd r b s) (hj : j < r.length) : g_fewest_holds [rockD r, bodyD b, staD s, .int j] P E ↔ P (orD (fewL r b s j)) := by simp only [g_fewest_holds, chkR_ok hr, chkB_ok hb, chkS_ok hs.i hs.k, chkH_ok hj]
theorem e_least (hr : VR r) (hb : VB b) (hs : Gd r b s) (hj : j < r.length) (hw : w < 4) : g_least_reach [rockD r, bodyD b, staD s, .int j, .int w] P E ↔ P (onD (leastR r b s j w)) := by simp only [g_least_reach, chkR_ok hr, chkB_ok hb, chkS_ok hs.i hs.k, chkH_ok hj, chkW_ok hw]
end
end WH

set_option Elab.async false
set_option linter.all false
set_option maxRecDepth 100000
set_option maxHeartbeats 4000000
namespace WH
open PySem L2
/-! ### mirrored, higher -/
def mir (r : Rk) : Rk := r.map fun h => (20 - h.1, h.2.1, h.2.2)
def upR (r : Rk) (k : Int) : Rk := r.map fun h => (h.1, h.2.1 + k, h.2.2)
def mirS (s : Sta) : Sta := (s.2.1, s.1, s.2.2.2, s.2.2.1)
def g_mirrored : GF
  | [rv], P, E => chkR rv E fun r => P (rockD (mir r))
  | _, _, _ => False
/-! mirrored(rock): 0 rock, 1 x, 2 y, 3 room -/
def N_mirrored : List Str := ["rock", "x", "y", "room"]
def b_mirrored (E : Str → Prop) : DS := (dSeq (dDrop (dCallX E g_check_rock (dCons (dVar 0) dNil)))
      (dRet (dCB tupleD (dCons (dLc (diSeq (dVar 0)) (.tp [1, 2, 3]) dYes (dTup (dCons (dBin subD (dC (.int 20)) (dVar 1)) (dCons (dVar 2) (dCons (dVar 3) dNil)))) [1, 2, 3]) dNil))))
theorem len_mirrored : ∀ ds P E, g_mirrored ds P E → ds.length = 1 := fun ds P E h => by
  unfold g_mirrored at h
  split at h <;> first | rfl | exact h.elim
theorem t_mirrored (ds : List D) (P : D → Prop) (E : Str → Prop) (h : g_mirrored ds P E) : b_mirrored E { nx := fun _ => P .non, rt := P } (startD N_mirrored ds) := by
  match ds, h with
  | [rv], h =>
    simp only [b_mirrored, startD, N_mirrored, z_seq]
    simp [g_check_rock, -Prod.exists, -Prod.forall]
    refine chkR_mono h fun r er hr h1 => ?_
    subst er
    have h7 := hr.seven
    rw [show itemsOf (rockD r) = some (r.map holdD) from rfl]
    simp only [z_oPs]
    refine lc_map (e := holdD) (f := fun h => holdD (20 - h.1, h.2.1, h.2.2)) r [] (by simp; omega) (fun h hh K1 k1 => ?_) ?_
    · simp [wipeR, holdD, setAll]
      exact k1
    · simp only [List.nil_append]
      have : D.tup (r.map fun h => holdD (20 - h.1, h.2.1, h.2.2)) = rockD (mir r) := by simp [rockD, mir, List.map_map, Function.comp_def]
      rw [this]
      exact ⟨Im_rock _, h1⟩
def g_is_stance : GF
  | [v], P, _ => plN 6 v = true ∧ P (.bl (arB v 4 0 6))
  | _, _, _ => False
/-! is_stance(value): 0 value -/
def N_is_stance : List Str := ["value"]
def b_is_stance : DS := (dRet (dCall g_are_between (dCons (dVar 0) (dCons (dC (.int 4)) (dCons (dC (.int 0)) (dCons (dC (.int 6)) dNil))))))
theorem len_is_stance : ∀ ds P E, g_is_stance ds P E → ds.length = 1 := fun ds P E h => by
  unfold g_is_stance at h
  split at h <;> first | rfl | exact h.elim
theorem t_is_stance (ds : List D) (P : D → Prop) (h : g_is_stance ds P fun _ => False) : b_is_stance { nx := fun _ => P .non, rt := P } (startD N_is_stance ds) := by
  match ds, h with
  | [v], h =>
    simp [b_is_stance, startD, N_is_stance]
    exact ⟨v, 4, 0, 6, rfl, ⟨6, by decide, h.1⟩, by decide, rfl, h.2⟩
structure S7 (s : Sta) : Prop where
  a : s.1 < 7
  b : s.2.1 < 7
  c : s.2.2.1 < 7
  d : s.2.2.2 < 7
theorem S7.of {r : Rk} {s : Sta} (h7 : r.length ≤ 7) (h : InR r s) : S7 s := by
  have := h.a; have := h.b; have := h.c; have := h.d
  constructor <;> omega
theorem s7_of {v : D} (h : arB v 4 0 6 = true) : ∃ s, v = staD s ∧ S7 s := by
  obtain ⟨a, b, c, d, rfl, h1, h2, h3, h4⟩ := arB4 h
  refine ⟨(a.toNat, b.toNat, c.toNat, d.toNat), ?_, ?_, ?_, ?_, ?_⟩
  · simp [staD]; omega
  all_goals simp; omega
theorem arB_s7 {s : Sta} (h : S7 s) : arB (staD s) 4 0 6 = true := by
  have := h.a; have := h.b; have := h.c; have := h.d
  simp [arB, staD, isBet]
  omega
def chkA (v : D) (E : Str → Prop) (K : Sta → Prop) : Prop := plN 6 v = true ∧ if arB v 4 0 6 = true then ∀ s, v = staD s → S7 s → K s else E "InvalidStance"
theorem chkA_ok {s : Sta} {E : Str → Prop} {K : Sta → Prop} (h : S7 s) : chkA (staD s) E K ↔ K s := by
  unfold chkA
  rw [arB_s7 h]
  simp only [pl_sta, true_and, if_true]
  exact ⟨fun k => k s rfl h, fun k t e _ => by rw [staD_inj] at e; subst e; exact k⟩
theorem chkA_bad {v : D} {E : Str → Prop} {K : Sta → Prop} (h : plN 6 v = true) (h2 : arB v 4 0 6 = false) : chkA v E K ↔ E "InvalidStance" := by
  unfold chkA
  simp [h, h2]
theorem chkA_mono {v : D} {E : Str → Prop} {K K' : Sta → Prop} (h : chkA v E K) (k : ∀ s, v = staD s → S7 s → K s → K' s) : chkA v E K' := by
  unfold chkA at h ⊢
  refine ⟨h.1, ?_⟩
  have h2 := h.2
  split
  · rename_i c
    rw [if_pos c] at h2
    exact fun s e hs => k s e hs (h2 s e hs)
  · rename_i c
    rw [if_neg c] at h2
    exact h2
def g_check_any_stance : GF
  | [v], P, E => chkA v E fun _ => P .non
  | _, _, _ => False
/-! check_any_stance(stance): 0 stance -/
def N_check_any_stance : List Str := ["stance"]
def b_check_any_stance (E : Str → Prop) : DS := (dIfS (dNot (dTest (dCall g_is_stance (dCons (dVar 0) dNil)))) (dRaise E "InvalidStance") dNext)
theorem len_check_any_stance : ∀ ds P E, g_check_any_stance ds P E → ds.length = 1 := fun ds P E h => by
  unfold g_check_any_stance at h
  split at h <;> first | rfl | exact h.elim
theorem t_check_any_stance (ds : List D) (P : D → Prop) (E : Str → Prop) (h : g_check_any_stance ds P E) : b_check_any_stance E { nx := fun _ => P .non, rt := P } (startD N_check_any_stance ds) := by
  match ds, h with
  | [v], h =>
    simp [b_check_any_stance, startD, N_check_any_stance, g_is_stance]
    refine ⟨h.1, ?_⟩
    have h2 := h.2
    cases hc : arB v 4 0 6 with
    | false => rw [if_neg (by simp [hc])] at h2; simpa using h2
    | true =>
      obtain ⟨s, e, hs⟩ := s7_of hc
      rw [if_pos hc] at h2
      simpa using h2 s e hs
def g_mirrored_stance : GF
  | [v], P, E => chkA v E fun s => P (staD (mirS s))
  | _, _, _ => False
/-! mirrored_stance(stance): 0 stance, 1 left, 2 right, 3 one, 4 other -/
def N_mirrored_stance : List Str := ["stance", "left", "right", "one", "other"]
def b_mirrored_stance (E : Str → Prop) : DS := (dSeq (dDrop (dCallX E g_check_any_stance (dCons (dVar 0) dNil)))
      (dSeq (dUnp (.tp [1, 2, 3, 4]) (dVar 0))
      (dRet (dTup (dCons (dVar 2) (dCons (dVar 1) (dCons (dVar 4) (dCons (dVar 3) dNil))))))))
theorem len_mirrored_stance : ∀ ds P E, g_mirrored_stance ds P E → ds.length = 1 := fun ds P E h => by
  unfold g_mirrored_stance at h
  split at h <;> first | rfl | exact h.elim
theorem t_mirrored_stance (ds : List D) (P : D → Prop) (E : Str → Prop) (h : g_mirrored_stance ds P E) : b_mirrored_stance E { nx := fun _ => P .non, rt := P } (startD N_mirrored_stance ds) := by
  match ds, h with
  | [v], h =>
    simp only [b_mirrored_stance, startD, N_mirrored_stance, z_seq]
    simp [g_check_any_stance]
    refine chkA_mono h fun s e hs h1 => ?_
    subst e
    simp [staD, setAll]
    exact h1
def upOk (r : Rk) (k : Int) : Bool := r.all fun h => decide (0 ≤ h.2.1 + k) && decide (h.2.1 + k ≤ 20)
def chkU (r : Rk) (v : D) (E : Str → Prop) (K : Int → Prop) : Prop := plN 6 v = true ∧ if isBet v (-20) 20 = true then ∀ k, v = .int k → -20 ≤ k → k ≤ 20 → if upOk r k = true then K k else E "InvalidNumber" else E "InvalidNumber"
theorem chkU_ok {r : Rk} {k : Int} {E : Str → Prop} {K : Int → Prop} (h1 : -20 ≤ k) (h2 : k ≤ 20) (h : upOk r k = true) : chkU r (.int k) E K ↔ K k := by
  unfold chkU
  have hb : isBet (.int k) (-20) 20 = true := by simp [isBet]; omega
  rw [hb]
  simp only [plN, true_and, if_true]
  exact ⟨fun z => by have := z k rfl h1 h2; rwa [if_pos h] at this, fun z j e _ _ => by cases e; rw [if_pos h]; exact z⟩
theorem chkU_no {r : Rk} {k : Int} {E : Str → Prop} {K : Int → Prop} (h1 : -20 ≤ k) (h2 : k ≤ 20) (h : upOk r k = false) : chkU r (.int k) E K ↔ E "InvalidNumber" := by
  unfold chkU
  have hb : isBet (.int k) (-20) 20 = true := by simp [isBet]; omega
  rw [hb]
  simp only [plN, true_and, if_true]
  exact ⟨fun z => by have := z k rfl h1 h2; rwa [if_neg (by simp [h])] at this, fun z j e _ _ => by cases e; rw [if_neg (by simp [h])]; exact z⟩
theorem chkU_bad {r : Rk} {v : D} {E : Str → Prop} {K : Int → Prop} (h : plN 6 v = true) (h2 : isBet v (-20) 20 = false) : chkU r v E K ↔ E "InvalidNumber" := by
  unfold chkU
  simp [h, h2]
def g_higher : GF
  | [rv, kv], P, E => chkR rv E fun r => chkU r kv E fun k => P (rockD (upR r k))
  | _, _, _ => False
/-! higher(rock, by): 0 rock, 1 by, 2 x, 3 y, 4 room -/
def N_higher : List Str := ["rock", "by", "x", "y", "room"]
def b_higher (E : Str → Prop) : DS := (dSeq (dDrop (dCallX E g_check_rock (dCons (dVar 0) dNil)))
      (dSeq (dIfS (dOr (dNot (dTest (dCall g_is_between (dCons (dVar 1) (dCons (dUn negD (dC (.int 20))) (dCons (dC (.int 20)) dNil)))))) (dNot (dTest (dCB allD (dCons (dLc (diSeq (dVar 0)) (.tp [2, 3, 4]) dYes (dChainV leD leD (dC (.int 0)) (dBin addD (dVar 3) (dVar 1)) (dC (.int 20))) [2, 3, 4]) dNil))))) (dRaise E "InvalidNumber") dNext)
      (dRet (dCB tupleD (dCons (dLc (diSeq (dVar 0)) (.tp [2, 3, 4]) dYes (dTup (dCons (dVar 2) (dCons (dBin addD (dVar 3) (dVar 1)) (dCons (dVar 4) dNil)))) [2, 3, 4]) dNil)))))
theorem len_higher : ∀ ds P E, g_higher ds P E → ds.length = 2 := fun ds P E h => by
  unfold g_higher at h
  split at h <;> first | rfl | exact h.elim
theorem t_higher (ds : List D) (P : D → Prop) (E : Str → Prop) (h : g_higher ds P E) : b_higher E { nx := fun _ => P .non, rt := P } (startD N_higher ds) := by
  match ds, h with
  | [rv, kv], h =>
    simp only [b_higher, startD, N_higher, z_seq]
    simp [g_check_rock, -Prod.exists, -Prod.forall]
    refine chkR_mono h fun r er hr h1 => ?_
    subst er
    have h7 := hr.seven
    refine ⟨kv, -20, 20, rfl, ⟨6, h1.1⟩, ?_⟩
    have h2 := h1.2
    simp only [z_asB, z_oPs]
    cases hc : isBet kv (-20) 20 with
    | false => rw [if_neg (by simp [hc])] at h2; simpa using h2
    | true =>
      rw [if_pos hc] at h2
      obtain ⟨k, rfl, k1, k2⟩ : ∃ k : Int, kv = .int k ∧ -20 ≤ k ∧ k ≤ 20 := by
        unfold isBet at hc
        split at hc
        · rename_i i
          simp at hc
          exact ⟨i, rfl, hc.1, hc.2⟩
        · cases hc
      have h3 := h2 k rfl k1 k2
      rw [show itemsOf (rockD r) = some (r.map holdD) from rfl]
      simp only [if_true, z_oPs]
      refine lc_map (e := holdD) (f := fun h => .bl (decide (0 ≤ h.2.1 + k) && decide (h.2.1 + k ≤ 20))) r [] (by simp; omega) (fun h hh K1 k1 => ?_) ?_
      · simp [wipeR, holdD, setAll]
        by_cases c : 0 ≤ h.2.1 + k
        · simpa [c] using k1
        · simpa [c] using k1
      · simp only [List.nil_append]
        rw [asBs_map (fun h : Hold => decide (0 ≤ h.2.1 + k) && decide (h.2.1 + k ≤ 20))]
        simp only [Option.map_some, z_oPs, z_asB, List.all_map]
        rw [show r.all (id ∘ fun h : Hold => decide (0 ≤ h.2.1 + k) && decide (h.2.1 + k ≤ 20)) = upOk r k from rfl]
        cases hu : upOk r k with
        | false => rw [hu] at h3; simpa using h3
        | true =>
          rw [hu] at h3
          simp only [if_true] at h3 ⊢
          refine lc_map (e := holdD) (f := fun h => holdD (h.1, h.2.1 + k, h.2.2)) r [] (by simp; omega) (fun h hh K1 k1 => ?_) ?_
          · simp [wipeR, holdD, setAll]
            exact k1
          · simp only [List.nil_append]
            have : D.tup (r.map fun h => holdD (h.1, h.2.1 + k, h.2.2)) = rockD (upR r k) := by simp [rockD, upR, List.map_map, Function.comp_def]
            rw [this]
            exact ⟨Im_rock _, h3⟩
section
variable {r : Rk} {s : Sta} {k : Int} {P : D → Prop} {E : Str → Prop}
theorem e_mir (hr : VR r) : g_mirrored [rockD r] P E ↔ P (rockD (mir r)) := by simp only [g_mirrored, chkR_ok hr]
theorem e_mirS (hs : S7 s) : g_mirrored_stance [staD s] P E ↔ P (staD (mirS s)) := by simp only [g_mirrored_stance, chkA_ok hs]
theorem e_up (hr : VR r) (h1 : -20 ≤ k) (h2 : k ≤ 20) (h : upOk r k = true) : g_higher [rockD r, .int k] P E ↔ P (rockD (upR r k)) := by simp only [g_higher, chkR_ok hr, chkU_ok h1 h2 h]
end
end WH

set_option Elab.async false
set_option linter.all false
set_option maxRecDepth 100000
set_option maxHeartbeats 4000000
namespace WH
open PySem L2
/-! ### rocks that are alike -/
structure Iso (r r' : Rk) (f : Sta → Sta) : Prop where
  len : r'.length = r.length
  inv : ∀ s, f (f s) = s
  inr : ∀ {s}, InR r' (f s) ↔ InR r s
  kept : ∀ b s, InR r s → kept r' b (f s) = kept r b s
  one : ∀ {s t}, One s t → One (f s) (f t)
  top : ∀ s j, tops (f s) j = tops s j
  inh : ∀ hs s, inH hs (f s) = inH hs s
namespace Iso
variable {r r' : Rk} {f : Sta → Sta} {b : Bd} {s t : Sta} {j : Nat}
theorem symm (h : Iso r r' f) : Iso r' r f where
  len := h.len.symm
  inv := h.inv
  inr := fun {s} => by rw [← h.inr, h.inv]
  kept := fun b s hs => by
    have : InR r (f s) := by rw [← h.inr, h.inv]; exact hs
    rw [← h.kept b (f s) this, h.inv]
  one := h.one
  top := h.top
  inh := h.inh
theorem gd (h : Iso r r' f) (g : Gd r b s) : Gd r' b (f s) := ⟨h.inr.mpr g.i, by rw [h.kept b s g.i]; exact g.k⟩
theorem gd_iff (h : Iso r r' f) : Gd r' b (f s) ↔ Gd r b s := ⟨fun g => by have := h.symm.gd g; rwa [h.inv] at this, h.gd⟩
theorem nx (h : Iso r r' f) (hs : InR r s) (ht : t ∈ nexts r b s) : f t ∈ nexts r' b (f s) := by
  obtain ⟨h1, h2, h3⟩ := (mem_nexts hs).mp ht
  exact (mem_nexts (h.inr.mpr hs)).mpr ⟨h.inr.mpr h1, by rw [h.kept b t h1]; exact h2, h.one h3⟩
theorem wk {n : Nat} (h : Iso r r' f) (hs : InR r s) (w : Wk (nexts r b) n s t) : Wk (nexts r' b) n (f s) (f t) := by
  induction w with
  | nil => exact .nil _
  | snoc w1 hu ih =>
    have hi := w1.keeps (P := InR r) (fun a b ha hb => nexts_in ha hb) hs
    exact .snoc (ih hs) (h.nx hi hu)
theorem wk_iff {n : Nat} (h : Iso r r' f) (hs : InR r s) : Wk (nexts r' b) n (f s) (f t) ↔ Wk (nexts r b) n s t := ⟨fun w => by
  have := h.symm.wk (h.inr.mpr hs) w
  rwa [h.inv, h.inv] at this, h.wk hs⟩
theorem rch_iff (h : Iso r r' f) (hs : InR r s) : Rch (nexts r' b) (f s) (f t) ↔ Rch (nexts r b) s t := ⟨fun ⟨n, w⟩ => ⟨n, (h.wk_iff hs).mp w⟩, fun ⟨n, w⟩ => ⟨n, (h.wk_iff hs).mpr w⟩⟩
theorem dst (h : Iso r r' f) (hs : InR r s) : dst (nexts r' b) (f s) (f t) = dst (nexts r b) s t := by
  unfold WH.dst
  congr 1
  exact funext fun n => propext (h.wk_iff hs)
theorem dTop (h : Iso r r' f) (hs : InR r s) : dTop r' b (f s) j = dTop r b s j := by
  unfold WH.dTop
  congr 1
  refine funext fun n => propext ⟨?_, ?_⟩
  · rintro ⟨t, w, e⟩
    refine ⟨f t, (h.wk_iff hs).mp (by rw [h.inv]; exact w), by rw [h.top]; exact e⟩
  · rintro ⟨t, w, e⟩
    exact ⟨f t, (h.wk_iff hs).mpr w, by rw [h.top]; exact e⟩
theorem nxh {hs : List Nat} (h : Iso r r' f) (hi : InR r s) (ht : t ∈ nxH r b hs s) : f t ∈ nxH r' b hs (f s) := by
  obtain ⟨h1, h2⟩ := List.mem_filter.mp ht
  exact List.mem_filter.mpr ⟨h.nx hi h1, by rw [h.inh]; exact h2⟩
theorem wkh {n : Nat} {hs : List Nat} (h : Iso r r' f) (hi : InR r s) (w : Wk (nxH r b hs) n s t) : Wk (nxH r' b hs) n (f s) (f t) := by
  induction w with
  | nil => exact .nil _
  | snoc w1 hu ih =>
    have hi := w1.keeps (P := InR r) (fun a b ha hb => nxH_in ha hb) hi
    rename_i hi0 _
    exact .snoc (ih (by assumption)) (h.nxh hi hu)
theorem on1 {hs : List Nat} (h : Iso r r' f) (hi : InR r s) (k : On r b s j hs) : On r' b (f s) j hs := by
  obtain ⟨k1, t, ⟨n, w⟩, k2⟩ := k
  exact ⟨by rw [h.inh]; exact k1, f t, ⟨n, h.wkh hi w⟩, by rw [h.top]; exact k2⟩
theorem onB (h : Iso r r' f) (hi : InR r s) : onB r' b (f s) j = onB r b s j := by
  funext hs
  rw [Bool.eq_iff_iff, onB_true, onB_true]
  constructor
  · intro k
    have := h.symm.on1 (h.inr.mpr hi) k
    rwa [h.inv] at this
  · exact h.on1 hi
theorem needL (h : Iso r r' f) (hi : InR r s) : needL r' b (f s) j = needL r b s j := by
  unfold WH.needL
  rw [h.len, h.onB hi]
theorem fewL (h : Iso r r' f) (hi : InR r s) : fewL r' b (f s) j = fewL r b s j := by
  unfold WH.fewL
  rw [h.len, h.onB hi]
theorem leastR {w : Nat} (h : Iso r r' f) (hi : InR r s) : leastR r' b (f s) j w = leastR r b s j w := by
  unfold WH.leastR
  congr 1
  funext x
  unfold okR
  rw [h.kept _ _ hi, h.dTop hi]
theorem parts {n : Nat} (h : Iso r r' f) (k : Parts r b n) : Parts r' b n := by
  obtain ⟨l, e, a1, a2, a3⟩ := k
  refine ⟨l.map f, by rw [List.length_map, e], fun p hp => ?_, ?_, fun s hs => ?_⟩
  · obtain ⟨q, hq, rfl⟩ := List.mem_map.mp hp
    exact h.gd (a1 q hq)
  · rw [List.pairwise_map]
    exact a2.imp_of_mem fun {p q} hp hq hn z => hn ((h.rch_iff (a1 p hp).i).mp z)
  · obtain ⟨p, hp, hr⟩ := a3 (f s) (h.symm.gd hs)
    refine ⟨f p, List.mem_map.mpr ⟨p, hp, rfl⟩, ?_⟩
    have := (h.rch_iff (b := b) (t := f s) (a1 p hp).i).mpr hr
    rwa [h.inv] at this
theorem inj (h : Iso r r' f) {s t : Sta} (e : f s = f t) : s = t := by rw [← h.inv s, e, h.inv]
theorem nodup {l : List Sta} (h : Iso r r' f) (n : l.Nodup) : (l.map f).Nodup := by
  rw [List.Nodup, List.pairwise_map]
  exact n.imp fun {a b} z e => z (h.inj e)
theorem mem {l : List Sta} (h : Iso r r' f) : s ∈ l.map f ↔ f s ∈ l := by
  rw [List.mem_map]
  exact ⟨fun ⟨a, ha, e⟩ => by rw [← e, h.inv]; exact ha, fun k => ⟨f s, k, h.inv s⟩⟩
theorem reachL (h : Iso r r' f) (hs : InR r s) : reachL r' b (f s) = srt ((reachL r b s).map f) :=
  asc_eq (asc_reach _ _ _) (asc_srt (h.nodup (reachL_nodup _ _ _))) fun x => by
    rw [mem_reachL (h.inr.mpr hs), srt_mem, h.mem, mem_reachL hs]
    have := h.rch_iff (b := b) (t := f x) hs
    rw [h.inv] at this
    exact this
theorem pth {n : Nat} {l : List Sta} (h : Iso r r' f) (hs : InR r s) (p : Pth (nexts r b) n s t l) : Pth (nexts r' b) n (f s) (f t) (l.map f) := by
  induction p with
  | one => exact .one _
  | cons h1 h2 ih => exact .cons (h.nx hs h1) (ih (nexts_in hs h1))
end Iso
/-! ### the mirrored and the raised rock -/
section
variable {r : Rk} {s t : Sta} {k : Int}
theorem mirS_mirS (s : Sta) : mirS (mirS s) = s := rfl
theorem mir_len : (mir r).length = r.length := by simp [mir]
theorem up_len : (upR r k).length = r.length := by simp [upR]
theorem mir_mir : mir (mir r) = r := by
  unfold mir
  rw [List.map_map]
  conv => rhs; rw [← List.map_id r]
  apply List.map_congr_left
  rintro ⟨x, y, m⟩ _
  simp
  omega
theorem hAt_map {g : Hold → Hold} {i : Nat} (h : i < r.length) : hAt (r.map g) i = g (hAt r i) := by
  unfold hAt
  simp [List.getD_eq_getElem?_getD, h]
theorem one_mir (h : One s t) : One (mirS s) (mirS t) := by
  obtain ⟨l, x, hl, hn, rfl⟩ := h
  have : l = 0 ∨ l = 1 ∨ l = 2 ∨ l = 3 := by omega
  rcases this with rfl | rfl | rfl | rfl
  · exact ⟨1, x, by decide, hn, rfl⟩
  · exact ⟨0, x, by decide, hn, rfl⟩
  · exact ⟨3, x, by decide, hn, rfl⟩
  · exact ⟨2, x, by decide, hn, rfl⟩
theorem InR.mirS (h : InR r s) : InR r (mirS s) := ⟨h.b, h.a, h.d, h.c⟩
theorem room_mir (h : InR r s) : roomOk (mir r) (mirS s) = roomOk r s := by
  have e : ∀ i ∈ lst4 s, mOf (mir r) i = mOf r i := fun i hi => by
    show (hAt (mir r) i).2.2 = _
    rw [mir, hAt_map (h.mem hi)]
  have c : ∀ i, (lst4 (mirS s)).countP (· == i) = (lst4 s).countP (· == i) := fun i => by
    simp only [lst4, WH.mirS, List.countP_cons, List.countP_nil]
    omega
  rw [Bool.eq_iff_iff]
  unfold roomOk
  simp only [List.all_eq_true, decide_eq_true_eq, c]
  have m : ∀ i, i ∈ lst4 (mirS s) ↔ i ∈ lst4 s := fun i => by
    simp only [lst4, WH.mirS, List.mem_cons, List.not_mem_nil, or_false]
    constructor <;> (rintro (z | z | z | z) <;> simp [z])
  constructor
  · intro k i hi
    have := k i ((m i).mpr hi)
    rwa [e i hi] at this
  · intro k i hi
    rw [e i ((m i).mp hi)]
    exact k i ((m i).mp hi)
theorem kept_mir {b : Bd} (h : InR r s) : kept (mir r) b (mirS s) = kept r b s := by
  have x : ∀ i ∈ lst4 s, xOf (mir r) i = 20 - xOf r i ∧ yOf (mir r) i = yOf r i := fun i hi => by
    show (hAt (mir r) i).1 = _ ∧ (hAt (mir r) i).2.1 = _
    rw [mir, hAt_map (h.mem hi)]
    exact ⟨rfl, rfl⟩
  have xa := x s.1 (by simp [lst4]); have xb := x s.2.1 (by simp [lst4]); have xc := x s.2.2.1 (by simp [lst4]); have xd := x s.2.2.2 (by simp [lst4])
  rw [Bool.eq_iff_iff, kept_iff, kept_iff, room_mir h]
  simp only [WH.mirS, nearL, xa.1, xa.2, xb.1, xb.2, xc.1, xc.2, xd.1, xd.2]
  generalize roomOk r s = ro
  generalize xOf r s.1 = a1; generalize xOf r s.2.1 = a2; generalize xOf r s.2.2.1 = a3; generalize xOf r s.2.2.2 = a4
  generalize yOf r s.1 = c1; generalize yOf r s.2.1 = c2; generalize yOf r s.2.2.1 = c3; generalize yOf r s.2.2.2 = c4
  constructor
  · rintro ⟨h0, h⟩
    exact ⟨h0, by omega⟩
  · rintro ⟨h0, h⟩
    exact ⟨h0, by omega⟩
theorem kept_up {b : Bd} (h : InR r s) : kept (upR r k) b s = kept r b s := by
  have x : ∀ i ∈ lst4 s, xOf (upR r k) i = xOf r i ∧ yOf (upR r k) i = yOf r i + k ∧ mOf (upR r k) i = mOf r i := fun i hi => by
    show (hAt (upR r k) i).1 = _ ∧ (hAt (upR r k) i).2.1 = _ ∧ (hAt (upR r k) i).2.2 = _
    rw [upR, hAt_map (h.mem hi)]
    exact ⟨rfl, rfl, rfl⟩
  have hro : roomOk (upR r k) s = roomOk r s := all_cong fun i hi => by
    show decide (_ ≤ mOf (upR r k) i) = decide (_ ≤ mOf r i)
    rw [(x i hi).2.2]
  have xa := x s.1 (by simp [lst4]); have xb := x s.2.1 (by simp [lst4]); have xc := x s.2.2.1 (by simp [lst4]); have xd := x s.2.2.2 (by simp [lst4])
  rw [Bool.eq_iff_iff, kept_iff, kept_iff, hro]
  simp only [nearL, xa.1, xa.2.1, xb.1, xb.2.1, xc.1, xc.2.1, xd.1, xd.2.1]
  generalize roomOk r s = ro
  generalize xOf r s.1 = a1; generalize xOf r s.2.1 = a2; generalize xOf r s.2.2.1 = a3; generalize xOf r s.2.2.2 = a4
  generalize yOf r s.1 = c1; generalize yOf r s.2.1 = c2; generalize yOf r s.2.2.1 = c3; generalize yOf r s.2.2.2 = c4
  constructor
  · rintro ⟨h0, h⟩
    exact ⟨h0, by omega⟩
  · rintro ⟨h0, h⟩
    exact ⟨h0, by omega⟩
theorem inr_len {r r' : Rk} (e : r'.length = r.length) : InR r' s ↔ InR r s := by
  constructor
  · intro h; have := h.a; have := h.b; have := h.c; have := h.d
    constructor <;> omega
  · intro h; have := h.a; have := h.b; have := h.c; have := h.d
    constructor <;> omega
theorem iso_mir (r : Rk) : Iso r (mir r) mirS where
  len := mir_len
  inv := mirS_mirS
  inr := fun {s} => by
    rw [inr_len mir_len]
    exact ⟨fun h => by have := h.mirS; rwa [mirS_mirS] at this, fun h => h.mirS⟩
  kept := fun b s h => kept_mir h
  one := one_mir
  top := fun s j => by simp only [tops, mirS]; exact Bool.or_comm _ _
  inh := fun hs s => by
    simp only [inH, lst4, mirS, List.all_cons, List.all_nil, Bool.and_true]
    cases decide (s.1 ∈ hs) <;> cases decide (s.2.1 ∈ hs) <;> cases decide (s.2.2.1 ∈ hs) <;> cases decide (s.2.2.2 ∈ hs) <;> rfl
theorem iso_up (r : Rk) (k : Int) : Iso r (upR r k) id where
  len := up_len
  inv := fun _ => rfl
  inr := fun {s} => inr_len up_len
  kept := fun b s h => kept_up h
  one := fun h => h
  top := fun s j => rfl
  inh := fun hs s => rfl
theorem VR.mir (h : VR r) : VR (mir r) where
  one := by rw [mir_len]; exact h.one
  seven := by rw [mir_len]; exact h.seven
  hold := fun x hx => by
    obtain ⟨y, hy, rfl⟩ := List.mem_map.mp hx
    have := h.hold y hy
    simp only
    omega
  nd := by
    have := h.nd
    unfold WH.mir
    rw [List.map_map, List.Nodup, List.pairwise_map]
    rw [List.Nodup, List.pairwise_map] at this
    refine this.imp fun {a b} z e => z ?_
    simp only [Function.comp, Prod.mk.injEq] at e ⊢
    exact ⟨by omega, e.2⟩
theorem VR.up (h : VR r) (hu : upOk r k = true) : VR (upR r k) where
  one := by rw [up_len]; exact h.one
  seven := by rw [up_len]; exact h.seven
  hold := fun x hx => by
    obtain ⟨y, hy, rfl⟩ := List.mem_map.mp hx
    have := h.hold y hy
    have h2 := List.all_eq_true.mp hu y hy
    simp only [Bool.and_eq_true, decide_eq_true_eq] at h2
    simp only
    omega
  nd := by
    have := h.nd
    unfold WH.upR
    rw [List.map_map, List.Nodup, List.pairwise_map]
    rw [List.Nodup, List.pairwise_map] at this
    refine this.imp fun {a b} z e => z ?_
    simp only [Function.comp, Prod.mk.injEq] at e ⊢
    exact ⟨e.1, by omega⟩
end
/-! ### the stances stand in order -/
theorem ltS_iff4 {a b c d x y z w : Nat} : ltS (a, b, c, d) (x, y, z, w) = true ↔ a < x ∨ a = x ∧ (b < y ∨ b = y ∧ (c < z ∨ c = z ∧ d < w)) := by
  simp only [ltS, lI, decide_eq_true_eq, List.cons_lt_cons_iff, List.lt_irrefl, and_false, or_false]
  omega
theorem asc_all (n : Nat) : Asc (allSta n) := by
  unfold Asc allSta
  rw [List.pairwise_flatMap]
  refine ⟨fun a _ => ?_, List.pairwise_lt_range.imp fun {a a'} h x hx y hy => ?_⟩
  · rw [List.pairwise_flatMap]
    refine ⟨fun b _ => ?_, List.pairwise_lt_range.imp fun {b b'} h x hx y hy => ?_⟩
    · rw [List.pairwise_flatMap]
      refine ⟨fun c _ => ?_, List.pairwise_lt_range.imp fun {c c'} h x hx y hy => ?_⟩
      · rw [List.pairwise_map]
        exact List.pairwise_lt_range.imp fun {d d'} h => ltS_iff4.mpr (.inr ⟨rfl, .inr ⟨rfl, .inr ⟨rfl, h⟩⟩⟩)
      · obtain ⟨d, _, rfl⟩ := List.mem_map.mp hx
        obtain ⟨d', _, rfl⟩ := List.mem_map.mp hy
        exact ltS_iff4.mpr (.inr ⟨rfl, .inr ⟨rfl, .inl h⟩⟩)
    · obtain ⟨c, _, hx⟩ := List.mem_flatMap.mp hx
      obtain ⟨c', _, hy⟩ := List.mem_flatMap.mp hy
      obtain ⟨d, _, rfl⟩ := List.mem_map.mp hx
      obtain ⟨d', _, rfl⟩ := List.mem_map.mp hy
      exact ltS_iff4.mpr (.inr ⟨rfl, .inl h⟩)
  · obtain ⟨b, _, hx⟩ := List.mem_flatMap.mp hx
    obtain ⟨b', _, hy⟩ := List.mem_flatMap.mp hy
    obtain ⟨c, _, hx⟩ := List.mem_flatMap.mp hx
    obtain ⟨c', _, hy⟩ := List.mem_flatMap.mp hy
    obtain ⟨d, _, rfl⟩ := List.mem_map.mp hx
    obtain ⟨d', _, rfl⟩ := List.mem_map.mp hy
    exact ltS_iff4.mpr (.inl h)
theorem asc_goods (r : Rk) (b : Bd) : Asc (goods r b) := List.Pairwise.filter _ (asc_all _)
theorem Iso.goods {r r' : Rk} {f : Sta → Sta} {b : Bd} (h : Iso r r' f) : goods r' b = srt ((goods r b).map f) :=
  asc_eq (asc_goods _ _) (asc_srt (h.nodup (goods_nodup _ _))) fun x => by
    rw [srt_mem, h.mem, goods_gd, goods_gd]
    exact ⟨fun g => h.symm.gd g, fun g => by have := h.gd g; rwa [h.inv] at this⟩
theorem srt_asc {l : List Sta} (h : Asc l) : srt l = l := asc_eq (asc_srt (asc_iff.mp h).2) h fun _ => srt_mem
end WH

set_option Elab.async false
set_option linter.all false
set_option maxRecDepth 100000
set_option maxHeartbeats 4000000
namespace WH
open PySem L2
/-! ### _law_result at data level -/
def Err (P : D → Prop) (x : Str) : Prop := ∃ n, n < 9 ∧ eCls n = x ∧ P (.tup [.str (eTxt n)])
@[simp] theorem z_result {te : (Str → Prop) → DE} {ρ : R} {P : D → Prop} : dResult te ρ P ↔ te (Err P) ρ fun d => P (.tup [.str "returns", d]) := .rfl
theorem eCls_inj : ∀ i j : Fin 9, eCls i = eCls j → i = j := by decide +kernel
theorem ex_err {P : D → Prop} {i : Nat} (hi : i < 9) : Err P (eCls i) ↔ P (.tup [.str (eTxt i)]) := by
  constructor
  · rintro ⟨n, hn, e, p⟩
    have := eCls_inj ⟨n, hn⟩ ⟨i, hi⟩ e
    have : n = i := congrArg Fin.val this
    subst this
    exact p
  · exact fun p => ⟨i, hi, rfl, p⟩
section
variable {P : D → Prop}
@[simp] theorem ex_rock : Err P "InvalidRock" ↔ P (.tup [.str "rock"]) := ex_err (i := 0) (by decide)
@[simp] theorem ex_body : Err P "InvalidBody" ↔ P (.tup [.str "body"]) := ex_err (i := 1) (by decide)
@[simp] theorem ex_grip : Err P "InvalidHold" ↔ P (.tup [.str "grip"]) := ex_err (i := 2) (by decide)
@[simp] theorem ex_limb : Err P "InvalidLimb" ↔ P (.tup [.str "limb"]) := ex_err (i := 3) (by decide)
@[simp] theorem ex_number : Err P "InvalidNumber" ↔ P (.tup [.str "number"]) := ex_err (i := 4) (by decide)
@[simp] theorem ex_pose : Err P "InvalidStance" ↔ P (.tup [.str "pose"]) := ex_err (i := 5) (by decide)
end
theorem neD_txt {x : Str} (h : PyData.strOk x = true) : neD (.tup [.str x]) (.tup [.str x]) = some false := neD_self (by simp [plN, h]) (by simp [nB, nBs])
@[simp] theorem ne_rock : neD (.tup [.str "rock"]) (.tup [.str "rock"]) = some false := neD_txt (by decide +kernel)
@[simp] theorem ne_body : neD (.tup [.str "body"]) (.tup [.str "body"]) = some false := neD_txt (by decide +kernel)
@[simp] theorem ne_grip : neD (.tup [.str "grip"]) (.tup [.str "grip"]) = some false := neD_txt (by decide +kernel)
@[simp] theorem ne_number : neD (.tup [.str "number"]) (.tup [.str "number"]) = some false := neD_txt (by decide +kernel)
@[simp] theorem ne_pose : neD (.tup [.str "pose"]) (.tup [.str "pose"]) = some false := neD_txt (by decide +kernel)
end WH

set_option Elab.async false
set_option linter.all false
set_option maxRecDepth 100000
set_option maxHeartbeats 4000000
namespace WH
open PySem L2
/-! ### levels: what _law_levels does, plainly -/
section
variable {α : Type} {nx : α → List α} {s : α} {kn : List (α × Nat)} {lev F Dn : List α} {m : Nat}
structure Lvs (nx : α → List α) (s : α) (kn : List (α × Nat)) : Prop where
  nd : (kn.map (·.1)).Nodup
  mem : ∀ t n, (t, n) ∈ kn ↔ dst nx s t = some n
structure Lvi (nx : α → List α) (s : α) (kn : List (α × Nat)) (lev : List α) (m : Nat) : Prop where
  nd : (kn.map (·.1)).Nodup
  wk : ∀ t n, (t, n) ∈ kn → Wk nx n s t ∧ n ≤ m
  all : ∀ n t, n ≤ m → Wk nx n s t → ∃ k, k ≤ n ∧ (t, k) ∈ kn
  lv : ∀ t, t ∈ lev ↔ (t, m) ∈ kn
theorem Lvi.start : Lvi nx s [(s, 0)] [s] 0 where
  nd := by simp
  wk := fun t n h => by
    simp at h
    obtain ⟨rfl, rfl⟩ := h
    exact ⟨.nil _, Nat.le_refl _⟩
  all := fun n t hn w => by
    obtain rfl : n = 0 := by omega
    cases w
    exact ⟨0, Nat.le_refl _, by simp⟩
  lv := fun t => by simp
theorem key_uniq (nd : (kn.map (·.1)).Nodup) {t : α} {a b : Nat} (h1 : (t, a) ∈ kn) (h2 : (t, b) ∈ kn) : a = b := by
  induction kn with
  | nil => cases h1
  | cons p l ih =>
    rw [List.map_cons, List.nodup_cons] at nd
    rcases List.mem_cons.mp h1 with e1 | e1 <;> rcases List.mem_cons.mp h2 with e2 | e2
    · rw [← e2] at e1; injection e1
    · exact absurd (List.mem_map.mpr ⟨_, e2, rfl⟩) (by rw [← e1] at nd; exact nd.1)
    · exact absurd (List.mem_map.mpr ⟨_, e1, rfl⟩) (by rw [← e2] at nd; exact nd.1)
    · exact ih nd.2 e1 e2
theorem Lvi.done (h : Lvi nx s kn [] m) : Lvs nx s kn := by
  have all : ∀ n t, Wk nx n s t → ∃ k, k ≤ n ∧ (t, k) ∈ kn := by
    intro n
    induction n with
    | zero => exact fun t w => h.all 0 t (Nat.zero_le _) w
    | succ n ih =>
      intro t w
      cases w with
      | snoc w1 hu =>
        obtain ⟨k, hk, hm⟩ := ih _ w1
        obtain ⟨w2, hkm⟩ := h.wk _ _ hm
        have hlt : k ≠ m := fun e => by
          subst e
          have := (h.lv _).mpr hm
          cases this
        obtain ⟨k2, hk2, hm2⟩ := h.all (k + 1) t (by omega) (.snoc w2 hu)
        exact ⟨k2, by omega, hm2⟩
  refine ⟨h.nd, fun t n => ⟨fun hm => lst_some.mpr ⟨(h.wk t n hm).1, fun k hk => ?_⟩, fun hd => ?_⟩⟩
  · obtain ⟨k2, h1, h2⟩ := all k t hk
    have := key_uniq h.nd hm h2
    omega
  · obtain ⟨w, hmin⟩ := lst_some.mp hd
    obtain ⟨k, h1, h2⟩ := all n t w
    have := hmin k (h.wk t k h2).1
    obtain rfl : k = n := by omega
    exact h2
structure Lve (nx : α → List α) (kn : List (α × Nat)) (lev Dn F : List α) : Prop where
  nd : F.Nodup
  new : ∀ t ∈ F, t ∉ kn.map (·.1)
  fr : ∀ t ∈ F, ∃ p ∈ lev, t ∈ nx p
  dn : ∀ t ∈ Dn, t ∈ kn.map (·.1) ∨ t ∈ F
theorem Lve.start : Lve nx kn lev [] [] := ⟨by simp, fun _ h => (by cases h), fun _ h => (by cases h), fun _ h => (by cases h)⟩
theorem Lve.old {t : α} (h : Lve nx kn lev Dn F) (ht : t ∈ kn.map (·.1) ∨ t ∈ F) : Lve nx kn lev (Dn ++ [t]) F := ⟨h.nd, h.new, h.fr, fun u hu => by
  rcases List.mem_append.mp hu with z | z
  · exact h.dn u z
  · rw [List.mem_singleton.mp z]; exact ht⟩
theorem Lve.add {t p : α} (h : Lve nx kn lev Dn F) (h1 : t ∉ kn.map (·.1)) (h2 : t ∉ F) (hp : p ∈ lev) (ht : t ∈ nx p) : Lve nx kn lev (Dn ++ [t]) (F ++ [t]) := ⟨by
    rw [List.nodup_append]
    exact ⟨h.nd, by simp, fun a ha b hb e => h2 (by rw [List.mem_singleton.mp hb] at e; exact e ▸ ha)⟩, fun u hu => by
    rcases List.mem_append.mp hu with z | z
    · exact h.new u z
    · rw [List.mem_singleton.mp z]; exact h1, fun u hu => by
    rcases List.mem_append.mp hu with z | z
    · exact h.fr u z
    · rw [List.mem_singleton.mp z]; exact ⟨p, hp, ht⟩, fun u hu => by
    rcases List.mem_append.mp hu with z | z
    · exact (h.dn u z).imp id fun q => List.mem_append_left _ q
    · rw [List.mem_singleton.mp z]; exact .inr (by simp)⟩
theorem Lve.congr {D2 : List α} (h : Lve nx kn lev Dn F) (e : ∀ t ∈ D2, t ∈ Dn) : Lve nx kn lev D2 F := ⟨h.nd, h.new, h.fr, fun t ht => h.dn t (e t ht)⟩
theorem keys_app {n : Nat} : (kn ++ F.map fun t => (t, n)).map (·.1) = kn.map (·.1) ++ F := by
  rw [List.map_append, List.map_map]
  congr 1
  induction F with
  | nil => rfl
  | cons a l ih => rw [List.map_cons, ih]; rfl
theorem Lvi.step (h : Lvi nx s kn lev m) (e : Lve nx kn lev (lev.flatMap nx) F) : Lvi nx s (kn ++ F.map fun t => (t, m + 1)) F (m + 1) where
  nd := by
    rw [keys_app, List.nodup_append]
    exact ⟨h.nd, e.nd, fun a ha b hb z => e.new b hb (z ▸ ha)⟩
  wk := fun t n ht => by
    rcases List.mem_append.mp ht with z | z
    · have := h.wk t n z
      exact ⟨this.1, by omega⟩
    · obtain ⟨y, hy, e1⟩ := List.mem_map.mp z
      cases e1
      obtain ⟨p, hp, hx⟩ := e.fr _ hy
      exact ⟨.snoc (h.wk p m ((h.lv p).mp hp)).1 hx, Nat.le_refl _⟩
  all := fun n t hn w => by
    by_cases hle : n ≤ m
    · obtain ⟨k, h1, h2⟩ := h.all n t hle w
      exact ⟨k, h1, List.mem_append_left _ h2⟩
    · obtain rfl : n = m + 1 := by omega
      cases w with
      | @snoc _ _ u _ w1 hu =>
        obtain ⟨k, hk, hm⟩ := h.all m u (Nat.le_refl _) w1
        by_cases hkm : k = m
        · subst hkm
          have hl := (h.lv u).mpr hm
          rcases e.dn t (List.mem_flatMap.mpr ⟨u, hl, hu⟩) with z | z
          · obtain ⟨⟨t', k2⟩, h1, h2⟩ := List.mem_map.mp z
            cases h2
            have := (h.wk _ _ h1).2
            exact ⟨k2, by omega, List.mem_append_left _ h1⟩
          · exact ⟨k + 1, Nat.le_refl _, List.mem_append_right _ (List.mem_map.mpr ⟨t, z, rfl⟩)⟩
        · obtain ⟨k2, h1, h2⟩ := h.all (k + 1) t (by omega) (.snoc (h.wk u k hm).1 hu)
          exact ⟨k2, by omega, List.mem_append_left _ h2⟩
  lv := fun t => by
    rw [List.mem_append, List.mem_map]
    constructor
    · exact fun ht => .inr ⟨t, ht, rfl⟩
    · rintro (z | ⟨y, hy, e1⟩)
      · have := (h.wk t _ z).2
        omega
      · cases e1; exact hy
end
/-! ### _law_near, _law_levels -/
def nrL (rows : List Sta) (s : Sta) : List Sta := rows.filter fun t => decide (diffN t s = 1)
def g__law_near : GF
  | [rv, sv], P, _ => ∃ rows s, rv = .lst (rows.map staD) ∧ sv = staD s ∧ rows.length ≤ 2401 ∧ P (.lst ((nrL rows s).map staD))
  | _, _, _ => False
/-! _law_near(rows, pose): 0 rows, 1 pose, 2 found, 3 row, 4 mine, 5 yours -/
def N__law_near : List Str := ["rows", "pose", "found", "row", "mine", "yours"]
def b__law_near_L1 : DS := (dIfS (dCmp eqD (dCB lenD (dCons (dLc (diZip (dCons (dVar 3) (dCons (dVar 1) dNil))) (.tp [4, 5]) (dCmp neD (dVar 4) (dVar 5)) (dC (.int 1)) [4, 5]) dNil)) (dC (.int 1))) (fun E ρ => (∃ ds, ρ[2]? = some (some (Slot.own (.lst ds)))) ∧ dApp 2 (dVar 3) E ρ) dNext)
def b__law_near : DS := (dSeq (dOwn 2 (dLst dNil))
      (dSeq (dFor (diSeq (dVar 0)) (.nm 3) b__law_near_L1)
      (dRetO 2)))
theorem len__law_near : ∀ ds P E, g__law_near ds P E → ds.length = 2 := fun ds P E h => by
  unfold g__law_near at h
  split at h <;> first | rfl | exact h.elim
theorem t__law_near (ds : List D) (P : D → Prop) (h : g__law_near ds P fun _ => False) : b__law_near { nx := fun _ => P .non, rt := P } (startD N__law_near ds) := by
  unfold g__law_near at h
  split at h
  · obtain ⟨rows, s, rfl, rfl, hl, q⟩ := h
    simp only [b__law_near, startD, N__law_near, z_seq]
    simp [-Prod.exists, -Prod.forall]
    refine for_ind (e := staD) (fun l ρ => ∃ pre x3 x4 x5, rows = pre ++ l ∧ ρ = [some (.sh (.lst (rows.map staD))), some (.sh (staD s)), some (.own (.lst ((nrL pre s).map staD))), x3, x4, x5]) ?_ ?_ rows _ ⟨[], _, _, _, rfl, rfl⟩
    · rintro t l ρ N ⟨pre, x3, x4, x5, he, rfl⟩ hN
      simp only [b__law_near_L1, z_asgN]
      simp [-Prod.exists, -Prod.forall]
      refine ⟨lst4 t |>.map fun i => .int (i : Nat), lst4 s |>.map fun i => .int (i : Nat), .inl ⟨rfl, rfl⟩, ?_⟩
      rw [zipD_map]
      refine lc_run (e := fun p : Nat × Nat => .pr [.int p.1, .int p.2]) (f := fun _ => .int 1) (p := fun p => decide (p.1 ≠ p.2)) _ [] (by simp [lst4]) (fun p hp K1 K0 h1 => ?_) ?_
      · simp [wipeR]
        by_cases hc : p.1 = p.2
        · simpa [hc] using h1
        · have : ¬ (p.1 : Int) = p.2 := by omega
          rw [if_neg this]
          simpa [hc] using h1
      · have e : (((lst4 t).zip (lst4 s)).filter fun p => !decide (p.1 = p.2)).length = diffN t s := by
          unfold diffN
          rw [List.countP_eq_length_filter]
          congr 1
          apply List.filter_congr
          intro x _
          simp
        have hpl : (nrL pre s).length ≤ 2401 := by
          have h1 : (nrL pre s).length ≤ pre.length := List.length_filter_le _ _
          have h2 : pre.length ≤ rows.length := by rw [he, List.length_append]; omega
          omega
        simp only [List.nil_append]
        simp [-Prod.exists, -Prod.forall]
        rw [e]
        by_cases hd : diffN t s = 1
        · have e3 : (nrL (pre ++ [t]) s).map staD = (nrL pre s).map staD ++ [staD t] := by simp [nrL, hd]
          rw [if_pos (by omega)]
          exact ⟨by omega, hN _ ⟨pre ++ [t], _, _, _, by rw [he]; simp, by rw [e3]⟩⟩
        · have e3 : (nrL (pre ++ [t]) s).map staD = (nrL pre s).map staD := by simp [nrL, hd]
          rw [if_neg (by omega)]
          exact hN _ ⟨pre ++ [t], _, _, _, by rw [he]; simp, by rw [e3]⟩
    · rintro ρ ⟨pre, x3, x4, x5, he, rfl⟩
      rw [List.append_nil] at he
      subst he
      simp [-Prod.exists, -Prod.forall]
      exact ⟨ims_stas _, q⟩
  · exact h.elim
theorem e_near {rows : List Sta} {s : Sta} {P : D → Prop} {E : Str → Prop} (hl : rows.length ≤ 2401) : g__law_near [.lst (rows.map staD), staD s] P E ↔ P (.lst ((nrL rows s).map staD)) := by
  simp only [g__law_near]
  constructor
  · rintro ⟨rows', s', e1, e2, _, p⟩
    rw [staD_inj] at e2
    subst e2
    injection e1 with e1
    have := (List.map_inj_right (f := staD) fun a b h => staD_inj.mp h).mp e1
    subst this
    exact p
  · exact fun p => ⟨rows, s, rfl, rfl, hl, p⟩
def lvD (kn : List (Sta × Nat)) : List (D × D) := kn.map fun p => (staD p.1, .int (p.2 : Nat))
def g__law_levels : GF
  | [rv, sv], P, _ => ∃ rows s, rv = .lst (rows.map staD) ∧ sv = staD s ∧ rows.length ≤ 2401 ∧ ∀ kn, Lvs (nrL rows) s kn → (∀ t ∈ kn.map (·.1), t = s ∨ t ∈ rows) → kn.length ≤ 2402 → P (.dct (lvD kn))
  | _, _, _ => False
/-! _law_levels(rows, begin): 0 rows, 1 begin, 2 known, 3 level, 4 many, 5 pose, 6 further, 7 there -/
def N__law_levels : List Str := ["rows", "begin", "known", "level", "many", "pose", "further", "there"]
def b__law_levels_L1 : DS := (dIfS (dCmp notInE (dVar 7) (dVarB 2)) (dSeq (dPut 2 (dVar 7) (dVar 4))
      (fun E ρ => (∃ ds, ρ[6]? = some (some (Slot.own (.lst ds)))) ∧ dApp 6 (dVar 7) E ρ)) dNext)
def b__law_levels_L2 : DS := (dFor (diSeqE (dCall g__law_near (dCons (dVar 0) (dCons (dVar 5) dNil)))) (.nm 7) b__law_levels_L1)
def b__law_levels_L3 : DS := (dSeq (dPar 6 4 (kOwn (dLst dNil) (kSh (dBin addD (dVar 4) (dC (.int 1))) kNil)))
      (dSeq (dFor (diSeqE (dVar 3)) (.nm 5) b__law_levels_L2)
      (dFrz 6 (dSet 3 (dVar 6)))))
def b__law_levels : DS := (dSeq (dPar3 2 3 4 (kOwn (dDct1 (dVar 1) (dC (.int 0))) (kSh (dLst (dCons (dVar 1) dNil)) (kSh (dC (.int 0)) kNil))))
      (dSeq (dWhile (dCmp neD (dVar 3) (dLst dNil)) b__law_levels_L3)
      (dRetO 2)))
theorem len__law_levels : ∀ ds P E, g__law_levels ds P E → ds.length = 2 := fun ds P E h => by
  unfold g__law_levels at h
  split at h <;> first | rfl | exact h.elim
theorem lget_kn (t : Sta) : ∀ kn : List (Sta × Nat), dget (lvD kn) (kS t) = (kn.find? fun p => decide (p.1 = t)).map fun p => .int (p.2 : Nat)
  | [] => rfl
  | p :: kn => by
    have ih := lget_kn t kn
    unfold dget lvD at ih ⊢
    rw [List.map_cons, List.find?_cons, List.find?_cons]
    by_cases e : p.1 = t
    · have : decide (asK (staD p.1) = some (kS t)) = true := by simp [e]
      rw [this]
      simp [e]
    · have : decide (asK (staD p.1) = some (kS t)) = false := by simp [kS_inj, e]
      rw [this]
      simp only [e, decide_false]
      exact ih
theorem lget_some {t : Sta} {kn : List (Sta × Nat)} : (dget (lvD kn) (kS t)).isSome = decide (t ∈ kn.map (·.1)) := by
  rw [lget_kn, Option.isSome_map]
  by_cases h : t ∈ kn.map (·.1)
  · obtain ⟨p, hp, e⟩ := List.mem_map.mp h
    have : (kn.find? fun p => decide (p.1 = t)).isSome = true := by
      rw [List.find?_isSome]
      exact ⟨p, hp, by simp [e]⟩
    rw [this, decide_eq_true h]
  · have : (kn.find? fun p => decide (p.1 = t)) = none := by
      rw [List.find?_eq_none]
      intro p hp
      simp only [decide_eq_true_eq]
      exact fun e => h (List.mem_map.mpr ⟨p, hp, e⟩)
    rw [this, decide_eq_false h]
    rfl
theorem lget_none {t : Sta} {kn : List (Sta × Nat)} (h : t ∉ kn.map (·.1)) : dget (lvD kn) (kS t) = none := by
  have := lget_some (t := t) (kn := kn)
  rw [decide_eq_false h] at this
  cases e : dget (lvD kn) (kS t) with
  | none => rfl
  | some _ => rw [e] at this; cases this
theorem fr_lv {kn : List (Sta × Nat)} : FrOk (.dct (lvD kn)) = true := by
  show ((lvD kn).all fun p => Im p.2) = true
  rw [List.all_eq_true]
  intro p hp
  obtain ⟨q, _, rfl⟩ := List.mem_map.mp hp
  rfl
theorem t__law_levels (ds : List D) (P : D → Prop) (h : g__law_levels ds P fun _ => False) : b__law_levels { nx := fun _ => P .non, rt := P } (startD N__law_levels ds) := by
  unfold g__law_levels at h
  split at h
  · obtain ⟨rows, s, rfl, rfl, hl, q⟩ := h
    have hkl : ∀ ks : List Sta, ks.Nodup → (∀ t ∈ ks, t = s ∨ t ∈ rows) → ks.length ≤ 2402 := fun ks h1 h2 => by
      have := nodup_len h1 (m := s :: rows) fun t ht => by
        rcases h2 t ht with z | z
        · rw [z]; simp
        · simp [z]
      simp at this
      omega
    simp only [b__law_levels, startD, N__law_levels, z_seq]
    simp [-Prod.exists]
    refine while_ind (fun m ρ => ∃ (kn : List (Sta × Nat)) (lev : List Sta) (n : Nat) (x5 x6 x7 : Option Slot), Lvi (nrL rows) s kn lev n ∧ (∀ t ∈ kn.map (·.1), t = s ∨ t ∈ rows) ∧ m = 2 * (2402 - kn.length) + lev.length ∧ ρ = [some (.sh (.lst (rows.map staD))), some (.sh (staD s)), some (.own (.dct (lvD kn))), some (.sh (.lst (lev.map staD))), some (.sh (.int n)), x5, x6, x7]) _ ⟨[(s, 0)], [s], 0, none, none, none, Lvi.start, by simp, rfl, rfl⟩ ?_
    rintro m ρ N ⟨kn, lev, n, x5, x6, x7, hB, hin, rfl, rfl⟩ hN
    simp [neD_stas, -Prod.exists]
    have hk := hkl _ hB.nd hin
    rw [List.length_map] at hk
    cases hlev : lev with
    | nil =>
      rw [hlev] at hB
      simp [-Prod.exists, fr_lv]
      exact q kn hB.done hin hk
    | cons f0 w0 =>
      rw [← hlev]
      have hne : lev ≠ [] := by rw [hlev]; simp
      have hpos : 1 ≤ lev.length := by rw [hlev]; simp
      clear hlev f0 w0
      simp only [hne, if_false, b__law_levels_L3]
      simp [-Prod.exists]
      refine for_ind (e := staD) (fun l ρ => ∃ pre F x5 x7, lev = pre ++ l ∧ Lve (nrL rows) kn lev (pre.flatMap (nrL rows)) F ∧ ρ = [some (.sh (.lst (rows.map staD))), some (.sh (staD s)), some (.own (.dct (lvD (kn ++ F.map fun t => (t, n + 1))))), some (.sh (.lst (lev.map staD))), some (.sh (.int (n + 1))), x5, some (.own (.lst (F.map staD))), x7]) ?_ ?_ lev _ ⟨[], [], x5, x7, rfl, Lve.start, by simp⟩
      · rintro f l ρ N2 ⟨pre, F, x5, x7, he, hF, rfl⟩ hN2
        simp only [b__law_levels_L2, z_asgN]
        simp [e_near hl, -Prod.exists, -List.map_append]
        have hf : f ∈ lev := by rw [he]; simp
        refine for_ind (e := staD) (fun l2 ρ => ∃ pre2 F x7, nrL rows f = pre2 ++ l2 ∧ Lve (nrL rows) kn lev (pre.flatMap (nrL rows) ++ pre2) F ∧ ρ = [some (.sh (.lst (rows.map staD))), some (.sh (staD s)), some (.own (.dct (lvD (kn ++ F.map fun t => (t, n + 1))))), some (.sh (.lst (lev.map staD))), some (.sh (.int (n + 1))), some (.sh (staD f)), some (.own (.lst (F.map staD))), x7]) ?_ ?_ (nrL rows f) _ ⟨[], F, x7, rfl, by simpa using hF, rfl⟩
        · rintro t l2 ρ N3 ⟨pre2, F, x7, he2, hF2, rfl⟩ hN3
          have ht : t ∈ nrL rows f := by rw [he2]; simp
          have htr : t ∈ rows := (List.mem_filter.mp ht).1
          have hFl : F.length ≤ 2402 := hkl F hF2.nd fun u hu => by
            obtain ⟨p, _, hp⟩ := hF2.fr u hu
            exact .inr (List.mem_filter.mp hp).1
          simp [b__law_levels_L1, notInE, lget_some, keys_app, -Prod.exists, -List.map_append, -List.map_map, -List.mem_map]
          by_cases hk2 : t ∈ kn.map (·.1) ∨ t ∈ F
          · rw [if_neg (fun z => hk2.elim z.1 z.2)]
            exact hN3 _ ⟨pre2 ++ [t], F, _, by rw [he2]; simp, by rw [← List.append_assoc]; exact hF2.old hk2, rfl⟩
          · rw [if_pos ⟨fun z => hk2 (.inl z), fun z => hk2 (.inr z)⟩]
            have k1 : t ∉ kn.map (·.1) := fun z => hk2 (.inl z)
            have k2 : t ∉ F := fun z => hk2 (.inr z)
            have e2 : lvD (kn ++ (F ++ [t]).map fun t => (t, n + 1)) = lvD (kn ++ F.map fun t => (t, n + 1)) ++ [(staD t, .int (n + 1))] := by simp [lvD]
            have e3 : (F ++ [t]).map staD = F.map staD ++ [staD t] := by simp
            refine ⟨lget_none ?_, by simp [lvD]; omega, by omega, hN3 _ ⟨pre2 ++ [t], F ++ [t], _, by rw [he2]; simp, by rw [← List.append_assoc]; exact hF2.add k1 k2 hf ht, by rw [e2, e3]⟩⟩
            rw [keys_app]
            exact fun z => hk2 (List.mem_append.mp z)
        · rintro ρ ⟨pre2, F, x7, he2, hF2, rfl⟩
          rw [List.append_nil] at he2
          subst he2
          exact hN2 _ ⟨pre ++ [f], F, _, _, by rw [he]; simp, by simpa using hF2, rfl⟩
      · rintro ρ ⟨pre, F, x5, x7, he, hF, rfl⟩
        rw [List.append_nil] at he
        subst he
        have hB' := hB.step hF
        have hin' : ∀ t ∈ (kn ++ F.map fun t => (t, n + 1)).map (·.1), t = s ∨ t ∈ rows := fun t ht => by
          rw [keys_app] at ht
          rcases List.mem_append.mp ht with z | z
          · exact hin t z
          · obtain ⟨p, _, hp⟩ := hF.fr t z
            exact .inr (List.mem_filter.mp hp).1
        have k1 := hkl _ hB'.nd hin'
        simp [-Prod.exists, -List.map_append]
        refine hN _ _ ?_ ⟨_, F, n + 1, _, _, _, hB', hin', rfl, rfl⟩
        simp at k1 ⊢
        omega
  · exact h.elim
/-! ### all good stances -/
section
variable {r : Rk} {b : Bd} {s t : Sta} {n : Nat} {kn : List (Sta × Nat)}
theorem near_goods (hs : InR r s) : nrL (goods r b) s = nexts r b s := asc_eq (List.Pairwise.filter _ (asc_goods r b)) asc_nexts fun t => by
  rw [mem_nexts hs, nrL, List.mem_filter, goods_gd, decide_eq_true_eq, diff_one]
  exact ⟨fun ⟨g, o⟩ => ⟨g.i, g.k, o.symm⟩, fun ⟨i, k, o⟩ => ⟨⟨i, k⟩, o.symm⟩⟩
theorem wk_near1 (hs : Gd r b s) (w : Wk (nrL (goods r b)) n s t) : Wk (nexts r b) n s t ∧ Gd r b t := by
  induction w with
  | nil => exact ⟨.nil _, hs⟩
  | snoc w1 hu ih =>
    obtain ⟨i1, i2⟩ := ih hs
    rw [near_goods i2.i] at hu
    exact ⟨.snoc i1 hu, nexts_gd i2.i hu⟩
theorem wk_near (hs : Gd r b s) : Wk (nrL (goods r b)) n s t ↔ Wk (nexts r b) n s t := by
  refine ⟨fun w => (wk_near1 hs w).1, fun w => ?_⟩
  induction w with
  | nil => exact .nil _
  | snoc w1 hu ih =>
    have := wk_gd w1 hs
    rw [← near_goods this.i] at hu
    exact .snoc (ih hs) hu
theorem dst_near (hs : Gd r b s) : dst (nrL (goods r b)) s t = dst (nexts r b) s t := by
  unfold dst
  congr 1
  exact funext fun n => propext (wk_near hs)
/-- levels of all good stances -/
structure LvG (r : Rk) (b : Bd) (s : Sta) (kn : List (Sta × Nat)) : Prop where
  nd : (kn.map (·.1)).Nodup
  mem : ∀ t n, (t, n) ∈ kn ↔ dst (nexts r b) s t = some n
  len : kn.length ≤ 2402
theorem LvG.key (h : LvG r b s kn) : t ∈ kn.map (·.1) ↔ Rch (nexts r b) s t := by
  constructor
  · intro ht
    obtain ⟨⟨t', n⟩, h1, h2⟩ := List.mem_map.mp ht
    cases h2
    exact ⟨n, (lst_some.mp ((h.mem _ _).mp h1)).1⟩
  · rintro ⟨n, w⟩
    cases e : dst (nexts r b) s t with
    | none => exact absurd w (lst_none.mp e n)
    | some m => exact List.mem_map.mpr ⟨(t, m), (h.mem t m).mpr e, rfl⟩
theorem e_levels {P : D → Prop} {E : Str → Prop} (h7 : r.length ≤ 7) (hs : Gd r b s) (p : ∀ kn, LvG r b s kn → P (.dct (lvD kn))) : g__law_levels [.lst ((goods r b).map staD), staD s] P E := by
  simp only [g__law_levels]
  refine ⟨_, _, rfl, rfl, goods_len h7, fun kn hk _ hl => p kn ⟨hk.nd, fun t n => ?_, hl⟩⟩
  rw [hk.mem, dst_near hs]
theorem srt_keys (hs : InR r s) (h : LvG r b s kn) : srt (kn.map (·.1)) = reachL r b s :=
  ord_eq (srt_pw _) (reachL_pw _ _ _) (srt_nodup h.nd) (reachL_nodup _ _ _) fun t => by rw [srt_mem, mem_reachL hs, h.key]
/-! ### stances that are not good -/
theorem nog_zero (hr : VR r) : goodB r b (.tup [.int 0, .int 0, .int 0, .int 0]) = false := by
  have h1 : roomOk r (0, 0, 0, 0) = false := by
    have hm : mOf r 0 ≤ 2 := by
      have h0 : r[0]? = some (hAt r 0) := hAt_get (by have := hr.one; omega)
      have := hr.hold _ (List.mem_of_getElem? h0)
      exact this.2.2.2.2.2
    simp [roomOk, lst4]
    omega
  simp [goodB, kept, h1]
end
end WH

set_option Elab.async false
set_option linter.all false
set_option maxRecDepth 100000
set_option maxHeartbeats 4000000
namespace WH
open PySem L2
theorem fst_uniq {α β : Type} {l : List (α × β)} (nd : (l.map (·.1)).Nodup) {t : α} {a b : β} (h1 : (t, a) ∈ l) (h2 : (t, b) ∈ l) : a = b := by
  induction l with
  | nil => cases h1
  | cons p l ih =>
    rw [List.map_cons, List.nodup_cons] at nd
    rcases List.mem_cons.mp h1 with e1 | e1 <;> rcases List.mem_cons.mp h2 with e2 | e2
    · rw [← e2] at e1; injection e1
    · exact absurd (List.mem_map.mpr ⟨_, e2, rfl⟩) (by rw [← e1] at nd; exact nd.1)
    · exact absurd (List.mem_map.mpr ⟨_, e1, rfl⟩) (by rw [← e2] at nd; exact nd.1)
    · exact ih nd.2 e1 e2
theorem callV_iff {Ee : Str → Prop} {i : Nat} {L : List (Str × GF)} {ta : DA} {ρ : R} {P : D → Prop} {p : Str × GF} (nd : (L.map (·.1)).Nodup) (hm : p ∈ L) (h : ρ[i]? = some (some (Slot.sh (.fn p.1)))) : dCallV Ee i L ta ρ P ↔ ta ρ fun ds => p.2 ds P Ee := by
  constructor
  · rintro ⟨x, g, e, hx, t⟩
    rw [h] at e
    injection e with e
    injection e with e
    injection e with e
    injection e with e
    subst e
    rw [fst_uniq nd hm hx]
    exact t
  · exact fun t => ⟨p.1, p.2, h, hm, t⟩
theorem neD_errs {l : List Str} (h : ∀ x ∈ l, PyData.strOk x = true) : neD (.lst (l.map fun x => .tup [.str x])) (.lst (l.map fun x => .tup [.str x])) = some false := neD_self (by
    rw [plN_lst, List.all_eq_true]
    intro d hd
    obtain ⟨x, hx, rfl⟩ := List.mem_map.mp hd
    simp [plN, h x hx]) (by
    rw [nB_lst, List.all_eq_true]
    intro d hd
    obtain ⟨x, hx, rfl⟩ := List.mem_map.mp hd
    simp [nB, nBs])
theorem n_rock0 : isRock (.tup []) = false := by decide +kernel
theorem n_rockN : isRock .non = false := by decide +kernel
theorem n_body0 : arB (.tup []) 4 0 20 = false := by decide +kernel
theorem n_bodyN : arB .non 4 0 20 = false := by decide +kernel
section
variable {E : Str → Prop} {r : Rk} {b : Bd}
theorem c_rock0 {K : Rk → Prop} : chkR (.tup []) E K ↔ E "InvalidRock" := chkR_bad rfl n_rock0
theorem c_rockN {K : Rk → Prop} : chkR .non E K ↔ E "InvalidRock" := chkR_bad rfl n_rockN
theorem c_body0 {K : Bd → Prop} : chkB (.tup []) E K ↔ E "InvalidBody" := chkB_bad rfl n_body0
theorem c_bodyN {K : Bd → Prop} : chkB .non E K ↔ E "InvalidBody" := chkB_bad rfl n_bodyN
theorem c_poseN {K : Sta → Prop} : chkS r b .non E K ↔ E "InvalidStance" := chkS_bad rfl rfl
theorem c_pose0 {K : Sta → Prop} (hr : VR r) : chkS r b (.tup [.int 0, .int 0, .int 0, .int 0]) E K ↔ E "InvalidStance" := chkS_bad rfl (nog_zero hr)
end
theorem neP {l m : List Sta} : neD (.tup (l.map staD)) (.tup (m.map staD)) = some (!decide (l = m)) := neD_of (pl_pD l) (pl_pD m) (nB_pD l) (nB_pD m) pD_inj
theorem lvD_fst (kn : List (Sta × Nat)) : (lvD kn).map (·.1) = (kn.map (·.1)).map staD := by simp [lvD]
theorem inE_stas {s : Sta} {l : List Sta} : inE (staD s) (.lst (l.map staD)) = some (decide (s ∈ l)) := in_stasL
theorem notInE_stas {s : Sta} {l : List Sta} : notInE (staD s) (.lst (l.map staD)) = some (!decide (s ∈ l)) := by rw [notInE, inE_stas]; rfl
theorem notInE_stasT {s : Sta} {l : List Sta} : notInE (staD s) (.tup (l.map staD)) = some (!decide (s ∈ l)) := by rw [notInE, show inE (staD s) (.tup (l.map staD)) = inDD (staD s) (.tup (l.map staD)) from rfl, in_stasT]; rfl
theorem inE_two {s : Sta} {j : Nat} : inE (.int j) (.tup [.int s.1, .int s.2.1]) = some (tops s j) := in_two
theorem slS2 {s : Sta} : slD (staD s) none (some 2) = some (.tup [.int s.1, .int s.2.1]) := rfl
theorem neL {l m : List Sta} : neD (.lst (l.map staD)) (.lst (m.map staD)) = some (!decide (l = m)) := neD_of (by rw [plN_lst, List.all_eq_true]; intro d hd; obtain ⟨s, _, rfl⟩ := List.mem_map.mp hd; exact pl_sta s) (by rw [plN_lst, List.all_eq_true]; intro d hd; obtain ⟨s, _, rfl⟩ := List.mem_map.mp hd; exact pl_sta s) (by rw [nB_lst, List.all_eq_true]; intro d hd; obtain ⟨s, _, rfl⟩ := List.mem_map.mp hd; exact nB_sta s) (by rw [nB_lst, List.all_eq_true]; intro d hd; obtain ⟨s, _, rfl⟩ := List.mem_map.mp hd; exact nB_sta s) (by
    rw [D.lst.injEq]
    exact List.map_inj_right fun a b h => staD_inj.mp h)
theorem itE_lv (kn : List (Sta × Nat)) : itemsE (.dct (lvD kn)) = some ((kn.map (·.1)).map staD) := by rw [← lvD_fst]; rfl
theorem goods_same {r : Rk} {b c : Bd} (h : goods r b = goods r c) : Same r b c := fun s hs => by
  have h1 : s ∈ goods r b ↔ s ∈ goods r c := by rw [h]
  rw [mem_goods, mem_goods] at h1
  cases e1 : kept r b s <;> cases e2 : kept r c s <;> simp [hs, e1, e2] at h1 ⊢
/-- if rows != []: .. -/
theorem if_rows {i : Nat} {A B : DS} {E : DEnds} {ρ : R} {d : D} {p : Prop} [Decidable p] (he : neD d (.lst []) = some (!decide p)) (hB : p → B E ρ) (hA : ¬ p → A E ρ) (h : ρ[i]? = some (some (.sh d)) := by rfl) : dIfS (dCmp neD (dVar i) (dLst dNil)) A B E ρ := by
  refine ⟨d, by simp only [getS, h], by simp, _, he, ?_⟩
  by_cases hp : p
  · simp only [hp, decide_true, Bool.not_true, Bool.false_eq_true, if_false]; exact hB hp
  · simp only [hp, decide_false, Bool.not_false, if_true]; exact hA hp
theorem sqc2 {a0 a1 rest : DS} {E : DEnds} {ρ : R} (h : ∀ K : R → Prop, K = rest E → (dSeq a0 (dSeq a1 (dK K))) E ρ) : (dSeq a0 (dSeq a1 (rest))) E ρ := seq_cut [a0, a1] rest h
theorem sqc3 {a0 a1 a2 rest : DS} {E : DEnds} {ρ : R} (h : ∀ K : R → Prop, K = rest E → (dSeq a0 (dSeq a1 (dSeq a2 (dK K)))) E ρ) : (dSeq a0 (dSeq a1 (dSeq a2 (rest)))) E ρ := seq_cut [a0, a1, a2] rest h
theorem sqc4 {a0 a1 a2 a3 rest : DS} {E : DEnds} {ρ : R} (h : ∀ K : R → Prop, K = rest E → (dSeq a0 (dSeq a1 (dSeq a2 (dSeq a3 (dK K))))) E ρ) : (dSeq a0 (dSeq a1 (dSeq a2 (dSeq a3 (rest))))) E ρ := seq_cut [a0, a1, a2, a3] rest h
theorem sqc5 {a0 a1 a2 a3 a4 rest : DS} {E : DEnds} {ρ : R} (h : ∀ K : R → Prop, K = rest E → (dSeq a0 (dSeq a1 (dSeq a2 (dSeq a3 (dSeq a4 (dK K)))))) E ρ) : (dSeq a0 (dSeq a1 (dSeq a2 (dSeq a3 (dSeq a4 (rest)))))) E ρ := seq_cut [a0, a1, a2, a3, a4] rest h
theorem sqc6 {a0 a1 a2 a3 a4 a5 rest : DS} {E : DEnds} {ρ : R} (h : ∀ K : R → Prop, K = rest E → (dSeq a0 (dSeq a1 (dSeq a2 (dSeq a3 (dSeq a4 (dSeq a5 (dK K))))))) E ρ) : (dSeq a0 (dSeq a1 (dSeq a2 (dSeq a3 (dSeq a4 (dSeq a5 (rest))))))) E ρ := seq_cut [a0, a1, a2, a3, a4, a5] rest h
theorem sqc7 {a0 a1 a2 a3 a4 a5 a6 rest : DS} {E : DEnds} {ρ : R} (h : ∀ K : R → Prop, K = rest E → (dSeq a0 (dSeq a1 (dSeq a2 (dSeq a3 (dSeq a4 (dSeq a5 (dSeq a6 (dK K)))))))) E ρ) : (dSeq a0 (dSeq a1 (dSeq a2 (dSeq a3 (dSeq a4 (dSeq a5 (dSeq a6 (rest)))))))) E ρ := seq_cut [a0, a1, a2, a3, a4, a5, a6] rest h
theorem sqc8 {a0 a1 a2 a3 a4 a5 a6 a7 rest : DS} {E : DEnds} {ρ : R} (h : ∀ K : R → Prop, K = rest E → (dSeq a0 (dSeq a1 (dSeq a2 (dSeq a3 (dSeq a4 (dSeq a5 (dSeq a6 (dSeq a7 (dK K))))))))) E ρ) : (dSeq a0 (dSeq a1 (dSeq a2 (dSeq a3 (dSeq a4 (dSeq a5 (dSeq a6 (dSeq a7 (rest))))))))) E ρ := seq_cut [a0, a1, a2, a3, a4, a5, a6, a7] rest h
theorem sqc9 {a0 a1 a2 a3 a4 a5 a6 a7 a8 rest : DS} {E : DEnds} {ρ : R} (h : ∀ K : R → Prop, K = rest E → (dSeq a0 (dSeq a1 (dSeq a2 (dSeq a3 (dSeq a4 (dSeq a5 (dSeq a6 (dSeq a7 (dSeq a8 (dK K)))))))))) E ρ) : (dSeq a0 (dSeq a1 (dSeq a2 (dSeq a3 (dSeq a4 (dSeq a5 (dSeq a6 (dSeq a7 (dSeq a8 (rest)))))))))) E ρ := seq_cut [a0, a1, a2, a3, a4, a5, a6, a7, a8] rest h
theorem sqc10 {a0 a1 a2 a3 a4 a5 a6 a7 a8 a9 rest : DS} {E : DEnds} {ρ : R} (h : ∀ K : R → Prop, K = rest E → (dSeq a0 (dSeq a1 (dSeq a2 (dSeq a3 (dSeq a4 (dSeq a5 (dSeq a6 (dSeq a7 (dSeq a8 (dSeq a9 (dK K))))))))))) E ρ) : (dSeq a0 (dSeq a1 (dSeq a2 (dSeq a3 (dSeq a4 (dSeq a5 (dSeq a6 (dSeq a7 (dSeq a8 (dSeq a9 (rest))))))))))) E ρ := seq_cut [a0, a1, a2, a3, a4, a5, a6, a7, a8, a9] rest h
theorem sqc11 {a0 a1 a2 a3 a4 a5 a6 a7 a8 a9 a10 rest : DS} {E : DEnds} {ρ : R} (h : ∀ K : R → Prop, K = rest E → (dSeq a0 (dSeq a1 (dSeq a2 (dSeq a3 (dSeq a4 (dSeq a5 (dSeq a6 (dSeq a7 (dSeq a8 (dSeq a9 (dSeq a10 (dK K)))))))))))) E ρ) : (dSeq a0 (dSeq a1 (dSeq a2 (dSeq a3 (dSeq a4 (dSeq a5 (dSeq a6 (dSeq a7 (dSeq a8 (dSeq a9 (dSeq a10 (rest)))))))))))) E ρ := seq_cut [a0, a1, a2, a3, a4, a5, a6, a7, a8, a9, a10] rest h
theorem sqc12 {a0 a1 a2 a3 a4 a5 a6 a7 a8 a9 a10 a11 rest : DS} {E : DEnds} {ρ : R} (h : ∀ K : R → Prop, K = rest E → (dSeq a0 (dSeq a1 (dSeq a2 (dSeq a3 (dSeq a4 (dSeq a5 (dSeq a6 (dSeq a7 (dSeq a8 (dSeq a9 (dSeq a10 (dSeq a11 (dK K))))))))))))) E ρ) : (dSeq a0 (dSeq a1 (dSeq a2 (dSeq a3 (dSeq a4 (dSeq a5 (dSeq a6 (dSeq a7 (dSeq a8 (dSeq a9 (dSeq a10 (dSeq a11 (rest))))))))))))) E ρ := seq_cut [a0, a1, a2, a3, a4, a5, a6, a7, a8, a9, a10, a11] rest h
end WH

set_option Elab.async false
set_option linter.all false
set_option maxRecDepth 100000
set_option maxHeartbeats 4000000
namespace WH
open PySem L2
section
variable {r : Rk} {b : Bd} {s t : Sta} {j : Nat} {kn : List (Sta × Nat)}
theorem setOk_sta (l : List Sta) : setOk (l.map staD) = true := by
  unfold setOk
  rw [sortOk_sta]
  simp only [Bool.true_and, Bool.and_eq_true, List.all_eq_true]
  constructor <;> intro d hd <;> obtain ⟨s, _, rfl⟩ := List.mem_map.mp hd <;> rfl
noncomputable instance decAsc (l : List Sta) : Decidable (Asc l) := Classical.propDecidable _
/-- list(l) == sorted(set(l)) if and only if l ascends -/
theorem asc_set {l : List Sta} {es : List D} (nd : es.Nodup) (hm : ∀ x, x ∈ es ↔ x ∈ l.map staD) : neD (.lst (l.map staD)) (.lst (sortL es)) = some (!decide (Asc l)) := by
  obtain ⟨m, rfl, hs⟩ := sub_pre (f := staD) (xs := l) es fun y hy => (hm y).mp hy
  have ndm : m.Nodup := List.Pairwise.of_map staD (fun _ _ hne e => hne (congrArg staD e)) nd
  have mem : ∀ x, x ∈ m ↔ x ∈ l := fun x => ⟨hs x, fun hx => by
    obtain ⟨y, hy, e⟩ := List.mem_map.mp ((hm (staD x)).mpr (List.mem_map.mpr ⟨x, hx, rfl⟩))
    rw [staD_inj] at e
    exact e ▸ hy⟩
  rw [sortL_sta, neL]
  congr 2
  refine decide_eq_decide.mpr ⟨fun e => ?_, fun h => ?_⟩
  · rw [e]; exact asc_srt ndm
  · exact asc_eq h (asc_srt ndm) fun x => by rw [srt_mem, mem]
end
def g__law_barrier : GF
  | [rv, sv, jv, v], P, _ => ∃ (r : Rk) (b : Bd) (s : Sta) (j : Nat) (l : List Sta), rv = .lst ((goods r b).map staD) ∧ sv = staD s ∧ jv = .int j ∧ v = pD l ∧ r.length ≤ 7 ∧ (∀ x ∈ l, Gd r b x) ∧ l.length ≤ 1200 ∧ ∀ bb : Bool, (bb = true ↔ Bar r b s j l) → P (.bl bb)
  | _, _, _ => False
/-! _law_barrier(rows, begin, top_here, value_here): 0 rows, 1 begin, 2 top_here, 3 value_here, 4 row, 5 there -/
def N__law_barrier : List Str := ["rows", "begin", "top_here", "value_here", "row", "there"]
def b__law_barrier_L1 : DS := (dIfS (dCmp neD (dLc (diSeq (dCall g__law_near (dCons (dVar 0) (dCons (dVar 4) dNil)))) (.nm 5) (dCmp notInDD (dVar 5) (dVar 3)) (dVar 5) [5]) (dLst dNil)) (dRet (dC (.bl false))) dNext)
def b__law_barrier : DS := (dSeq (dIfS (dCmp notInDD (dVar 1) (dVar 3)) (dRet (dC (.bl false))) dNext)
      (dSeq (dIfS (dCmp neD (dCB listD (dCons (dVar 3) dNil)) (dSortSet (dVar 3))) (dRet (dC (.bl false))) dNext)
      (dSeq (dIfS (dCmp neD (dLc (diSeq (dVar 3)) (.nm 4) (dCmp inDD (dVar 2) (dSl slD (dVar 4) dNo (dSome (dC (.int 2))))) (dVar 4) [4]) (dLst dNil)) (dRet (dC (.bl false))) dNext)
      (dSeq (dFor (diSeq (dVar 3)) (.nm 4) b__law_barrier_L1)
      (dRet (dC (.bl true)))))))
theorem len__law_barrier : ∀ ds P E, g__law_barrier ds P E → ds.length = 4 := fun ds P E h => by
  unfold g__law_barrier at h
  split at h <;> first | rfl | exact h.elim
theorem t__law_barrier (ds : List D) (P : D → Prop) (h : g__law_barrier ds P fun _ => False) : b__law_barrier { nx := fun _ => P .non, rt := P } (startD N__law_barrier ds) := by
  unfold g__law_barrier at h
  split at h
  · obtain ⟨r, b, s, j, l, rfl, rfl, rfl, rfl, h7, hg, hl, q⟩ := h
    have hgl := goods_len (b := b) h7
    have no : (¬ Bar r b s j l) → _ := fun h => q false ⟨fun z => (by cases z), fun z => absurd z h⟩
    have e1 : notInDD (staD s) (pD l) = some (!decide (s ∈ l)) := notin_stasT
    have e2 : listD [pD l] = some (.lst (l.map staD)) := rfl
    have e3 : itemsOf (pD l) = some (l.map staD) := rfl
    simp only [b__law_barrier, startD, N__law_barrier]
    refine seq_name1 fun K1 hK1 => ?_
    simp [e1, -Prod.exists, -Prod.forall]
    by_cases c1 : s ∈ l
    · rw [if_pos c1, hK1]
      refine seq_name1 fun K2 hK2 => ?_
      simp [e2, show seqE (pD l) = some (l.map staD) from rfl, setOk_sta, -Prod.exists, -Prod.forall, -List.mem_map]
      refine ⟨hl, fun es nd hm => ?_⟩
      rw [asc_set nd hm]
      simp [-Prod.exists, -Prod.forall]
      by_cases c2 : Asc l
      · rw [if_pos c2, hK2]
        refine seq_name1 fun K3 hK3 => ?_
        simp [e3, -Prod.exists, -Prod.forall]
        refine lc_run (e := staD) (f := staD) (p := fun x => tops x j) l [] (by simp; omega) (fun x hx K1 K0 h1 => ?_) ?_
        · simp [wipeR, slS2, in_two]
          exact h1
        simp only [List.nil_append, neD_stas, z_oPs]
        by_cases c3 : l.filter (fun x => tops x j) = []
        · have ht : ∀ x ∈ l, tops x j = false := fun x hx => by simpa using List.filter_eq_nil_iff.mp c3 x hx
          simp only [c3, decide_true, Bool.not_true, Bool.false_eq_true, if_false]
          rw [hK3]
          simp [e3, -Prod.exists, -Prod.forall, -z_for1]
          refine for_check (e := staD) (fun ρ => ∃ x4, ρ = [some (.sh (.lst ((goods r b).map staD))), some (.sh (staD s)), some (.sh (.int j)), some (.sh (pD l)), x4, none]) (fun x => decide (∀ y ∈ nexts r b x, y ∈ l)) l ?_ ?_ ?_ _ ⟨none, rfl⟩
          · rintro x hx ρ N ⟨x4, rfl⟩ hN
            have gx := hg x hx
            simp [b__law_barrier_L1, e_near hgl, near_goods gx.i]
            have hnl := nexts_len (b := b) h7 gx.i
            refine lc_run (e := staD) (f := staD) (p := fun y => !decide (y ∈ l)) (nexts r b x) [] (by simp; omega) (fun y hy K1 K0 h1 => ?_) ?_
            · have e4 : notInDD (staD y) (pD l) = some (!decide (y ∈ l)) := notin_stasT
              simp [wipeR, e4]
              simpa using h1
            simp only [List.nil_append, neD_stas, z_oPs]
            by_cases hc : ∀ y ∈ nexts r b x, y ∈ l
            · have e5 : (nexts r b x).filter (fun y => !decide (y ∈ l)) = [] := List.filter_eq_nil_iff.mpr fun y hy => by simp [hc y hy]
              rw [if_pos (decide_eq_true hc)] at hN
              simp [e5]
              exact hN _ ⟨_, rfl⟩
            · have e5 : ¬ (nexts r b x).filter (fun y => !decide (y ∈ l)) = [] := fun z => hc fun y hy => by simpa using List.filter_eq_nil_iff.mp z y hy
              rw [if_neg (by simpa using hc)] at hN
              simp only [e5, decide_false, Bool.not_false, if_true]
              simpa using hN
          · rintro hok ρ ⟨x4, rfl⟩
            simp
            exact q true ⟨fun _ => ⟨hg, c2, c1, ht, fun x hx => by simpa using List.all_eq_true.mp hok x hx⟩, fun _ => rfl⟩
          · intro hok
            refine no fun z => ?_
            rw [List.all_eq_false] at hok
            obtain ⟨p, hp, hp2⟩ := hok
            exact hp2 (by simpa using z.cl p hp)
        · simp only [c3, decide_false, Bool.not_false, if_true]
          exact no fun z => c3 (List.filter_eq_nil_iff.mpr fun x hx => by simp [z.top x hx])
      · rw [if_neg c2]
        exact no fun z => c2 z.asc
    · rw [if_neg c1]
      exact no fun z => c1 z.s
  · exact h.elim
theorem e_lbar {r : Rk} {b : Bd} {s : Sta} {j : Nat} {l : List Sta} {P : D → Prop} {E : Str → Prop} (h7 : r.length ≤ 7) (hg : ∀ x ∈ l, Gd r b x) (hl : l.length ≤ 1200) (p : ∀ bb : Bool, (bb = true ↔ Bar r b s j l) → P (.bl bb)) : g__law_barrier [.lst ((goods r b).map staD), staD s, .int j, pD l] P E := by
  simp only [g__law_barrier]
  exact ⟨r, b, s, j, l, rfl, rfl, rfl, rfl, h7, hg, hl, p⟩
section
variable {r : Rk} {b : Bd} {s t : Sta} {j n : Nat}
theorem pD_no2 {l : List Sta} : ¬ D.tup [staD s, .non] = pD l := fun e => by
  have : D.non ∈ l.map staD := by
    have := D.tup.inj e
    rw [← this]; simp
  obtain ⟨x, _, hx⟩ := List.mem_map.mp this
  cases hx
theorem pD_no3 {l : List Sta} {x y z : D} : ¬ D.tup [.tup [x, y, z]] = pD l := fun e => by
  have : D.tup [x, y, z] ∈ l.map staD := by
    have := D.tup.inj e
    rw [← this]; simp
  obtain ⟨x, _, hx⟩ := List.mem_map.mp this
  simp [staD] at hx
theorem len_all5 (hr : r.length ≤ 5) {l : List Sta} (hn : l.Nodup) (hi : ∀ s ∈ l, InR r s) : l.length ≤ 625 := by
  have h1 : l.length ≤ (allSta r.length).length := nodup_len hn fun s hs => mem_allSta.mpr (hi s hs)
  have h0 : ((allSta r.length).map lst4).length = (rowsK r.length 4).length := by rw [rowsK_all]
  rw [List.length_map, rowsK_len] at h0
  have h2 : r.length ^ 4 ≤ 5 ^ 4 := Nat.pow_le_pow_left hr 4
  omega
theorem cut_last {α : Type} (l : List α) : (cutL l (some (-1)) none).length ≤ 1 := by
  unfold cutL
  rw [List.length_take, List.length_drop]
  have : l.length ≤ HT.sIx l.length 0 (some (-1)) + 1 := by
    unfold HT.sIx
    simp
    omega
  omega
theorem ltS_zero : ltS s (0, 0, 0, 0) = false := by
  obtain ⟨a, b, c, d⟩ := s
  simp only [ltS, lI]
  refine decide_eq_false fun h => ?_
  simp only [List.cons_lt_cons_iff, List.not_lt_nil, or_false, and_false] at h
  omega
theorem no_app {l : List Sta} (hs : s ∈ l) : ¬ Asc (l ++ [(0, 0, 0, 0)]) := fun h => by
  have := (List.pairwise_append.mp h).2.2 s hs (0, 0, 0, 0) (by simp)
  rw [ltS_zero] at this
  cases this
theorem tops_no (gs : Gd r b s) : ((reachL r b s).filter fun t => tops t j) = [] ↔ dTop r b s j = none := by
  rw [List.filter_eq_nil_iff, dTop_none]
  exact ⟨fun h t ht => by simpa using h t ((mem_reachL gs.i).mpr ht), fun h t ht => by simp [h t ((mem_reachL gs.i).mp ht)]⟩
end
def g__law_judged : GF
  | [rv, bv, lv, sv, jv], P, _ => ∃ (r : Rk) (b : Bd) (s : Sta) (j : Nat), rv = rockD r ∧ bv = bodyD b ∧ lv = .lst ((goods r b).map staD) ∧ sv = staD s ∧ jv = .int j ∧ VR r ∧ r.length ≤ 5 ∧ VB b ∧ Gd r b s ∧ j < r.length ∧ P (.bl true)
  | _, _, _ => False
/-! _law_judged(rock_here, body_here, rows, start_here, top_here): 0 rock_here, 1 body_here, 2 rows, 3 start_here, 4 top_here, 5 known, 6 due, 7 row, 8 free, 9 some, 10 value_here, 11 good, 12 odd -/
def N__law_judged : List Str := ["rock_here", "body_here", "rows", "start_here", "top_here", "known", "due", "row", "free", "some", "value_here", "good", "odd"]
def b__law_judged_L1 : DS := (dSeq (dSet 11 (dCall g__law_barrier (dCons (dVar 2) (dCons (dVar 3) (dCons (dVar 4) (dCons (dVar 10) dNil))))))
      (dIfS (dNot (dTest (dCall g__law_is (dCons (dCallK g_is_barrier 4 (dCons (dVar 0) (dCons (dVar 1) (dCons (dVar 3) (dCons (dVar 4) dNil)))) (dCons (dVar 10) dNil)) (dCons (dVar 11) dNil))))) (dRet (dC (.bl false))) dNext))
def b__law_judged_L2 : DS := (dIfS (dNot (dTest (dCall g__law_is (dCons (dCall g_is_barrier (dCons (dVar 0) (dCons (dVar 1) (dCons (dVar 3) (dCons (dVar 4) (dCons (dVar 12) dNil)))))) (dCons (dC (.bl false)) dNil))))) (dRet (dC (.bl false))) dNext)
def b__law_judged : DS := (dSeq (dSet 5 (dSorted (dCall g__law_levels (dCons (dVar 2) (dCons (dVar 3) dNil)))))
      (dSeq (dSet 6 (dIf (dCmp eqD (dLc (diSeqE (dVar 5)) (.nm 7) (dCmp inE (dVar 4) (dSl slD (dVar 7) dNo (dSome (dC (.int 2))))) (dVar 7) [7]) (dLst dNil)) (dCB tupleD (dCons (dVar 5) dNil)) (dC .non)))
      (dSeq (dIfS (dCmp neD (dCall g_barrier (dCons (dVar 0) (dCons (dVar 1) (dCons (dVar 3) (dCons (dVar 4) dNil))))) (dVar 6)) (dRet (dC (.bl false))) dNext)
      (dSeq (dSet 8 (dCB tupleD (dCons (dLc (diSeqE (dVar 2)) (.nm 7) (dCmp notInE (dVar 4) (dSl slD (dVar 7) dNo (dSome (dC (.int 2))))) (dVar 7) [7]) dNil)))
      (dSeq (dSet 9 (dCB tupleD (dCons (dVar 5) dNil)))
      (dSeq (dFor (diSeqE (dTup (dCons (dVar 9) (dCons (dVar 8) (dCons (dSl slD (dVar 9) (dSome (dC (.int 1))) dNo) (dCons (dRevT (dVar 9)) (dCons (dBin addD (dVar 9) (dSl slD (dVar 9) (dSome (dUn negD (dC (.int 1)))) dNo)) (dCons (dTup (dCons (dVar 3) dNil)) (dCons (dTup dNil) dNil))))))))) (.nm 10) b__law_judged_L1)
      (dSeq (dFor (diSeqE (dTup (dCons (dC .non) (dCons (dCB listD (dCons (dVar 9) dNil)) (dCons (dTup (dCons (dVar 3) (dCons (dC .non) dNil))) (dCons (dTup (dCons (dSl slD (dVar 3) dNo (dSome (dC (.int 3)))) dNil)) (dCons (dBin addD (dVar 9) (dTup (dCons (dBin mulD (dTup (dCons (dC (.int 0)) dNil)) (dC (.int 4))) dNil))) (dCons (dC (.int 0)) dNil)))))))) (.nm 12) b__law_judged_L2)
      (dRet (dC (.bl true))))))))))
theorem len__law_judged : ∀ ds P E, g__law_judged ds P E → ds.length = 5 := fun ds P E h => by
  unfold g__law_judged at h
  split at h <;> first | rfl | exact h.elim
theorem t__law_judged (ds : List D) (P : D → Prop) (h : g__law_judged ds P fun _ => False) : b__law_judged { nx := fun _ => P .non, rt := P } (startD N__law_judged ds) := by
  unfold g__law_judged at h
  split at h
  · obtain ⟨r, b, s, j, rfl, rfl, rfl, rfl, rfl, hr, h5, hb, gs, hj, q⟩ := h
    have h7 := hr.seven
    have hgR : ∀ x ∈ reachL r b s, Gd r b x := fun x hx => rch_gd ((mem_reachL gs.i).mp hx) gs
    have hRl : (reachL r b s).length ≤ 625 := len_all5 h5 (reachL_nodup r b s) fun x hx => (hgR x hx).i
    have hsR : s ∈ reachL r b s := (mem_reachL gs.i).mpr (.refl _)
    have hGl : (goods r b).length ≤ 625 := len_all5 h5 (asc_iff.mp (asc_goods r b)).2 fun x hx => (goods_gd.mp hx).i
    simp only [b__law_judged, startD, N__law_judged]
    refine seq_name1 fun K1 hK1 => ?_
    simp [-Prod.exists, -Prod.forall]
    refine e_levels h7 gs fun kn hB => ?_
    have hlen := hB.len
    simp only [itemsE, lvD_fst]
    refine ⟨_, rfl, sortOk_sta _, by simp; omega, ?_⟩
    rw [sortL_sta, srt_keys gs.i hB, hK1]
    have eP : listD [pD (reachL r b s)] = some (.lst ((reachL r b s).map staD)) := rfl
    refine seq_name1 fun K2 hK2 => ?_
    have tl : ∀ v6, ((dTop r b s j = none ∧ v6 = pD (reachL r b s)) ∨ (dTop r b s j ≠ none ∧ v6 = .non)) → K2 [some (.sh (rockD r)), some (.sh (bodyD b)), some (.sh (.lst ((goods r b).map staD))), some (.sh (staD s)), some (.sh (.int j)), some (.sh (.lst ((reachL r b s).map staD))), some (.sh v6), none, none, none, none, none, none] := by
      intro v6 hv
      rw [hK2]
      refine seq_name1 fun K3 hK3 => ?_
      have hne : neD v6 v6 = some false := by
        rcases hv with ⟨_, rfl⟩ | ⟨_, rfl⟩
        · exact neD_self (pl_pD _) (nB_pD _)
        · exact neD_self rfl rfl
      have s3 : K3 [some (.sh (rockD r)), some (.sh (bodyD b)), some (.sh (.lst ((goods r b).map staD))), some (.sh (staD s)), some (.sh (.int j)), some (.sh (.lst ((reachL r b s).map staD))), some (.sh v6), none, none, none, none, none, none] := by
        rw [hK3]
        refine seq_name1 fun K4 hK4 => ?_
        simp [-Prod.exists, -Prod.forall]
        refine lc_run (e := staD) (f := staD) (p := fun x => !tops x j) (goods r b) [] (by simp; omega) (fun x hx K1 K0 h1 => ?_) ?_
        · have e4 : notInE (.int j) (.tup [.int x.1, .int x.2.1]) = some (!tops x j) := by rw [notInE, inE_two]; rfl
          simp [wipeR, slS2, e4]
          simpa using h1
        rw [List.nil_append, hK4]
        refine seq_name1 fun K5 hK5 => ?_
        simp [-Prod.exists, -Prod.forall]
        rw [hK5]
        refine seq_name1 fun K6 hK6 => ?_
        rw [show D.tup ((reachL r b s).map staD) = pD (reachL r b s) from rfl, show D.tup (((goods r b).filter fun x => !tops x j).map staD) = pD ((goods r b).filter fun x => !tops x j) from rfl]
        have c1 : ∀ x y, slD (pD (reachL r b s)) x y = some (pD (cutL (reachL r b s) x y)) := fun x y => by simp [pD, cutL_map]
        have c3 : ∀ x y, (cutL (reachL r b s) x y).length ≤ (reachL r b s).length := fun x y => by
          unfold cutL
          rw [List.length_take, List.length_drop]
          omega
        have c4 : ∀ x y, addD (pD (reachL r b s)) (pD (cutL (reachL r b s) x y)) = some (pD (reachL r b s ++ cutL (reachL r b s) x y)) := fun x y => by
          have := c3 x y
          rw [pD, pD, add_TT (by simp only [List.length_map]; omega), pD, List.map_append]
        simp [c1, c4, -Prod.exists, -Prod.forall, -z_for1]
        refine ⟨_, rfl, ?_⟩
        have fin : ∀ x10 x11, K6 [some (.sh (rockD r)), some (.sh (bodyD b)), some (.sh (.lst ((goods r b).map staD))), some (.sh (staD s)), some (.sh (.int j)), some (.sh (.lst ((reachL r b s).map staD))), some (.sh v6), none, some (.sh (pD ((goods r b).filter fun x => !tops x j))), some (.sh (pD (reachL r b s))), x10, x11, none] := by
          intro x10 x11
          rw [hK6]
          have d2 : slD (staD s) none (some 3) = some (.tup [.int s.1, .int s.2.1, .int s.2.2.1]) := rfl
          have d3 : mulD (.tup [.int 0]) (.int 4) = some (staD (0, 0, 0, 0)) := rfl
          have d4 : addD (pD (reachL r b s)) (.tup [staD (0, 0, 0, 0)]) = some (pD (reachL r b s ++ [(0, 0, 0, 0)])) := by
            rw [pD, add_TT (by simp only [List.length_map, List.length_cons, List.length_nil]; omega), pD, List.map_append]; rfl
          simp [eP, d2, d3, d4, -Prod.exists, -Prod.forall, -z_for1]
          refine for_ind (e := id) (fun l ρ => (∀ v ∈ l, plN 6 v = true ∧ (∀ ds, v = .tup ds → ds.length ≤ 50000) ∧ ¬ IsB r b s j v) ∧ ∃ x12, ρ = [some (.sh (rockD r)), some (.sh (bodyD b)), some (.sh (.lst ((goods r b).map staD))), some (.sh (staD s)), some (.sh (.int j)), some (.sh (.lst ((reachL r b s).map staD))), some (.sh v6), none, some (.sh (pD ((goods r b).filter fun x => !tops x j))), some (.sh (pD (reachL r b s))), x10, x11, x12]) ?_ ?_ [.non, .lst ((reachL r b s).map staD), .tup [staD s, .non], .tup [.tup [.int s.1, .int s.2.1, .int s.2.2.1]], pD (reachL r b s ++ [(0, 0, 0, 0)]), .int 0] _ ⟨?_, none, rfl⟩
          · rintro v l2 ρ N ⟨hl2, x12, rfl⟩ hN
            obtain ⟨v1, v2, v3⟩ := hl2 v (by simp)
            simp [b__law_judged_L2]
            rw [e_isbar hr hb gs hj]
            refine ⟨v1, v2, fun bb hbb => ?_⟩
            have : bb = false := by
              cases bb with
              | false => rfl
              | true => exact absurd (hbb.mp rfl) v3
            subst this
            simp
            exact hN _ ⟨fun v hv => hl2 v (by simp [hv]), _, rfl⟩
          · rintro ρ ⟨_, x12, rfl⟩
            simp
            exact q
          · intro v hv
            simp only [List.mem_cons, List.not_mem_nil, or_false] at hv
            rcases hv with rfl | rfl | rfl | rfl | rfl | rfl
            · exact ⟨rfl, fun ds e => (by cases e), fun ⟨l, e, _⟩ => (by cases e)⟩
            · exact ⟨by rw [plN_lst, List.all_eq_true]; intro d hd; obtain ⟨x, _, rfl⟩ := List.mem_map.mp hd; exact pl_sta x, fun ds e => (by cases e), fun ⟨l, e, _⟩ => (by cases e)⟩
            · exact ⟨rfl, fun ds e => (by cases e; simp), fun ⟨l, e, _⟩ => pD_no2 e⟩
            · exact ⟨rfl, fun ds e => (by cases e; simp), fun ⟨l, e, _⟩ => pD_no3 e⟩
            · refine ⟨pl_pD _, fun ds e => ?_, fun ⟨l, e, hb⟩ => ?_⟩
              · rw [pD, D.tup.injEq] at e
                rw [← e]
                simp
                omega
              · rw [pD_inj] at e
                subst e
                exact no_app hsR hb.asc
            · exact ⟨rfl, fun ds e => (by cases e), fun ⟨l, e, _⟩ => (by cases e)⟩
        rw [← List.map_reverse]
        refine for_ind (e := pD) (fun l ρ => (∀ v ∈ l, v.length ≤ 1200 ∧ ∀ x ∈ v, Gd r b x) ∧ ∃ x10 x11, ρ = [some (.sh (rockD r)), some (.sh (bodyD b)), some (.sh (.lst ((goods r b).map staD))), some (.sh (staD s)), some (.sh (.int j)), some (.sh (.lst ((reachL r b s).map staD))), some (.sh v6), none, some (.sh (pD ((goods r b).filter fun x => !tops x j))), some (.sh (pD (reachL r b s))), x10, x11, none]) ?_ ?_ [reachL r b s, (goods r b).filter fun x => !tops x j, cutL (reachL r b s) (some 1) none, (reachL r b s).reverse, reachL r b s ++ cutL (reachL r b s) (some (-1)) none, [s], []] _ ⟨?_, none, none, rfl⟩
        · rintro v l2 ρ N ⟨hl2, x10, x11, rfl⟩ hN
          obtain ⟨v1, v2⟩ := hl2 v (by simp)
          simp [b__law_judged_L1]
          refine e_lbar h7 v2 v1 fun b1 hb1 => ?_
          refine e_isbarL hr hb gs hj (by omega) fun b2 hb2 => ?_
          have : b2 = b1 := by rw [Bool.eq_iff_iff, hb1, hb2]
          subst this
          simp
          exact hN _ ⟨fun v hv => hl2 v (by simp [hv]), _, _, rfl⟩
        · rintro ρ ⟨_, x10, x11, rfl⟩
          exact fin _ _
        · have q2 := c3 (some 1) none
          have q3 : (cutL (reachL r b s) (some (-1)) none).length ≤ 1 := cut_last _
          have hfl := List.length_filter_le (fun x => !tops x j) (goods r b)
          intro v hv
          simp only [List.mem_cons, List.not_mem_nil, or_false] at hv
          rcases hv with rfl | rfl | rfl | rfl | rfl | rfl | rfl
          · exact ⟨by omega, hgR⟩
          · exact ⟨by omega, fun x hx => goods_gd.mp (List.mem_filter.mp hx).1⟩
          · exact ⟨by omega, fun x hx => hgR x (mem_cutL hx)⟩
          · exact ⟨by rw [List.length_reverse]; omega, fun x hx => hgR x (List.mem_reverse.mp hx)⟩
          · refine ⟨by rw [List.length_append]; omega, fun x hx => ?_⟩
            rcases List.mem_append.mp hx with hx | hx
            · exact hgR x hx
            · exact hgR x (mem_cutL hx)
          · exact ⟨by simp, fun x hx => by rw [List.mem_singleton.mp hx]; exact gs⟩
          · exact ⟨by simp, fun x hx => by cases hx⟩
      simp [-Prod.exists, -Prod.forall]
      rw [e_bar hr hb gs hj]
      rcases hv with ⟨hd, rfl⟩ | ⟨hd, rfl⟩
      · refine ⟨fun _ => ?_, fun h => absurd hd h⟩
        simp [hne]
        exact s3
      · refine ⟨fun h => absurd h hd, fun _ => ?_⟩
        simp [hne]
        exact s3
    simp [-Prod.exists, -Prod.forall]
    refine lc_run (e := staD) (f := staD) (p := fun x => tops x j) (reachL r b s) [] (by simp; omega) (fun x hx K1 K0 h1 => ?_) ?_
    · simp [wipeR, slS2, in_two]
      exact h1
    rw [List.nil_append, eqD_stas]
    have hno := tops_no (j := j) gs
    by_cases hd : dTop r b s j = none
    · rw [hno.mpr hd]
      simp [-Prod.exists, -Prod.forall]
      exact tl _ (.inl ⟨hd, rfl⟩)
    · have : ¬ ((reachL r b s).filter fun t => tops t j) = [] := fun z => hd (hno.mp z)
      simp only [this, decide_false, z_oPs, Bool.false_eq_true, if_false]
      exact tl _ (.inr ⟨hd, rfl⟩)
  · exact h.elim
theorem e_judged {r : Rk} {b : Bd} {s : Sta} {j : Nat} {P : D → Prop} {E : Str → Prop} (hr : VR r) (h5 : r.length ≤ 5) (hb : VB b) (gs : Gd r b s) (hj : j < r.length) (p : P (.bl true)) : g__law_judged [rockD r, bodyD b, .lst ((goods r b).map staD), staD s, .int j] P E := by
  simp only [g__law_judged]
  exact ⟨r, b, s, j, rfl, rfl, rfl, rfl, rfl, hr, h5, hb, gs, hj, p⟩
/-! law(script): 0 script, 1 town, 2 k, 3 rows, 4 rock_here, 5 body_here, 6 start_here, 7 j, 8 answers -/
def N_law : List Str := ["script", "town", "k", "rows", "rock_here", "body_here", "start_here", "j", "answers"]
def b_law_L1 : DS := (dIfS (dNot (dTest (dCall g__law_judged (dCons (dVar 4) (dCons (dVar 5) (dCons (dVar 3) (dCons (dVar 6) (dCons (dCallT g__law_draw (dTown (dVar 0) 1 (dCons (dCB lenD (dCons (dVar 4) dNil)) dNil))) dNil)))))))) (dRet (dC (.bl false))) dNext)
def b_law_L2 : DS := (dSeq (dUnp (.tp [4, 5]) (dTup (dCons (dCallT g__law_rock (dTown (dVar 0) 1 (dCons (dC (.int 5)) dNil))) (dCons (dCallT g__law_body (dTown (dVar 0) 1 dNil)) dNil))))
      (dSeq (dSet 3 (dCall g__law_all (dCons (dVar 4) (dCons (dVar 5) dNil))))
      (dIfS (dCmp neD (dVar 3) (dLst dNil)) (dSeq (dSet 6 (dBin ixD (dVar 3) (dCallT g__law_draw (dTown (dVar 0) 1 (dCons (dCB lenD (dCons (dVar 3) dNil)) dNil)))))
      (dSeq (dFor (diRange (dCons (dC (.int 2)) dNil)) (.nm 7) b_law_L1)
      (dSeq (dOwn 8 (dLst (dCons (dResult fun Ee => (dCallX Ee g_barrier (dCons (dVar 4) (dCons (dVar 5) (dCons (dC .non) (dCons (dC (.int 0)) dNil)))))) dNil)))
      (dSeq (fun E ρ => (∃ ds, ρ[8]? = some (some (Slot.own (.lst ds)))) ∧ dApp 8 (dResult fun Ee => (dCallX Ee g_barrier (dCons (dVar 4) (dCons (dVar 5) (dCons (dVar 6) (dCons (dC (.int 7)) dNil)))))) E ρ)
      (dSeq (fun E ρ => (∃ ds, ρ[8]? = some (some (Slot.own (.lst ds)))) ∧ dApp 8 (dResult fun Ee => (dCallX Ee g_is_barrier (dCons (dVar 4) (dCons (dVar 5) (dCons (dBin mulD (dTup (dCons (dC (.int 0)) dNil)) (dC (.int 4))) (dCons (dC (.int 9)) (dCons (dTup dNil) dNil))))))) E ρ)
      (dSeq (fun E ρ => (∃ ds, ρ[8]? = some (some (Slot.own (.lst ds)))) ∧ dApp 8 (dResult fun Ee => (dCallX Ee g_is_barrier (dCons (dVar 4) (dCons (dVar 5) (dCons (dVar 6) (dCons (dUn negD (dC (.int 1))) (dCons (dTup dNil) dNil))))))) E ρ)
      (dIfS (dCmp neD (dVarB 8) (dLst (dCons (dTup (dCons (dC (.str "pose")) dNil)) (dCons (dTup (dCons (dC (.str "grip")) dNil)) (dCons (dTup (dCons (dC (.str "pose")) dNil)) (dCons (dTup (dCons (dC (.str "grip")) dNil)) dNil)))))) (dRet (dC (.bl false))) dNext))))))) dNext)))
def b_law : DS := (dSeq (dBegun 1)
      (dSeq (dFor (diRange (dCons (dC (.int 4)) dNil)) (.nm 2) b_law_L2)
      (dRet (dC (.bl true)))))
abbrev l12R (ns : List Int) (x2 x3 x4 x5 x6 x7 x8 : Option Slot) : R := [some (.sh (.scr ns)), some .town, x2, x3, x4, x5, x6, x7, x8]
theorem t_law (ds : List D) (P : D → Prop) (h : g_law ds P fun _ => False) : b_law { nx := fun _ => P .non, rt := P } (startD N_law ds) := by
  obtain ⟨ns, rfl, hn, q⟩ := h
  simp only [b_law, startD, N_law, z_seq]
  simp
  refine ⟨rfl, ?_⟩
  refine for_ind (e := fun i : Nat => .int (i : Int)) (fun l ρ => ∃ x2 x3 x4 x5 x6 x7 x8, ρ = l12R ns x2 x3 x4 x5 x6 x7 x8) ?_ ?_ (List.range 4) _ ⟨_, _, _, _, _, _, _, rfl⟩
  · rintro k l ρ N ⟨x2, x3, x4, x5, x6, x7, x8, rfl⟩ hN
    simp only [b_law_L2, z_asgN]
    refine sqc2 fun K hK => ?_
    simp only [z_seq]
    simp [e_lrock hn, e_lbody hn, setAll, -Prod.forall]
    intro r hr hr4 b hb
    rw [e_lall hr.seven]
    have h7 := hr.seven
    have h1 := hr.one
    show K (l12R ns (some (.sh (.int k))) (some (.sh (.lst ((goods r b).map staD)))) (some (.sh (rockD r))) (some (.sh (bodyD b))) x6 x7 x8)
    rw [hK]
    refine if_rows neD_stas ?_ ?_ <;> intro hg0
    · exact hN _ ⟨_, _, _, _, _, _, _, rfl⟩
    · have hgl := goods_len (b := b) hr.seven
      have hgp := goods_pos hg0
      refine seq_name1 fun K1 hK1 => ?_
      simp [-Prod.forall, -Prod.exists]
      rw [e_draw hn (by omega) (by omega)]
      intro i i0 i1
      obtain ⟨s, hs, es⟩ := ix_stas i0 i1
      have gs := goods_gd.mp hs
      simp only [z_ixL, es, z_oPs]
      rw [hK1]
      refine seq_name1 fun K2 hK2 => ?_
      simp [-Prod.forall, -Prod.exists, -z_for1]
      refine for_ind (e := fun i : Nat => .int (i : Int)) (fun l ρ => ∃ x7, ρ = l12R ns (some (.sh (.int k))) (some (.sh (.lst ((goods r b).map staD)))) (some (.sh (rockD r))) (some (.sh (bodyD b))) (some (.sh (staD s))) x7 x8) ?_ ?_ (List.range 2) _ ⟨_, rfl⟩
      · rintro k2 l2 ρ N2 ⟨x7, rfl⟩ hN2
        have e1 : lenD [rockD r] = some (.int r.length) := by simp [rockD]
        simp [b_law_L1, e1]
        rw [e_draw hn (by omega) (by omega)]
        intro j0 ja jb
        obtain ⟨j, rfl⟩ := Int.eq_ofNat_of_zero_le ja
        have hj : j < r.length := by omega
        refine e_judged hr.toVR (by omega) hb.toVB gs hj ?_
        simp
        exact hN2 _ ⟨_, rfl⟩
      · rintro ρ ⟨x7, rfl⟩
        show K2 _
        rw [hK2]
        have e7 : isBet (.int 7) 0 ((r.length : Int) - 1) = false := by simp [isBet]; omega
        have em : isBet (.int (-1)) 0 ((r.length : Int) - 1) = false := by simp [isBet]
        have e8 : mulD (.tup [.int 0]) (.int 4) = some (.tup [.int 0, .int 0, .int 0, .int 0]) := rfl
        have e9 := neD_errs (l := ["pose", "grip", "pose", "grip"]) (by decide +kernel)
        simp only [List.map_cons, List.map_nil] at e9
        refine seq_name1 fun K3 hK3 => ?_
        simp [g_barrier, chkR_ok hr.toVR, chkB_ok hb.toVB, c_poseN]
        rw [hK3]
        refine seq_name1 fun K4 hK4 => ?_
        simp [g_barrier, chkR_ok hr.toVR, chkB_ok hb.toVB, chkS_ok gs.i gs.k, chkH_bad (v := .int 7) rfl e7]
        rw [hK4]
        refine seq_name1 fun K5 hK5 => ?_
        simp [g_is_barrier, chkR_ok hr.toVR, chkB_ok hb.toVB, e8, c_pose0 hr.toVR]
        rw [hK5]
        refine seq_name1 fun K6 hK6 => ?_
        simp [g_is_barrier, chkR_ok hr.toVR, chkB_ok hb.toVB, chkS_ok gs.i gs.k, chkH_bad (v := .int (-1)) rfl em]
        rw [hK6]
        simp [e9]
        exact hN _ ⟨_, _, _, _, _, _, _, rfl⟩
  · rintro ρ ⟨x2, x3, x4, x5, x6, x7, x8, rfl⟩
    simpa using q
end WH

set_option Elab.async false
set_option linter.all false
set_option maxRecDepth 100000
set_option maxHeartbeats 0
namespace WHd
open PySem PySem.Spec PyProof.Rows L2
def top (i : Nat) : Stmt := PySem.Challenge.pw_wallholds_k12_barriers.main.body.getD i (.Pass ⟨0, 0, 0, 0⟩)
def D_is_between : He.DefD := ⟨("is_between", none), "is_between", "is_between", defArgs (top 12), defBody (top 12), defScope (top 12), [], []⟩
def D_are_between : He.DefD := ⟨("are_between", none), "are_between", "are_between", defArgs (top 13), defBody (top 13), defScope (top 13), [], []⟩
def D_is_hold : He.DefD := ⟨("is_hold", none), "is_hold", "is_hold", defArgs (top 14), defBody (top 14), defScope (top 14), [], []⟩
def D_is_rock : He.DefD := ⟨("is_rock", none), "is_rock", "is_rock", defArgs (top 15), defBody (top 15), defScope (top 15), [], []⟩
def D_is_body : He.DefD := ⟨("is_body", none), "is_body", "is_body", defArgs (top 16), defBody (top 16), defScope (top 16), [], []⟩
def D_check_rock : He.DefD := ⟨("check_rock", none), "check_rock", "check_rock", defArgs (top 17), defBody (top 17), defScope (top 17), [], []⟩
def D_check_body : He.DefD := ⟨("check_body", none), "check_body", "check_body", defArgs (top 18), defBody (top 18), defScope (top 18), [], []⟩
def D_check_both : He.DefD := ⟨("check_both", none), "check_both", "check_both", defArgs (top 19), defBody (top 19), defScope (top 19), [], []⟩
def D_check_hold : He.DefD := ⟨("check_hold", none), "check_hold", "check_hold", defArgs (top 20), defBody (top 20), defScope (top 20), [], []⟩
def D_apart_by : He.DefD := ⟨("apart_by", none), "apart_by", "apart_by", defArgs (top 21), defBody (top 21), defScope (top 21), [], []⟩
def D_have_room : He.DefD := ⟨("have_room", none), "have_room", "have_room", defArgs (top 22), defBody (top 22), defScope (top 22), [], []⟩
def D_are_sorted : He.DefD := ⟨("are_sorted", none), "are_sorted", "are_sorted", defArgs (top 23), defBody (top 23), defScope (top 23), [], []⟩
def D_is_kept : He.DefD := ⟨("is_kept", none), "is_kept", "is_kept", defArgs (top 24), defBody (top 24), defScope (top 24), [], []⟩
def D_is_good_one : He.DefD := ⟨("is_good_one", none), "is_good_one", "is_good_one", defArgs (top 25), defBody (top 25), defScope (top 25), [], []⟩
def D_check_stance : He.DefD := ⟨("check_stance", none), "check_stance", "check_stance", defArgs (top 26), defBody (top 26), defScope (top 26), [], []⟩
def D_changed : He.DefD := ⟨("changed", none), "changed", "changed", defArgs (top 28), defBody (top 28), defScope (top 28), [], []⟩
def D_next_stances : He.DefD := ⟨("next_stances", none), "next_stances", "next_stances", defArgs (top 29), defBody (top 29), defScope (top 29), [], []⟩
def D_check_all : He.DefD := ⟨("check_all", none), "check_all", "check_all", defArgs (top 30), defBody (top 30), defScope (top 30), [], []⟩
def D_ways_from : He.DefD := ⟨("ways_from", none), "ways_from", "ways_from", defArgs (top 31), defBody (top 31), defScope (top 31), [], []⟩
def D_does_top : He.DefD := ⟨("does_top", none), "does_top", "does_top", defArgs (top 33), defBody (top 33), defScope (top 33), [], []⟩
def D_check_top : He.DefD := ⟨("check_top", none), "check_top", "check_top", defArgs (top 34), defBody (top 34), defScope (top 34), [], []⟩
def D_barrier : He.DefD := ⟨("barrier", none), "barrier", "barrier", defArgs (top 35), defBody (top 35), defScope (top 35), [], []⟩
def D_is_barrier : He.DefD := ⟨("is_barrier", none), "is_barrier", "is_barrier", defArgs (top 36), defBody (top 36), defScope (top 36), [], []⟩
def D__law_result : He.DefD := ⟨("_law_result", none), "_law_result", "_law_result", defArgs (top 38), defBody (top 38), defScope (top 38), [], []⟩
def D__law_is : He.DefD := ⟨("_law_is", none), "_law_is", "_law_is", defArgs (top 39), defBody (top 39), defScope (top 39), [], []⟩
def D__law_draw : He.DefD := ⟨("_law_draw", none), "_law_draw", "_law_draw", defArgs (top 40), defBody (top 40), defScope (top 40), [], []⟩
def D__law_begun : He.DefD := ⟨("_law_begun", none), "_law_begun", "_law_begun", defArgs (top 41), defBody (top 41), defScope (top 41), [], []⟩
def D__law_rock : He.DefD := ⟨("_law_rock", none), "_law_rock", "_law_rock", defArgs (top 42), defBody (top 42), defScope (top 42), [], []⟩
def D__law_body : He.DefD := ⟨("_law_body", none), "_law_body", "_law_body", defArgs (top 43), defBody (top 43), defScope (top 43), [], []⟩
def D__law_kept : He.DefD := ⟨("_law_kept", none), "_law_kept", "_law_kept", defArgs (top 44), defBody (top 44), defScope (top 44), [], []⟩
def D__law_all : He.DefD := ⟨("_law_all", none), "_law_all", "_law_all", defArgs (top 45), defBody (top 45), defScope (top 45), [], []⟩
def D__law_near : He.DefD := ⟨("_law_near", none), "_law_near", "_law_near", defArgs (top 46), defBody (top 46), defScope (top 46), [], []⟩
def D__law_levels : He.DefD := ⟨("_law_levels", none), "_law_levels", "_law_levels", defArgs (top 47), defBody (top 47), defScope (top 47), [], []⟩
def D__law_barrier : He.DefD := ⟨("_law_barrier", none), "_law_barrier", "_law_barrier", defArgs (top 48), defBody (top 48), defScope (top 48), [], []⟩
def D__law_judged : He.DefD := ⟨("_law_judged", none), "_law_judged", "_law_judged", defArgs (top 49), defBody (top 49), defScope (top 49), [], []⟩
def D_law : He.DefD := ⟨("law", none), "law", "law", defArgs (top 50), defBody (top 50), defScope (top 50), [], []⟩
def fn : List He.DefD := [D_is_between, D_are_between, D_is_hold, D_is_rock, D_is_body, D_check_rock, D_check_body, D_check_both, D_check_hold, D_apart_by, D_have_room, D_are_sorted, D_is_kept, D_is_good_one, D_check_stance, D_changed, D_next_stances, D_check_all, D_ways_from, D_does_top, D_check_top, D_barrier, D_is_barrier, D__law_result, D__law_is, D__law_draw, D__law_begun, D__law_rock, D__law_body, D__law_kept, D__law_all, D__law_near, D__law_levels, D__law_barrier, D__law_judged, D_law]
def fa : List He.Fa := [.glo "is_between", .glo "are_between", .glo "is_hold", .glo "is_rock", .glo "is_body", .glo "check_rock", .glo "check_body", .glo "check_both", .glo "check_hold", .glo "apart_by", .glo "have_room", .glo "are_sorted", .glo "is_kept", .glo "is_good_one", .glo "check_stance", .glo "changed", .glo "next_stances", .glo "check_all", .glo "ways_from", .glo "does_top", .glo "check_top", .glo "barrier", .glo "is_barrier", .glo "_law_result", .glo "_law_is", .glo "_law_draw", .glo "_law_begun", .glo "_law_rock", .glo "_law_body", .glo "_law_kept", .glo "_law_all", .glo "_law_near", .glo "_law_levels", .glo "_law_barrier", .glo "_law_judged", .glo "law", .free "len", .free "range", .free "isinstance", .free "all", .free "any", .free "max", .free "min", .free "abs", .free "tuple", .free "list", .free "set", .free "sorted", .free "int", .free "bool", .free "str", .free "zip", .free "sum", .free "enumerate", .free "ValueError", .glo "ClimbError", .glo "InvalidRock", .glo "InvalidBody", .glo "InvalidHold", .glo "InvalidStance", .glo "InvalidNumber", .glo "InvalidLimb", .glo "InvalidText", .glo "NoMove", .glo "NothingToUndo", .exc "ClimbError", .exc "InvalidRock", .exc "InvalidBody", .exc "InvalidHold", .exc "InvalidStance", .exc "InvalidNumber", .exc "InvalidLimb", .exc "InvalidText", .exc "NoMove", .exc "NothingToUndo"]
def ls0 : List PySem.Str := ["ClimbError", "InvalidRock", "InvalidBody", "InvalidHold", "InvalidStance", "InvalidNumber", "InvalidLimb", "InvalidText", "NoMove", "NothingToUndo", "is_between", "are_between", "is_hold", "is_rock", "is_body", "check_rock", "check_body", "check_both", "check_hold", "apart_by", "have_room", "are_sorted", "is_kept", "is_good_one", "check_stance", "changed", "next_stances", "check_all", "ways_from", "does_top"]
def ls1 : List PySem.Str := ["check_top", "barrier", "is_barrier", "_law_result", "_law_is", "_law_draw", "_law_begun", "_law_rock", "_law_body", "_law_kept", "_law_all", "_law_near", "_law_levels", "_law_barrier", "_law_judged"]
def loose : List PySem.Str := ls0 ++ ls1
abbrev R : PySem.W.OpenRow := PySem.W.OpenLaw.row PySem.Challenge.rw_wallholds_k12_barriers
abbrev hk : PySem.W.Hook := He.hookX 5 fa fn [] [("law", none)] WH.resB
def ob (s : PySem.W.SharedT) : He.AlX := He.obsX 5 fa fn [] [("law", none)] WH.resB (HandSHeadRun.getT s)
theorem ob_eq (s : PySem.W.SharedT) : ob s = hk.obs s.abs := He.obsX_eq (HandSHeadRun.getT_eq s)
theorem run (w : World) : HandSHeadRun.RunEq R (PySem.W.view R.prog [50]) hk ob 4000 loose w := by
  intro os
  kernel_rfl
end WHd

set_option Elab.async false
set_option linter.all false
set_option maxRecDepth 100000
set_option maxHeartbeats 8000000
namespace WHd
open PySem PySem.Spec L2 PyProof.Rows WH
abbrev s__law_result : Stmt := top 38
theorem sc__law_result : FnScope N__law_result ["call"] (defScope s__law_result) := ⟨rfl, rfl, rfl, by decide +kernel, rfl, by decide +kernel, by decide +kernel⟩
theorem gv__law_result {X : Cx} {g : Addr} {cdg : Value} {q : Str} (R : ResF X.K X.mg) (B : Bl X.mg) (hve : X.mg "ValueError" = none) (hu2 : ∀ e, (X.A.deeper e).units + 1 < cLine) : LamX.GivesTo X N__law_result "_law_result" (defScope s__law_result) g cdg (defBody s__law_result) "call" q (TTres X.K) := by
  intro f c' s H Q tl act hc h
  refine ⟨trRes X.K f c' q tl, ?_, p_res R hc h⟩
  have nd := sc__law_result.nd
  exact pss_cons (ps_asg (pe_tup (pa_cons pe_non (pa_cons pe_non pa_nil))) (pg_tup rfl (pgs_cons (pg_name (i := 1) nd rfl (Or.inl rfl)) (pgs_cons (pg_name (i := 2) nd rfl (Or.inl rfl)) pgs_nil))))
    (pss_cons (ps_try_keep (i := 3) (tb := tAct f c' q tl) (ts := fun _ => tAsg (tVar 3) (gName 1)) rfl rfl nd rfl rfl ⟨rfl, by decide, .inl R.top⟩ rfl (fun W pn xe tk => act_body rfl (act _ pn xe) tk nd rfl (Or.inl rfl) rfl) (fun a oe pn => pss_one (ps_set (i := 1) nd rfl (Or.inl rfl) (pv 3))))
    (pss_cons (ps_if (pt_cmpR op_isN (pv 1) pe_non (nomark _)) (pss_one (ps_ret (pe_tupF (pa_cons pe_str (pa_cons (pv 2) pa_nil))))) pss_nil)
    (pss_cons (ps_set (i := 4) nd rfl (Or.inr rfl) (pe_disp (pps_cons pe_str (pe_callB call_isX (by rfl) B.isinstance (by decide +kernel) (pa_cons (pv 1) (pa_cons (pe_glob (v := .ref (cOf X.K 0)) rfl (R.glo 0 (by decide)) rfl) pa_nil))) (pps_cons pe_str (pe_callB call_isX (by rfl) B.isinstance (by decide +kernel) (pa_cons (pv 1) (pa_cons (pe_glob (v := .ref (cOf X.K 1)) rfl (R.glo 1 (by decide)) rfl) pa_nil))) pps_nil)) rfl rfl (by decide) (by decide)))
    (pss_cons (ps_expr (pe_bm PySem.F.plainAttrs_dict PySem.F.slot_dict_update PySem.F.type_dict_update mt_upd (pv 4) (pa_cons (pe_disp (pps_cons pe_str (pe_callB call_isX (by rfl) B.isinstance (by decide +kernel) (pa_cons (pv 1) (pa_cons (pe_glob (v := .ref (cOf X.K 2)) rfl (R.glo 2 (by decide)) rfl) pa_nil))) (pps_cons pe_str (pe_callB call_isX (by rfl) B.isinstance (by decide +kernel) (pa_cons (pv 1) (pa_cons (pe_glob (v := .ref (cOf X.K 3)) rfl (R.glo 3 (by decide)) rfl) pa_nil))) pps_nil)) rfl rfl (by decide) (by decide)) pa_nil)))
    (pss_cons (ps_expr (pe_bm PySem.F.plainAttrs_dict PySem.F.slot_dict_update PySem.F.type_dict_update mt_upd (pv 4) (pa_cons (pe_disp (pps_cons pe_str (pe_callB call_isX (by rfl) B.isinstance (by decide +kernel) (pa_cons (pv 1) (pa_cons (pe_glob (v := .ref (cOf X.K 4)) rfl (R.glo 4 (by decide)) rfl) pa_nil))) (pps_cons pe_str (pe_callB call_isX (by rfl) B.isinstance (by decide +kernel) (pa_cons (pv 1) (pa_cons (pe_glob (v := .ref (cOf X.K 5)) rfl (R.glo 5 (by decide)) rfl) pa_nil))) pps_nil)) rfl rfl (by decide) (by decide)) pa_nil)))
    (pss_cons (ps_expr (pe_bm PySem.F.plainAttrs_dict PySem.F.slot_dict_update PySem.F.type_dict_update mt_upd (pv 4) (pa_cons (pe_disp (pps_cons pe_str (pe_callB call_isX (by rfl) B.isinstance (by decide +kernel) (pa_cons (pv 1) (pa_cons (pe_glob (v := .ref (cOf X.K 6)) rfl (R.glo 6 (by decide)) rfl) pa_nil))) (pps_cons pe_str (pe_callB call_isX (by rfl) B.isinstance (by decide +kernel) (pa_cons (pv 1) (pa_cons (pe_glob (v := .ref (cOf X.K 7)) rfl (R.glo 7 (by decide)) rfl) pa_nil))) pps_nil)) rfl rfl (by decide) (by decide)) pa_nil)))
    (pss_cons (ps_expr (pe_bm PySem.F.plainAttrs_dict PySem.F.slot_dict_update PySem.F.type_dict_update mt_upd (pv 4) (pa_cons (pe_disp (pps_cons pe_str (pe_callB call_isX (by rfl) B.isinstance (by decide +kernel) (pa_cons (pv 1) (pa_cons (pe_glob (v := .ref (cOf X.K 8)) rfl (R.glo 8 (by decide)) rfl) pa_nil))) pps_nil) rfl rfl (by decide) (by decide)) pa_nil)))
    (pss_cons (ps_lock (ps_setLc (i := 5) (own := [("name", 6)]) rfl nd rfl rfl (sw_true rfl rfl rfl (by decide +kernel)) (pi_keys (pv 4)) (blkOk_by (N := N__law_result) (sc := defScope s__law_result) (by decide +kernel)) (fun _ _ _ _ _ => pg_name (i := 6) nd rfl (Or.inl rfl)) (fun _ _ _ _ _ => pts_one (pt_truth (pe_dget (hu2 _) (pv 4) (pv 6) (fun _ _ => rfl)) (fun _ => rfl))) (fun _ _ _ _ _ => pv 6) (by intro _; rfl)))
    (pss_one (ps_ret (pe_ifExp (PW.pt (pw_and (pt_cmpR op_eq (pe_callB call_len_seq (by rfl) B.len PySem.boot_len (pa_cons (pv 5) pa_nil)) pe_int (nomark _)) (pw_and1 (pt_val (pe_callB call_isX (by rfl) B.isinstance (by decide +kernel) (pa_cons (pv 1) (pa_cons (pe_bltn (v := .ty "ValueError") (u := .type "ValueError") rfl hve (by decide +kernel) rfl) pa_nil))))))) (pe_tupF (pa_cons (pe_ix ix_list (pv 5) pe_int (fun _ _ => rfl)) pa_nil)) (pe_tupF (pa_cons pe_str pa_nil)))))))))))))
theorem rs_ok {K : PySem.W.Frag} {mg : Str → Option Value} {f : Addr} {fd : FuncData} (F : FunD K "_law_result" "_law_result" (defArgs s__law_result) (defBody s__law_result) (defScope s__law_result) [] [] f fd) (m : mg "_law_result" = some (.ref f)) (R : ResF K mg) (B : Bl mg) (hve : mg "ValueError" = none) : RS K mg := by
  have hb := F.bindsN (ps := ["call"]) (fun _ _ _ _ _ _ us hl => match us, hl with | [_], _ => rfl)
  obtain ⟨oc, od, dV, kV, doc, pm, an, cdv, ct, osl, rfl, lk, hcd, hD, hK⟩ := F.ex
  refine ⟨R, f, _, _, _, dV, kV, doc, pm, cdv, ct, oc, an, od, osl, m, F.kp, lk, hcd, hb, sc__law_result, Or.inl rfl, fun X q e1 e2 hu => ?_⟩
  subst e1
  subst e2
  exact gv__law_result R B hve hu

abbrev s_is_between : Stmt := top 12
theorem sc_is_between : FnScope N_is_between ["value", "low", "high"] (defScope s_is_between) := ⟨rfl, rfl, rfl, by decide +kernel, rfl, by decide +kernel, by decide +kernel⟩
theorem ok_is_between {P : Program} {w : World} {K : PySem.W.Frag} {mg : Str → Option Value} {base : Heap} {f : Addr} {fd : FuncData} (B : Bl mg) (F : FunD K "is_between" "is_between" (defArgs s_is_between) (defBody s_is_between) (defScope s_is_between) [] [] f fd) (m : mg "is_between" = some (.ref f)) :
    FN P w K mg base 1 "is_between" ["value", "low", "high"] [] (spD ⟨K, mg, P, w⟩ g_is_between) :=
  okF (body := b_is_between) F m sc_is_between (fun _ _ _ _ _ _ us hl => match us, hl with | [_, _, _], _ => rfl) (fun n hn => nomatch hn) len_is_between t_is_between (fun C cdv A outer s H E hC0 hT0 hX hr =>
    (ds_one (ds_ret (de_and (de_isi (T := "int") hX.toFits (.inl rfl) (PE.b (de_var 0)) (hX.mg0 B.isinstance) (hX.mg0 B.int) (by decide +kernel)) (de_and (de_not (de_isi (T := "bool") hX.toFits (.inr (.inl rfl)) (PE.b (de_var 0)) (hX.mg0 B.isinstance) (hX.mg0 B.bool) (by decide +kernel))) (de_one (de_chain op_le op_le cg_int cg_int (PE.b (de_var 1)) (PE.b (de_var 0)) (PE.b (de_var 2)) (by with_unfolding_all rfl))))))))
abbrev s_apart_by : Stmt := top 21
theorem sc_apart_by : FnScope N_apart_by ["rock", "one", "other"] (defScope s_apart_by) := ⟨rfl, rfl, rfl, by decide +kernel, rfl, by decide +kernel, by decide +kernel⟩
theorem ok_apart_by {P : Program} {w : World} {K : PySem.W.Frag} {mg : Str → Option Value} {base : Heap} {f : Addr} {fd : FuncData} (B : Bl mg) (F : FunD K "apart_by" "apart_by" (defArgs s_apart_by) (defBody s_apart_by) (defScope s_apart_by) [] [] f fd) (m : mg "apart_by" = some (.ref f)) :
    FN P w K mg base 1 "apart_by" ["rock", "one", "other"] [] (spD ⟨K, mg, P, w⟩ g_apart_by) :=
  okF (body := b_apart_by) F m sc_apart_by (fun _ _ _ _ _ _ us hl => match us, hl with | [_, _, _], _ => rfl) (fun n hn => nomatch hn) len_apart_by t_apart_by (fun C cdv A outer s H E hC0 hT0 hX hr =>
    (ds_one (ds_ret (de_callBS (call_max2 hX.toFits.calm) cs_max2 (by rfl) (hX.mg0 B.max) (by decide +kernel) (da_consB (PE.b (de_callBS call_abs cs_abs (by rfl) (hX.mg0 B.abs) (by decide +kernel) (da_consB (PE.b (de_bin op_sub og_sub (de_ix ix_seq (og_ix hX.toFits) (de_ix ix_seq (og_ix hX.toFits) (de_var 0) (de_var 1)) de_int) (de_ix ix_seq (og_ix hX.toFits) (de_ix ix_seq (og_ix hX.toFits) (de_var 0) (de_var 2)) de_int))) da_nilB))) (da_consB (PE.b (de_callBS call_abs cs_abs (by rfl) (hX.mg0 B.abs) (by decide +kernel) (da_consB (PE.b (de_bin op_sub og_sub (de_ix ix_seq (og_ix hX.toFits) (de_ix ix_seq (og_ix hX.toFits) (de_var 0) (de_var 1)) de_int) (de_ix ix_seq (og_ix hX.toFits) (de_ix ix_seq (og_ix hX.toFits) (de_var 0) (de_var 2)) de_int))) da_nilB))) da_nilB))))))
abbrev s_have_room : Stmt := top 22
theorem sc_have_room : FnScope N_have_room ["rock", "stance"] (defScope s_have_room) := ⟨rfl, rfl, rfl, by decide +kernel, rfl, by decide +kernel, by decide +kernel⟩
theorem ok_have_room {P : Program} {w : World} {K : PySem.W.Frag} {mg : Str → Option Value} {base : Heap} {f : Addr} {fd : FuncData} (B : Bl mg) (F : FunD K "have_room" "have_room" (defArgs s_have_room) (defBody s_have_room) (defScope s_have_room) [] [] f fd) (m : mg "have_room" = some (.ref f)) :
    FN P w K mg base 1 "have_room" ["rock", "stance"] [] (spD ⟨K, mg, P, w⟩ g_have_room) :=
  okF (body := b_have_room) F m sc_have_room (fun _ _ _ _ _ _ us hl => match us, hl with | [_, _], _ => rfl) (fun n hn => nomatch hn) len_have_room t_have_room (fun C cdv A outer s H E hC0 hT0 hX hr =>
    (ds_one (ds_ret (de_callBS (cr_all hX.toFits.calm) (cs_all hX.toFits) (by rfl) (hX.mg0 B.all) (by decide +kernel) (da_consB (PE.b (PE.f (df_lc (own := [("hold", 2)]) (T := (.nm 2)) hX.toFits (di_seq hX.toFits (de_var 1)) (blkOk_by (N := N_have_room) (sc := defScope s_have_room) (by decide +kernel)) (fun _ _ _ _ _ => (dg_name (i := 2) hX.blk.toFits)) (fun _ _ _ _ _ => dts_nil) (fun _ _ _ _ _ => (de_cmp op_le cg_int (PE.b (de_count hX.blk.toFits (de_var 1) (de_var 2))) (PE.b (de_ix ix_seq (og_ix hX.blk.toFits) (de_ix ix_seq (og_ix hX.blk.toFits) (de_var 0) (de_var 2)) de_int)) (nomark _)))))) da_nilB)))))
abbrev s_are_sorted : Stmt := top 23
theorem sc_are_sorted : FnScope N_are_sorted ["rock", "left", "right", "cross"] (defScope s_are_sorted) := ⟨rfl, rfl, rfl, by decide +kernel, rfl, by decide +kernel, by decide +kernel⟩
theorem ok_are_sorted {P : Program} {w : World} {K : PySem.W.Frag} {mg : Str → Option Value} {base : Heap} {f : Addr} {fd : FuncData} (B : Bl mg) (F : FunD K "are_sorted" "are_sorted" (defArgs s_are_sorted) (defBody s_are_sorted) (defScope s_are_sorted) [] [] f fd) (m : mg "are_sorted" = some (.ref f)) :
    FN P w K mg base 1 "are_sorted" ["rock", "left", "right", "cross"] [] (spD ⟨K, mg, P, w⟩ g_are_sorted) :=
  okF (body := b_are_sorted) F m sc_are_sorted (fun _ _ _ _ _ _ us hl => match us, hl with | [_, _, _, _], _ => rfl) (fun n hn => nomatch hn) len_are_sorted t_are_sorted (fun C cdv A outer s H E hC0 hT0 hX hr =>
    (ds_one (ds_ret (de_cmp op_le cg_int (PE.b (de_ix ix_seq (og_ix hX.toFits) (de_ix ix_seq (og_ix hX.toFits) (de_var 0) (de_var 1)) de_int)) (PE.b (de_bin or_add (og_add hX.toFits) (de_ix ix_seq (og_ix hX.toFits) (de_ix ix_seq (og_ix hX.toFits) (de_var 0) (de_var 2)) de_int) (de_var 3))) (nomark _)))))
abbrev s_changed : Stmt := top 28
theorem sc_changed : FnScope N_changed ["stance", "limb", "hold"] (defScope s_changed) := ⟨rfl, rfl, rfl, by decide +kernel, rfl, by decide +kernel, by decide +kernel⟩
theorem ok_changed {P : Program} {w : World} {K : PySem.W.Frag} {mg : Str → Option Value} {base : Heap} {f : Addr} {fd : FuncData} (B : Bl mg) (F : FunD K "changed" "changed" (defArgs s_changed) (defBody s_changed) (defScope s_changed) [] [] f fd) (m : mg "changed" = some (.ref f)) :
    FN P w K mg base 1 "changed" ["stance", "limb", "hold"] [] (spD ⟨K, mg, P, w⟩ g_changed) :=
  okF (body := b_changed) F m sc_changed (fun _ _ _ _ _ _ us hl => match us, hl with | [_, _, _], _ => rfl) (fun n hn => nomatch hn) len_changed t_changed (fun C cdv A outer s H E hC0 hT0 hX hr =>
    (ds_one (ds_ret (de_bin or_add (og_add hX.toFits) (de_bin or_add (og_add hX.toFits) (de_slice sr_all (sg_all hX.toFits) (de_var 0) do_none (do_some (de_var 1))) (de_tup (da_cons (de_var 2) da_nil))) (de_slice sr_all (sg_all hX.toFits) (de_var 0) (do_some (de_bin or_add (og_add hX.toFits) (de_var 1) de_int)) do_none)))))
abbrev s_does_top : Stmt := top 33
theorem sc_does_top : FnScope N_does_top ["stance", "top"] (defScope s_does_top) := ⟨rfl, rfl, rfl, by decide +kernel, rfl, by decide +kernel, by decide +kernel⟩
theorem ok_does_top {P : Program} {w : World} {K : PySem.W.Frag} {mg : Str → Option Value} {base : Heap} {f : Addr} {fd : FuncData} (B : Bl mg) (F : FunD K "does_top" "does_top" (defArgs s_does_top) (defBody s_does_top) (defScope s_does_top) [] [] f fd) (m : mg "does_top" = some (.ref f)) :
    FN P w K mg base 1 "does_top" ["stance", "top"] [] (spD ⟨K, mg, P, w⟩ g_does_top) :=
  okF (body := b_does_top) F m sc_does_top (fun _ _ _ _ _ _ us hl => match us, hl with | [_, _], _ => rfl) (fun n hn => nomatch hn) len_does_top t_does_top (fun C cdv A outer s H E hC0 hT0 hX hr =>
    (ds_one (ds_ret (de_cmp (or_in hX.toFits) (cg_in hX.toFits) (PE.b (de_var 1)) (PE.b (de_slice sr_all (sg_all hX.toFits) (de_var 0) do_none (do_some de_int))) (by rfl)))))
abbrev s__law_is : Stmt := top 39
theorem sc__law_is : FnScope N__law_is ["found", "expected"] (defScope s__law_is) := ⟨rfl, rfl, rfl, by decide +kernel, rfl, by decide +kernel, by decide +kernel⟩
theorem ok__law_is {P : Program} {w : World} {K : PySem.W.Frag} {mg : Str → Option Value} {base : Heap} {f : Addr} {fd : FuncData} (B : Bl mg) (F : FunD K "_law_is" "_law_is" (defArgs s__law_is) (defBody s__law_is) (defScope s__law_is) [] [] f fd) (m : mg "_law_is" = some (.ref f)) :
    FN P w K mg base 1 "_law_is" ["found", "expected"] [] (spD ⟨K, mg, P, w⟩ g__law_is) :=
  okF (body := b__law_is) F m sc__law_is (fun _ _ _ _ _ _ us hl => match us, hl with | [_, _], _ => rfl) (fun n hn => nomatch hn) len__law_is t__law_is (fun C cdv A outer s H E hC0 hT0 hX hr =>
    (ds_one (ds_ret (de_and (de_isi (T := "bool") hX.toFits (.inr (.inl rfl)) (PE.b (de_var 0)) (hX.mg0 B.isinstance) (hX.mg0 B.bool) (by decide +kernel)) (de_one (de_cmp (or_eq hX.toFits) (cg_eq hX.toFits) (PE.b (de_var 0)) (PE.b (de_var 1)) (nomark _)))))))
abbrev s__law_draw : Stmt := top 40
theorem sc__law_draw : FnScope N__law_draw ["script", "town", "many"] (defScope s__law_draw) := ⟨rfl, rfl, rfl, by decide +kernel, rfl, by decide +kernel, by decide +kernel⟩
theorem ok__law_draw {P : Program} {w : World} {K : PySem.W.Frag} {mg : Str → Option Value} {base : Heap} {f : Addr} {fd : FuncData} (B : Bl mg) (F : FunD K "_law_draw" "_law_draw" (defArgs s__law_draw) (defBody s__law_draw) (defScope s__law_draw) [] [] f fd) (m : mg "_law_draw" = some (.ref f)) :
    FN P w K mg base 1 "_law_draw" ["script", "town", "many"] [] (spT ⟨K, mg, P, w⟩ g__law_draw) := by
  refine ⟨f, fd, ?_, m, F.kp, F.bindsN (fun _ _ _ _ _ _ us hl => match us, hl with | [_, _, _], _ => rfl), fun n hn => nomatch hn⟩
  refine F.ok sc__law_draw (fun vs H Q E h => len_draw vs H Q E h) fun cdv A outer s H vs Q E hr h => ⟨trDraw K, PSs.nox ?_, p_draw vs H Q E h⟩
  have hu := hu_of hr
  exact pss_cons (ps_dput hu (pv 1) pe_str (pe_op op_add (pe_dget hu (pv 1) pe_str (fun _ _ => rfl)) pe_int) rfl)
    (pss_cons (ps_set (i := 3) sc__law_draw.nd rfl (Or.inl rfl) (pe_ifExp (pt_truth (pv 0) (fun _ => rfl)) (pe_op op_mod (pe_dget hu (pv 1) pe_str (fun _ _ => rfl)) (pe_callB call_len_seq (by rfl) B.len PySem.boot_len (pa_cons (pv 0) pa_nil))) pe_int))
    (pss_cons (ps_set (i := 4) sc__law_draw.nd rfl (Or.inl rfl) (pe_dget2 hu (pe_dget hu (pv 1) pe_str (fun _ _ => rfl)) (pv 3) (pe_ifExp (pt_truth (pv 0) (fun _ => rfl)) (pe_ix ix_list (pv 0) (pv 3) (fun _ _ => rfl)) pe_int) ⟨rfl, rfl, rfl, rfl⟩))
    (pss_cons (ps_if (pt_cmpR op_ge (pv 4) (pe_op op_pow pe_int pe_int) (nomark _)) (pss_cons (ps_dput hu (pe_dget hu (pv 1) pe_str (fun _ _ => rfl)) (pv 3) (pe_op op_fdiv (pv 4) (pv 2)) rfl) (pss_one (ps_ret (pe_op op_mod (pv 4) (pv 2))))) pss_nil)
    (pss_cons (ps_set (i := 5) sc__law_draw.nd rfl (Or.inl rfl) (pe_op op_mod (pe_op op_add (pv 4) (pe_op op_mul pe_int (pe_dget hu (pv 1) pe_str (fun _ _ => rfl)))) pe_int))
    (pss_cons (ps_set (i := 5) sc__law_draw.nd rfl (Or.inl rfl) (pe_op op_mod (pe_op op_pow (pv 5) pe_int) pe_int))
    (pss_one (ps_ret (pe_op op_mod (pe_op op_fdiv (pe_op op_mod (pe_op op_add (pe_op op_mul (pe_op op_fdiv (pv 5) pe_int) pe_int) (pv 5)) pe_int) pe_int) (pv 2)))))))))
abbrev s__law_begun : Stmt := top 41
theorem sc__law_begun : FnScope [] [] (defScope s__law_begun) := ⟨rfl, rfl, rfl, by decide +kernel, rfl, by decide +kernel, by decide +kernel⟩
theorem ok__law_begun {P : Program} {w : World} {K : PySem.W.Frag} {mg : Str → Option Value} {base : Heap} {f : Addr} {fd : FuncData} (F : FunD K "_law_begun" "_law_begun" (defArgs s__law_begun) (defBody s__law_begun) (defScope s__law_begun) [] [] f fd) (m : mg "_law_begun" = some (.ref f)) :
    FN P w K mg base 1 "_law_begun" [] [] spBegun := by
  refine ⟨f, fd, ?_, m, F.kp, F.bindsN (fun _ _ _ _ _ _ us hl => match us, hl with | [], _ => rfl), fun n hn => nomatch hn⟩
  refine F.ok sc__law_begun (fun vs H Q E h => by obtain ⟨rfl, _⟩ := h; rfl) fun cdv A outer s H vs Q E hr h => ⟨trBegun, PSs.nox ?_, p_begun vs H Q E h⟩
  exact pss_one (ps_ret (pe_disp (pps_cons pe_str pe_int (pps_cons pe_str pe_dnewK pps_nil)) rfl rfl (by decide) (by decide)))
abbrev s__law_kept : Stmt := top 44
theorem sc__law_kept : FnScope N__law_kept ["holds", "parts", "pose"] (defScope s__law_kept) := ⟨rfl, rfl, rfl, by decide +kernel, rfl, by decide +kernel, by decide +kernel⟩
theorem ok__law_kept {P : Program} {w : World} {K : PySem.W.Frag} {mg : Str → Option Value} {base : Heap} {f : Addr} {fd : FuncData} (B : Bl mg) (F : FunD K "_law_kept" "_law_kept" (defArgs s__law_kept) (defBody s__law_kept) (defScope s__law_kept) [] [] f fd) (m : mg "_law_kept" = some (.ref f)) :
    FN P w K mg base 1 "_law_kept" ["holds", "parts", "pose"] [] (spD ⟨K, mg, P, w⟩ g__law_kept) :=
  okF (body := b__law_kept) F m sc__law_kept (fun _ _ _ _ _ _ us hl => match us, hl with | [_, _, _], _ => rfl) (fun n hn => nomatch hn) len__law_kept t__law_kept (fun C cdv A outer s H E hC0 hT0 hX hr =>
    (ds_cons (ds_for (T := (.nm 3)) hX.toFits PassesOwn.never (di_seq hX.toFits (de_var 2)) (dg_name (i := 3) hX.toFits) (ds_one (ds_if (dt_cmp op_gt cg_int (PE.b (de_callBS cr_len (cs_len hX.toFits) (by rfl) (hX.mg0 B.len) (by decide +kernel) (da_consB (PE.b (PE.f (df_lc (own := [("other", 4)]) (T := (.nm 4)) hX.toFits (di_seq hX.toFits (de_var 2)) (blkOk_by (N := N__law_kept) (sc := defScope s__law_kept) (by decide +kernel)) (fun _ _ _ _ _ => (dg_name (i := 4) hX.blk.toFits)) (fun _ _ _ _ _ => (dts_one (dt_cmp (or_eq hX.blk.toFits) (cg_eq hX.blk.toFits) (PE.b (de_var 4)) (PE.b (de_var 3)) (nomark _)))) (fun _ _ _ _ _ => (de_var 4))))) da_nilB))) (PE.b (de_ix ix_seq (og_ix hX.toFits) (de_ix ix_seq (og_ix hX.toFits) (de_var 0) (de_var 3)) de_int)) (nomark _)) (ds_one (ds_ret de_bl)) ds_nil)))
      (ds_cons (ds_for (T := (.tp [5, 4])) hX.toFits PassesOwn.never (di_seq hX.toFits (de_tup (da_cons (de_tup (da_cons de_int (da_cons de_int da_nil))) (da_cons (de_tup (da_cons de_int (da_cons de_int da_nil))) (da_cons (de_tup (da_cons de_int (da_cons de_int da_nil))) (da_cons (de_tup (da_cons de_int (da_cons de_int da_nil))) (da_cons (de_tup (da_cons de_int (da_cons de_int da_nil))) (da_cons (de_tup (da_cons de_int (da_cons de_int da_nil))) da_nil)))))))) (dg_tup (is := [5, 4]) hX.toFits (dgs_cons (i := 5) (dg_name (C := _) hX.toFits) (dgs_cons (i := 4) (dg_name (C := _) hX.toFits) dgs_nil))) (ds_cons (ds_par (i := 8) (j := 9) hX.toFits (ha := (dk_sh (de_ix ix_seq (og_ix hX.toFits) (de_var 0) (de_ix ix_seq (og_ix hX.toFits) (de_var 2) (de_var 5))) (dk_sh (de_ix ix_seq (og_ix hX.toFits) (de_var 0) (de_ix ix_seq (og_ix hX.toFits) (de_var 2) (de_var 4))) dk_nil))))
      (ds_cons (ds_set (i := 6) hX.toFits (de_if (dt_cmp (or_eq hX.toFits) (cg_eq hX.toFits) (PE.b (de_var 4)) (PE.b de_int) (nomark _)) (de_ix ix_seq (og_ix hX.toFits) (de_var 1) de_int) (de_if (dt_cmp (or_eq hX.toFits) (cg_eq hX.toFits) (PE.b (de_var 5)) (PE.b de_int) (nomark _)) (de_ix ix_seq (og_ix hX.toFits) (de_var 1) de_int) (de_ix ix_seq (og_ix hX.toFits) (de_var 1) de_int))))
      (ds_one (ds_for (T := (.nm 7)) hX.toFits PassesOwn.never (di_seq hX.toFits (de_tup (da_cons de_int (da_cons de_int da_nil)))) (dg_name (i := 7) hX.toFits) (ds_one (ds_if (L2.PW.pt (dw_or (dt_cmp op_gt cg_int (PE.b (de_bin op_sub og_sub (de_ix ix_seq (og_ix hX.toFits) (de_var 8) (de_var 7)) (de_ix ix_seq (og_ix hX.toFits) (de_var 9) (de_var 7)))) (PE.b (de_var 6)) (nomark _)) (dw_or1 (dt_cmp op_gt cg_int (PE.b (de_bin op_sub og_sub (de_ix ix_seq (og_ix hX.toFits) (de_var 9) (de_var 7)) (de_ix ix_seq (og_ix hX.toFits) (de_var 8) (de_var 7)))) (PE.b (de_var 6)) (nomark _))))) (ds_one (ds_ret de_bl)) ds_nil)))))))
      (ds_cons (ds_for (T := (.nm 10)) hX.toFits PassesOwn.never (di_seq hX.toFits (de_tup (da_cons de_int (da_cons de_int da_nil)))) (dg_name (i := 10) hX.toFits) (ds_one (ds_if (L2.PW.pt (dw_or (dt_cmp op_gt cg_int (PE.b (de_ix ix_seq (og_ix hX.toFits) (de_ix ix_seq (og_ix hX.toFits) (de_var 0) (de_ix ix_seq (og_ix hX.toFits) (de_var 2) (de_var 10))) de_int)) (PE.b (de_ix ix_seq (og_ix hX.toFits) (de_ix ix_seq (og_ix hX.toFits) (de_var 0) (de_ix ix_seq (og_ix hX.toFits) (de_var 2) de_int)) de_int)) (nomark _)) (dw_or1 (dt_cmp op_gt cg_int (PE.b (de_ix ix_seq (og_ix hX.toFits) (de_ix ix_seq (og_ix hX.toFits) (de_var 0) (de_ix ix_seq (og_ix hX.toFits) (de_var 2) (de_var 10))) de_int)) (PE.b (de_ix ix_seq (og_ix hX.toFits) (de_ix ix_seq (og_ix hX.toFits) (de_var 0) (de_ix ix_seq (og_ix hX.toFits) (de_var 2) de_int)) de_int)) (nomark _))))) (ds_one (ds_ret de_bl)) ds_nil)))
      (ds_cons (ds_for (T := (.nm 11)) hX.toFits PassesOwn.never (di_seq hX.toFits (de_tup (da_cons de_int (da_cons de_int da_nil)))) (dg_name (i := 11) hX.toFits) (ds_one (ds_if (dt_cmp op_gt cg_int (PE.b (de_ix ix_seq (og_ix hX.toFits) (de_ix ix_seq (og_ix hX.toFits) (de_var 0) (de_ix ix_seq (og_ix hX.toFits) (de_var 2) (de_var 11))) de_int)) (PE.b (de_bin or_add (og_add hX.toFits) (de_ix ix_seq (og_ix hX.toFits) (de_ix ix_seq (og_ix hX.toFits) (de_var 0) (de_ix ix_seq (og_ix hX.toFits) (de_var 2) (de_bin or_add (og_add hX.toFits) (de_var 11) de_int))) de_int) (de_ix ix_seq (og_ix hX.toFits) (de_var 1) de_int))) (nomark _)) (ds_one (ds_ret de_bl)) ds_nil)))
      (ds_one (ds_ret de_bl)))))))
abbrev s__law_near : Stmt := top 46
theorem sc__law_near : FnScope N__law_near ["rows", "pose"] (defScope s__law_near) := ⟨rfl, rfl, rfl, by decide +kernel, rfl, by decide +kernel, by decide +kernel⟩
theorem ok__law_near {P : Program} {w : World} {K : PySem.W.Frag} {mg : Str → Option Value} {base : Heap} {f : Addr} {fd : FuncData} (B : Bl mg) (F : FunD K "_law_near" "_law_near" (defArgs s__law_near) (defBody s__law_near) (defScope s__law_near) [] [] f fd) (m : mg "_law_near" = some (.ref f)) :
    FN P w K mg base 1 "_law_near" ["rows", "pose"] [] (spD ⟨K, mg, P, w⟩ g__law_near) :=
  okF (body := b__law_near) F m sc__law_near (fun _ _ _ _ _ _ us hl => match us, hl with | [_, _], _ => rfl) (fun n hn => nomatch hn) len__law_near t__law_near (fun C cdv A outer s H E hC0 hT0 hX hr =>
    (ds_cons (ds_own (i := 2) hX.toFits (df_lst da_nil))
      (ds_cons (ds_for (T := (.nm 3)) hX.toFits PassesOwn.never (di_seq hX.toFits (de_var 0)) (dg_name (i := 3) hX.toFits) (ds_one (ds_if (dt_cmp (or_eq hX.toFits) (cg_eq hX.toFits) (PE.b (de_callBS cr_len (cs_len hX.toFits) (by rfl) (hX.mg0 B.len) (by decide +kernel) (da_consB (PE.b (PE.f (df_lc (own := [("mine", 4), ("yours", 5)]) (T := (.tp [4, 5])) hX.toFits (di_zip hX.toFits (by rfl) (hX.mg0 B.zip) (da_cons (de_var 3) (da_cons (de_var 1) da_nil))) (blkOk_by (N := N__law_near) (sc := defScope s__law_near) (by decide +kernel)) (fun _ _ _ _ _ => (dg_tup (is := [4, 5]) hX.blk.toFits (dgs_cons (i := 4) (dg_name (C := _) hX.blk.toFits) (dgs_cons (i := 5) (dg_name (C := _) hX.blk.toFits) dgs_nil)))) (fun _ _ _ _ _ => (dts_one (dt_cmp (or_ne hX.blk.toFits) (cg_ne hX.blk.toFits) (PE.b (de_var 4)) (PE.b (de_var 5)) (nomark _)))) (fun _ _ _ _ _ => de_int)))) da_nilB))) (PE.b de_int) (nomark _)) (ds_one (ds_app (i := 2) (de_var 3))) ds_nil)))
      (ds_one (ds_retO (i := 2))))))
abbrev s_are_between : Stmt := top 13
theorem sc_are_between : FnScope N_are_between ["value", "many", "low", "high"] (defScope s_are_between) := ⟨rfl, rfl, rfl, by decide +kernel, rfl, by decide +kernel, by decide +kernel⟩
theorem ok_are_between {P : Program} {w : World} {K : PySem.W.Frag} {mg : Str → Option Value} {base : Heap} {f : Addr} {fd : FuncData} (B : Bl mg) (F : FunD K "are_between" "are_between" (defArgs s_are_between) (defBody s_are_between) (defScope s_are_between) [] [] f fd) (m : mg "are_between" = some (.ref f)) (h_is_between : FN P w K mg base 1 "is_between" ["value", "low", "high"] [] (spD ⟨K, mg, P, w⟩ g_is_between)) :
    FN P w K mg base 2 "are_between" ["value", "many", "low", "high"] [] (spD ⟨K, mg, P, w⟩ g_are_between) :=
  okF (body := b_are_between) F m sc_are_between (fun _ _ _ _ _ _ us hl => match us, hl with | [_, _, _, _], _ => rfl) (fun n hn => nomatch hn) len_are_between t_are_between (fun C cdv A outer s H E hC0 hT0 hX hr =>
    (ds_one (ds_ret (de_and (de_isi (T := "tuple") hX.toFits (.inr (.inr (.inr rfl))) (PE.b (de_var 0)) (hX.mg0 B.isinstance) (hX.mg0 B.tuple) (by decide +kernel)) (de_and (de_cmp (or_eq hX.toFits) (cg_eq hX.toFits) (PE.b (de_callBS cr_len (cs_len hX.toFits) (by rfl) (hX.mg0 B.len) (by decide +kernel) (da_consB (PE.b (de_var 0)) da_nilB))) (PE.b (de_var 1)) (nomark _)) (de_one (de_callBS (cr_all hX.toFits.calm) (cs_all hX.toFits) (by rfl) (hX.mg0 B.all) (by decide +kernel) (da_consB (PE.b (PE.f (df_lc (own := [("one", 4)]) (T := (.nm 4)) hX.toFits (di_seq hX.toFits (de_var 0)) (blkOk_by (N := N_are_between) (sc := defScope s_are_between) (by decide +kernel)) (fun _ _ _ _ _ => (dg_name (i := 4) hX.blk.toFits)) (fun _ _ _ _ _ => dts_nil) (fun _ _ _ _ _ => (fc_call hX.blk h_is_between (hr.mono (by decide)) (da_consB (PE.b (de_var 4)) (da_consB (PE.b (de_var 2)) (da_consB (PE.b (de_var 3)) da_nilB)))))))) da_nilB))))))))
abbrev s_check_hold : Stmt := top 20
theorem sc_check_hold : FnScope N_check_hold ["rock", "hold"] (defScope s_check_hold) := ⟨rfl, rfl, rfl, by decide +kernel, rfl, by decide +kernel, by decide +kernel⟩
theorem ok_check_hold {P : Program} {w : World} {K : PySem.W.Frag} {mg : Str → Option Value} {base : Heap} {f : Addr} {fd : FuncData} (B : Bl mg) (F : FunD K "check_hold" "check_hold" (defArgs s_check_hold) (defBody s_check_hold) (defScope s_check_hold) [] [] f fd) (m : mg "check_hold" = some (.ref f)) (h_is_between : FN P w K mg base 1 "is_between" ["value", "low", "high"] [] (spD ⟨K, mg, P, w⟩ g_is_between)) :
    FN P w K mg base 2 "check_hold" ["rock", "hold"] [] (spD ⟨K, mg, P, w⟩ g_check_hold) :=
  okF (body := (b_check_hold (fun _ => False))) F m sc_check_hold (fun _ _ _ _ _ _ us hl => match us, hl with | [_, _], _ => rfl) (fun n hn => nomatch hn) len_check_hold (fun ds Q => t_check_hold ds Q (fun _ => False)) (fun C cdv A outer s H E hC0 hT0 hX hr =>
    (ds_one (ds_if (dt_not (dt_val (PE.b (fc_call hX h_is_between (hr.mono (by decide)) (da_consB (PE.b (de_var 1)) (da_consB (PE.b de_int) (da_consB (PE.b (de_bin op_sub og_sub (de_callBS cr_len (cs_len hX.toFits) (by rfl) (hX.mg0 B.len) (by decide +kernel) (da_consB (PE.b (de_var 0)) da_nilB)) de_int)) da_nilB))))))) (ds_one ds_never) ds_nil)))
theorem okx_check_hold {P : Program} {w : World} {K : PySem.W.Frag} {mg : Str → Option Value} {base : Heap} {f : Addr} {fd : FuncData} (B : Bl mg) (F : FunD K "check_hold" "check_hold" (defArgs s_check_hold) (defBody s_check_hold) (defScope s_check_hold) [] [] f fd) (m : mg "check_hold" = some (.ref f)) (h_is_between : FN P w K mg base 1 "is_between" ["value", "low", "high"] [] (spD ⟨K, mg, P, w⟩ g_is_between)) (e_InvalidHold : ExF K mg "InvalidHold") :
    FNX P w K mg base 2 "check_hold" ["rock", "hold"] [] (spX ⟨K, mg, P, w⟩ g_check_hold) :=
  okX (body := b_check_hold) F m sc_check_hold (fun _ _ _ _ _ _ us hl => match us, hl with | [_, _], _ => rfl) (fun n hn => nomatch hn) len_check_hold t_check_hold (fun Ee C cdv A outer s H E hC0 hT0 hX hE hr =>
    (ds_one (ds_if (dt_not (dt_val (PE.b (fc_call hX h_is_between (hr.mono (by decide)) (da_consB (PE.b (de_var 1)) (da_consB (PE.b de_int) (da_consB (PE.b (de_bin op_sub og_sub (de_callBS cr_len (cs_len hX.toFits) (by rfl) (hX.mg0 B.len) (by decide +kernel) (da_consB (PE.b (de_var 0)) da_nilB)) de_int)) da_nilB))))))) (ds_one (ds_raise hX hE e_InvalidHold)) ds_nil)))
abbrev s_is_kept : Stmt := top 24
theorem sc_is_kept : FnScope N_is_kept ["rock", "body", "stance"] (defScope s_is_kept) := ⟨rfl, rfl, rfl, by decide +kernel, rfl, by decide +kernel, by decide +kernel⟩
theorem ok_is_kept {P : Program} {w : World} {K : PySem.W.Frag} {mg : Str → Option Value} {base : Heap} {f : Addr} {fd : FuncData} (B : Bl mg) (F : FunD K "is_kept" "is_kept" (defArgs s_is_kept) (defBody s_is_kept) (defScope s_is_kept) [] [] f fd) (m : mg "is_kept" = some (.ref f)) (h_apart_by : FN P w K mg base 1 "apart_by" ["rock", "one", "other"] [] (spD ⟨K, mg, P, w⟩ g_apart_by)) (h_have_room : FN P w K mg base 1 "have_room" ["rock", "stance"] [] (spD ⟨K, mg, P, w⟩ g_have_room)) (h_are_sorted : FN P w K mg base 1 "are_sorted" ["rock", "left", "right", "cross"] [] (spD ⟨K, mg, P, w⟩ g_are_sorted)) :
    FN P w K mg base 2 "is_kept" ["rock", "body", "stance"] [] (spD ⟨K, mg, P, w⟩ g_is_kept) :=
  okF (body := b_is_kept) F m sc_is_kept (fun _ _ _ _ _ _ us hl => match us, hl with | [_, _, _], _ => rfl) (fun n hn => nomatch hn) len_is_kept t_is_kept (fun C cdv A outer s H E hC0 hT0 hX hr =>
    (ds_cons (ds_unp (T := (.tp [3, 4, 5, 6])) (de_var 2) (dg_tup (is := [3, 4, 5, 6]) hX.toFits (dgs_cons (i := 3) (dg_name (C := _) hX.toFits) (dgs_cons (i := 4) (dg_name (C := _) hX.toFits) (dgs_cons (i := 5) (dg_name (C := _) hX.toFits) (dgs_cons (i := 6) (dg_name (C := _) hX.toFits) dgs_nil))))))
      (ds_cons (ds_unp (T := (.tp [7, 8, 9, 10])) (de_var 1) (dg_tup (is := [7, 8, 9, 10]) hX.toFits (dgs_cons (i := 7) (dg_name (C := _) hX.toFits) (dgs_cons (i := 8) (dg_name (C := _) hX.toFits) (dgs_cons (i := 9) (dg_name (C := _) hX.toFits) (dgs_cons (i := 10) (dg_name (C := _) hX.toFits) dgs_nil))))))
      (ds_cons (ds_if (L2.PW.pt (dw_or (dt_not (dt_val (PE.b (fc_call hX h_have_room (hr.mono (by decide)) (da_consB (PE.b (de_var 0)) (da_consB (PE.b (de_var 2)) da_nilB)))))) (dw_or (dt_cmp op_gt cg_int (PE.b (fc_call hX h_apart_by (hr.mono (by decide)) (da_consB (PE.b (de_var 0)) (da_consB (PE.b (de_var 3)) (da_consB (PE.b (de_var 4)) da_nilB))))) (PE.b (de_var 7)) (nomark _)) (dw_or1 (dt_cmp op_gt cg_int (PE.b (fc_call hX h_apart_by (hr.mono (by decide)) (da_consB (PE.b (de_var 0)) (da_consB (PE.b (de_var 5)) (da_consB (PE.b (de_var 6)) da_nilB))))) (PE.b (de_var 8)) (nomark _)))))) (ds_one (ds_ret de_bl)) ds_nil)
      (ds_cons (ds_for (T := (.nm 11)) hX.toFits PassesOwn.never (di_seq hX.toFits (de_tup (da_cons (de_var 3) (da_cons (de_var 4) da_nil)))) (dg_name (i := 11) hX.toFits) (ds_one (ds_for (T := (.nm 12)) hX.toFits PassesOwn.never (di_seq hX.toFits (de_tup (da_cons (de_var 5) (da_cons (de_var 6) da_nil)))) (dg_name (i := 12) hX.toFits) (ds_one (ds_if (L2.PW.pt (dw_or (dt_cmp op_gt cg_int (PE.b (fc_call hX h_apart_by (hr.mono (by decide)) (da_consB (PE.b (de_var 0)) (da_consB (PE.b (de_var 11)) (da_consB (PE.b (de_var 12)) da_nilB))))) (PE.b (de_var 9)) (nomark _)) (dw_or1 (dt_cmp op_gt cg_int (PE.b (de_ix ix_seq (og_ix hX.toFits) (de_ix ix_seq (og_ix hX.toFits) (de_var 0) (de_var 12)) de_int)) (PE.b (de_ix ix_seq (og_ix hX.toFits) (de_ix ix_seq (og_ix hX.toFits) (de_var 0) (de_var 11)) de_int)) (nomark _))))) (ds_one (ds_ret de_bl)) ds_nil)))))
      (ds_one (ds_ret (de_and (fc_call hX h_are_sorted (hr.mono (by decide)) (da_consB (PE.b (de_var 0)) (da_consB (PE.b (de_var 3)) (da_consB (PE.b (de_var 4)) (da_consB (PE.b (de_var 10)) da_nilB))))) (de_one (fc_call hX h_are_sorted (hr.mono (by decide)) (da_consB (PE.b (de_var 0)) (da_consB (PE.b (de_var 5)) (da_consB (PE.b (de_var 6)) (da_consB (PE.b (de_var 10)) da_nilB))))))))))))))
abbrev s__law_rock : Stmt := top 42
theorem sc__law_rock : FnScope N__law_rock ["script", "town", "most"] (defScope s__law_rock) := ⟨rfl, rfl, rfl, by decide +kernel, rfl, by decide +kernel, by decide +kernel⟩
theorem ok__law_rock {P : Program} {w : World} {K : PySem.W.Frag} {mg : Str → Option Value} {base : Heap} {f : Addr} {fd : FuncData} (B : Bl mg) (F : FunD K "_law_rock" "_law_rock" (defArgs s__law_rock) (defBody s__law_rock) (defScope s__law_rock) [] [] f fd) (m : mg "_law_rock" = some (.ref f)) (h__law_draw : FN P w K mg base 1 "_law_draw" ["script", "town", "many"] [] (spT ⟨K, mg, P, w⟩ g__law_draw)) :
    FN P w K mg base 2 "_law_rock" ["script", "town", "most"] [] (spT ⟨K, mg, P, w⟩ g__law_rock) :=
  okT (body := b__law_rock) F m sc__law_rock (fun _ _ _ _ _ _ us hl => match us, hl with | [_, _, _], _ => rfl) (fun n hn => nomatch hn) len__law_rock t__law_rock (fun C cdv A outer s H E hX hr =>
    (ds_cons (ds_own (i := 3) hX.toFits (df_lst da_nil))
      (ds_cons (ds_for (T := (.nm 4)) hX.toFits PassesOwn.never (di_range (by rfl) (hX.mg0 B.range) (da_cons (de_bin or_add (og_add hX.toFits) de_int (fc_town hX h__law_draw (hr.mono (by decide)) (da_town (i := 1) (de_var 0) (da_cons (de_var 2) da_nil)))) da_nil)) (dg_name (i := 4) hX.toFits) (ds_cons (ds_unp (T := (.tp [5, 6])) (de_tup (da_cons (de_bin or_add (og_add hX.toFits) de_int (fc_town hX h__law_draw (hr.mono (by decide)) (da_town (i := 1) (de_var 0) (da_cons de_int da_nil)))) (da_cons (fc_town hX h__law_draw (hr.mono (by decide)) (da_town (i := 1) (de_var 0) (da_cons de_int da_nil))) da_nil))) (dg_tup (is := [5, 6]) hX.toFits (dgs_cons (i := 5) (dg_name (C := _) hX.toFits) (dgs_cons (i := 6) (dg_name (C := _) hX.toFits) dgs_nil))))
      (ds_one (ds_if (dt_thaw (i := 3) (dt_cmp (or_eq hX.toFits) (cg_eq hX.toFits) (PE.b (PE.f (df_lc (own := [("one", 7)]) (T := (.nm 7)) hX.toFits (di_seq hX.toFits (de_var 3)) (blkOk_by (N := N__law_rock) (sc := defScope s__law_rock) (by decide +kernel)) (fun _ _ _ _ _ => (dg_name (i := 7) hX.blk.toFits)) (fun _ _ _ _ _ => (dts_one (dt_cmp (or_eq hX.blk.toFits) (cg_eq hX.blk.toFits) (PE.b (de_slice sr_all (sg_all hX.blk.toFits) (de_var 7) do_none (do_some de_int))) (PE.b (de_tup (da_cons (de_var 5) (da_cons (de_var 6) da_nil)))) (nomark _)))) (fun _ _ _ _ _ => (de_var 7))))) (PE.b (PE.f (df_lst da_nil))) (nomark _))) (ds_one (ds_app (i := 3) (de_tup (da_cons (de_var 5) (da_cons (de_var 6) (da_cons (de_bin or_add (og_add hX.toFits) de_int (de_if (dt_cmp op_gt cg_int (PE.b (fc_town hX h__law_draw (hr.mono (by decide)) (da_town (i := 1) (de_var 0) (da_cons de_int da_nil)))) (PE.b de_int) (nomark _)) de_int de_int)) da_nil)))))) ds_nil))))
      (ds_one (ds_frz (i := 3) (ds_ret (de_callTy cr_tupF (cg_tup hX.toFits) (by rfl) (hX.mg0 B.tuple) (by decide +kernel) (da_cons (de_var 3) da_nil))))))))
abbrev s__law_body : Stmt := top 43
theorem sc__law_body : FnScope N__law_body ["script", "town"] (defScope s__law_body) := ⟨rfl, rfl, rfl, by decide +kernel, rfl, by decide +kernel, by decide +kernel⟩
theorem ok__law_body {P : Program} {w : World} {K : PySem.W.Frag} {mg : Str → Option Value} {base : Heap} {f : Addr} {fd : FuncData} (B : Bl mg) (F : FunD K "_law_body" "_law_body" (defArgs s__law_body) (defBody s__law_body) (defScope s__law_body) [] [] f fd) (m : mg "_law_body" = some (.ref f)) (h__law_draw : FN P w K mg base 1 "_law_draw" ["script", "town", "many"] [] (spT ⟨K, mg, P, w⟩ g__law_draw)) :
    FN P w K mg base 2 "_law_body" ["script", "town"] [] (spT ⟨K, mg, P, w⟩ g__law_body) :=
  okT (body := b__law_body) F m sc__law_body (fun _ _ _ _ _ _ us hl => match us, hl with | [_, _], _ => rfl) (fun n hn => nomatch hn) len__law_body t__law_body (fun C cdv A outer s H E hX hr =>
    (ds_cons (ds_set (i := 2) hX.toFits (de_bin or_add (og_add hX.toFits) de_int (fc_town hX h__law_draw (hr.mono (by decide)) (da_town (i := 1) (de_var 0) (da_cons de_int da_nil)))))
      (ds_cons (ds_set (i := 3) hX.toFits (de_bin or_add (og_add hX.toFits) de_int (fc_town hX h__law_draw (hr.mono (by decide)) (da_town (i := 1) (de_var 0) (da_cons de_int da_nil)))))
      (ds_cons (ds_set (i := 4) hX.toFits (de_bin or_add (og_add hX.toFits) de_int (fc_town hX h__law_draw (hr.mono (by decide)) (da_town (i := 1) (de_var 0) (da_cons de_int da_nil)))))
      (ds_one (ds_ret (de_tup (da_cons (de_var 2) (da_cons (de_var 3) (da_cons (de_var 4) (da_cons (fc_town hX h__law_draw (hr.mono (by decide)) (da_town (i := 1) (de_var 0) (da_cons de_int da_nil))) da_nil)))))))))))
abbrev s__law_all : Stmt := top 45
theorem sc__law_all : FnScope N__law_all ["holds", "parts"] (defScope s__law_all) := ⟨rfl, rfl, rfl, by decide +kernel, rfl, by decide +kernel, by decide +kernel⟩
theorem ok__law_all {P : Program} {w : World} {K : PySem.W.Frag} {mg : Str → Option Value} {base : Heap} {f : Addr} {fd : FuncData} (B : Bl mg) (F : FunD K "_law_all" "_law_all" (defArgs s__law_all) (defBody s__law_all) (defScope s__law_all) [] [] f fd) (m : mg "_law_all" = some (.ref f)) (h__law_kept : FN P w K mg base 1 "_law_kept" ["holds", "parts", "pose"] [] (spD ⟨K, mg, P, w⟩ g__law_kept)) :
    FN P w K mg base 2 "_law_all" ["holds", "parts"] [] (spD ⟨K, mg, P, w⟩ g__law_all) :=
  okF (body := b__law_all) F m sc__law_all (fun _ _ _ _ _ _ us hl => match us, hl with | [_, _], _ => rfl) (fun n hn => nomatch hn) len__law_all t__law_all (fun C cdv A outer s H E hC0 hT0 hX hr =>
    (ds_cons (ds_par (i := 2) (j := 3) hX.toFits (ha := (dk_own (df_lst da_nil) (dk_sh (de_lstRg hX.toFits (hX.mg0 B.list) (hX.mg0 B.range) (de_callBS cr_len (cs_len hX.toFits) (by rfl) (hX.mg0 B.len) (by decide +kernel) (da_consB (PE.b (de_var 0)) da_nilB))) dk_nil))))
      (ds_cons (ds_for (T := (.nm 4)) hX.toFits PassesOwn.never (di_seq hX.toFits (de_var 3)) (dg_name (i := 4) hX.toFits) (ds_one (ds_for (T := (.nm 5)) hX.toFits PassesOwn.never (di_seq hX.toFits (de_var 3)) (dg_name (i := 5) hX.toFits) (ds_one (ds_for (T := (.nm 6)) hX.toFits PassesOwn.never (di_seq hX.toFits (de_var 3)) (dg_name (i := 6) hX.toFits) (ds_one (ds_for (T := (.nm 7)) hX.toFits PassesOwn.never (di_seq hX.toFits (de_var 3)) (dg_name (i := 7) hX.toFits) (ds_one (ds_if (dt_val (PE.b (fc_call hX h__law_kept (hr.mono (by decide)) (da_consB (PE.b (de_var 0)) (da_consB (PE.b (de_var 1)) (da_consB (PE.b (de_tup (da_cons (de_var 4) (da_cons (de_var 5) (da_cons (de_var 6) (da_cons (de_var 7) da_nil)))))) da_nilB)))))) (ds_one (ds_app (i := 2) (de_tup (da_cons (de_var 4) (da_cons (de_var 5) (da_cons (de_var 6) (da_cons (de_var 7) da_nil))))))) ds_nil)))))))))
      (ds_one (ds_retO (i := 2))))))
abbrev s__law_levels : Stmt := top 47
theorem sc__law_levels : FnScope N__law_levels ["rows", "begin"] (defScope s__law_levels) := ⟨rfl, rfl, rfl, by decide +kernel, rfl, by decide +kernel, by decide +kernel⟩
theorem ok__law_levels {P : Program} {w : World} {K : PySem.W.Frag} {mg : Str → Option Value} {base : Heap} {f : Addr} {fd : FuncData} (B : Bl mg) (F : FunD K "_law_levels" "_law_levels" (defArgs s__law_levels) (defBody s__law_levels) (defScope s__law_levels) [] [] f fd) (m : mg "_law_levels" = some (.ref f)) (h__law_near : FN P w K mg base 1 "_law_near" ["rows", "pose"] [] (spD ⟨K, mg, P, w⟩ g__law_near)) :
    FN P w K mg base 2 "_law_levels" ["rows", "begin"] [] (spD ⟨K, mg, P, w⟩ g__law_levels) :=
  okF (body := b__law_levels) F m sc__law_levels (fun _ _ _ _ _ _ us hl => match us, hl with | [_, _], _ => rfl) (fun n hn => nomatch hn) len__law_levels t__law_levels (fun C cdv A outer s H E hC0 hT0 hX hr =>
    (ds_cons (ds_par3 (i := 2) (j := 3) (l := 4) hX.toFits (ha := (dk_own (df_dct1 hX.toFits (de_var 1) de_int) (dk_sh (PE.f (df_lst (da_cons (de_var 1) da_nil))) (dk_sh de_int dk_nil)))))
      (ds_cons (ds_while PassesOwn.never (dt_cmp (or_ne hX.toFits) (cg_ne hX.toFits) (PE.b (de_var 3)) (PE.b (PE.f (df_lst da_nil))) (nomark _)) (ds_cons (ds_par (i := 6) (j := 4) hX.toFits (ha := (dk_own (df_lst da_nil) (dk_sh (de_bin or_add (og_add hX.toFits) (de_var 4) de_int) dk_nil))))
      (ds_cons (ds_for (T := (.nm 5)) hX.toFits PassesOwn.never (di_seqE hX.toFits (de_var 3)) (dg_name (i := 5) hX.toFits) (ds_one (ds_for (T := (.nm 7)) hX.toFits PassesOwn.never (di_seqE hX.toFits (fc_call hX h__law_near (hr.mono (by decide)) (da_consB (PE.b (de_var 0)) (da_consB (PE.b (de_var 5)) da_nilB)))) (dg_name (i := 7) hX.toFits) (ds_one (ds_if (dt_cmp (or_notInE hX.toFits) (cg_notInE hX.toFits) (PE.b (de_var 7)) (de_varB 2) (by rfl)) (ds_cons (ds_put (i := 2) hX.toFits hT0 (de_var 7) (de_var 4))
      (ds_one (ds_app (i := 6) (de_var 7)))) ds_nil)))))
      (ds_one (ds_frz (i := 6) (ds_set (i := 3) hX.toFits (de_var 6)))))))
      (ds_one (ds_retO (i := 2))))))
abbrev s__law_barrier : Stmt := top 48
theorem sc__law_barrier : FnScope N__law_barrier ["rows", "begin", "top_here", "value_here"] (defScope s__law_barrier) := ⟨rfl, rfl, rfl, by decide +kernel, rfl, by decide +kernel, by decide +kernel⟩
theorem ok__law_barrier {P : Program} {w : World} {K : PySem.W.Frag} {mg : Str → Option Value} {base : Heap} {f : Addr} {fd : FuncData} (B : Bl mg) (F : FunD K "_law_barrier" "_law_barrier" (defArgs s__law_barrier) (defBody s__law_barrier) (defScope s__law_barrier) [] [] f fd) (m : mg "_law_barrier" = some (.ref f)) (h__law_near : FN P w K mg base 1 "_law_near" ["rows", "pose"] [] (spD ⟨K, mg, P, w⟩ g__law_near)) :
    FN P w K mg base 2 "_law_barrier" ["rows", "begin", "top_here", "value_here"] [] (spD ⟨K, mg, P, w⟩ g__law_barrier) :=
  okF (body := b__law_barrier) F m sc__law_barrier (fun _ _ _ _ _ _ us hl => match us, hl with | [_, _, _, _], _ => rfl) (fun n hn => nomatch hn) len__law_barrier t__law_barrier (fun C cdv A outer s H E hC0 hT0 hX hr =>
    (ds_cons (ds_if (dt_cmp (or_notIn hX.toFits) (cg_notIn hX.toFits) (PE.b (de_var 1)) (PE.b (de_var 3)) (by rfl)) (ds_one (ds_ret de_bl)) ds_nil)
      (ds_cons (ds_if (dt_cmp (or_ne hX.toFits) (cg_ne hX.toFits) (PE.b (de_callTy call_list_of (cg_list hX.toFits) (by rfl) (hX.mg0 B.list) (by decide +kernel) (da_cons (de_var 3) da_nil))) (PE.b (PE.f (df_sortSet hX.toFits (de_var 3) (hX.mg0 B.sorted) (hX.mg0 B.set)))) (nomark _)) (ds_one (ds_ret de_bl)) ds_nil)
      (ds_cons (ds_if (dt_cmp (or_ne hX.toFits) (cg_ne hX.toFits) (PE.b (PE.f (df_lc (own := [("row", 4)]) (T := (.nm 4)) hX.toFits (di_seq hX.toFits (de_var 3)) (blkOk_by (N := N__law_barrier) (sc := defScope s__law_barrier) (by decide +kernel)) (fun _ _ _ _ _ => (dg_name (i := 4) hX.blk.toFits)) (fun _ _ _ _ _ => (dts_one (dt_cmp (or_in hX.blk.toFits) (cg_in hX.blk.toFits) (PE.b (de_var 2)) (PE.b (de_slice sr_all (sg_all hX.blk.toFits) (de_var 4) do_none (do_some de_int))) (by rfl)))) (fun _ _ _ _ _ => (de_var 4))))) (PE.b (PE.f (df_lst da_nil))) (nomark _)) (ds_one (ds_ret de_bl)) ds_nil)
      (ds_cons (ds_for (T := (.nm 4)) hX.toFits PassesOwn.never (di_seq hX.toFits (de_var 3)) (dg_name (i := 4) hX.toFits) (ds_one (ds_if (dt_cmp (or_ne hX.toFits) (cg_ne hX.toFits) (PE.b (PE.f (df_lc (own := [("there", 5)]) (T := (.nm 5)) hX.toFits (di_seq hX.toFits (fc_call hX h__law_near (hr.mono (by decide)) (da_consB (PE.b (de_var 0)) (da_consB (PE.b (de_var 4)) da_nilB)))) (blkOk_by (N := N__law_barrier) (sc := defScope s__law_barrier) (by decide +kernel)) (fun _ _ _ _ _ => (dg_name (i := 5) hX.blk.toFits)) (fun _ _ _ _ _ => (dts_one (dt_cmp (or_notIn hX.blk.toFits) (cg_notIn hX.blk.toFits) (PE.b (de_var 5)) (PE.b (de_var 3)) (by rfl)))) (fun _ _ _ _ _ => (de_var 5))))) (PE.b (PE.f (df_lst da_nil))) (nomark _)) (ds_one (ds_ret de_bl)) ds_nil)))
      (ds_one (ds_ret de_bl)))))))
abbrev s_is_hold : Stmt := top 14
theorem sc_is_hold : FnScope N_is_hold ["value"] (defScope s_is_hold) := ⟨rfl, rfl, rfl, by decide +kernel, rfl, by decide +kernel, by decide +kernel⟩
theorem ok_is_hold {P : Program} {w : World} {K : PySem.W.Frag} {mg : Str → Option Value} {base : Heap} {f : Addr} {fd : FuncData} (B : Bl mg) (F : FunD K "is_hold" "is_hold" (defArgs s_is_hold) (defBody s_is_hold) (defScope s_is_hold) [] [] f fd) (m : mg "is_hold" = some (.ref f)) (h_are_between : FN P w K mg base 2 "are_between" ["value", "many", "low", "high"] [] (spD ⟨K, mg, P, w⟩ g_are_between)) :
    FN P w K mg base 3 "is_hold" ["value"] [] (spD ⟨K, mg, P, w⟩ g_is_hold) :=
  okF (body := b_is_hold) F m sc_is_hold (fun _ _ _ _ _ _ us hl => match us, hl with | [_], _ => rfl) (fun n hn => nomatch hn) len_is_hold t_is_hold (fun C cdv A outer s H E hC0 hT0 hX hr =>
    (ds_one (ds_ret (de_and (fc_call hX h_are_between (hr.mono (by decide)) (da_consB (PE.b (de_var 0)) (da_consB (PE.b de_int) (da_consB (PE.b de_int) (da_consB (PE.b de_int) da_nilB))))) (de_one (de_chain op_le op_le cg_int cg_int (PE.b de_int) (PE.b (de_ix ix_seq (og_ix hX.toFits) (de_var 0) de_int)) (PE.b de_int) (by with_unfolding_all rfl)))))))
abbrev s_is_body : Stmt := top 16
theorem sc_is_body : FnScope N_is_body ["value"] (defScope s_is_body) := ⟨rfl, rfl, rfl, by decide +kernel, rfl, by decide +kernel, by decide +kernel⟩
theorem ok_is_body {P : Program} {w : World} {K : PySem.W.Frag} {mg : Str → Option Value} {base : Heap} {f : Addr} {fd : FuncData} (B : Bl mg) (F : FunD K "is_body" "is_body" (defArgs s_is_body) (defBody s_is_body) (defScope s_is_body) [] [] f fd) (m : mg "is_body" = some (.ref f)) (h_are_between : FN P w K mg base 2 "are_between" ["value", "many", "low", "high"] [] (spD ⟨K, mg, P, w⟩ g_are_between)) :
    FN P w K mg base 3 "is_body" ["value"] [] (spD ⟨K, mg, P, w⟩ g_is_body) :=
  okF (body := b_is_body) F m sc_is_body (fun _ _ _ _ _ _ us hl => match us, hl with | [_], _ => rfl) (fun n hn => nomatch hn) len_is_body t_is_body (fun C cdv A outer s H E hC0 hT0 hX hr =>
    (ds_one (ds_ret (fc_call hX h_are_between (hr.mono (by decide)) (da_consB (PE.b (de_var 0)) (da_consB (PE.b de_int) (da_consB (PE.b de_int) (da_consB (PE.b de_int) da_nilB))))))))
abbrev s_is_good_one : Stmt := top 25
theorem sc_is_good_one : FnScope N_is_good_one ["rock", "body", "value"] (defScope s_is_good_one) := ⟨rfl, rfl, rfl, by decide +kernel, rfl, by decide +kernel, by decide +kernel⟩
theorem ok_is_good_one {P : Program} {w : World} {K : PySem.W.Frag} {mg : Str → Option Value} {base : Heap} {f : Addr} {fd : FuncData} (B : Bl mg) (F : FunD K "is_good_one" "is_good_one" (defArgs s_is_good_one) (defBody s_is_good_one) (defScope s_is_good_one) [] [] f fd) (m : mg "is_good_one" = some (.ref f)) (h_is_kept : FN P w K mg base 2 "is_kept" ["rock", "body", "stance"] [] (spD ⟨K, mg, P, w⟩ g_is_kept)) (h_are_between : FN P w K mg base 2 "are_between" ["value", "many", "low", "high"] [] (spD ⟨K, mg, P, w⟩ g_are_between)) :
    FN P w K mg base 3 "is_good_one" ["rock", "body", "value"] [] (spD ⟨K, mg, P, w⟩ g_is_good_one) :=
  okF (body := b_is_good_one) F m sc_is_good_one (fun _ _ _ _ _ _ us hl => match us, hl with | [_, _, _], _ => rfl) (fun n hn => nomatch hn) len_is_good_one t_is_good_one (fun C cdv A outer s H E hC0 hT0 hX hr =>
    (ds_one (ds_ret (de_and (fc_call hX h_are_between (hr.mono (by decide)) (da_consB (PE.b (de_var 2)) (da_consB (PE.b de_int) (da_consB (PE.b de_int) (da_consB (PE.b (de_bin op_sub og_sub (de_callBS cr_len (cs_len hX.toFits) (by rfl) (hX.mg0 B.len) (by decide +kernel) (da_consB (PE.b (de_var 0)) da_nilB)) de_int)) da_nilB))))) (de_one (fc_call hX h_is_kept (hr.mono (by decide)) (da_consB (PE.b (de_var 0)) (da_consB (PE.b (de_var 1)) (da_consB (PE.b (de_var 2)) da_nilB)))))))))
abbrev s_next_stances : Stmt := top 29
theorem sc_next_stances : FnScope N_next_stances ["rock", "body", "stance"] (defScope s_next_stances) := ⟨rfl, rfl, rfl, by decide +kernel, rfl, by decide +kernel, by decide +kernel⟩
theorem ok_next_stances {P : Program} {w : World} {K : PySem.W.Frag} {mg : Str → Option Value} {base : Heap} {f : Addr} {fd : FuncData} (B : Bl mg) (F : FunD K "next_stances" "next_stances" (defArgs s_next_stances) (defBody s_next_stances) (defScope s_next_stances) [] [] f fd) (m : mg "next_stances" = some (.ref f)) (h_changed : FN P w K mg base 1 "changed" ["stance", "limb", "hold"] [] (spD ⟨K, mg, P, w⟩ g_changed)) (h_is_kept : FN P w K mg base 2 "is_kept" ["rock", "body", "stance"] [] (spD ⟨K, mg, P, w⟩ g_is_kept)) :
    FN P w K mg base 3 "next_stances" ["rock", "body", "stance"] [] (spD ⟨K, mg, P, w⟩ g_next_stances) :=
  okF (body := b_next_stances) F m sc_next_stances (fun _ _ _ _ _ _ us hl => match us, hl with | [_, _, _], _ => rfl) (fun n hn => nomatch hn) len_next_stances t_next_stances (fun C cdv A outer s H E hC0 hT0 hX hr =>
    (ds_cons (ds_own (i := 3) hX.toFits (df_lst da_nil))
      (ds_cons (ds_for (T := (.nm 4)) hX.toFits PassesOwn.never (di_range (by rfl) (hX.mg0 B.range) (da_cons de_int da_nil)) (dg_name (i := 4) hX.toFits) (ds_cons (ds_lc (i := 5) (own := [("hold", 6)]) (T := (.nm 6)) hX.toFits (di_range (by rfl) (hX.mg0 B.range) (da_cons (de_callBS cr_len (cs_len hX.toFits) (by rfl) (hX.mg0 B.len) (by decide +kernel) (da_consB (PE.b (de_var 0)) da_nilB)) da_nil)) (blkOk_by (N := N_next_stances) (sc := defScope s_next_stances) (by decide +kernel)) (fun _ _ _ _ _ => (dg_name (i := 6) hX.blk.toFits)) (fun _ _ _ _ _ => (dts_one (dt_cmp (or_ne hX.blk.toFits) (cg_ne hX.blk.toFits) (PE.b (de_var 6)) (PE.b (de_ix ix_seq (og_ix hX.blk.toFits) (de_var 2) (de_var 4))) (nomark _)))) (fun _ _ _ _ _ => (fc_call hX.blk h_changed (hr.mono (by decide)) (da_consB (PE.b (de_var 2)) (da_consB (PE.b (de_var 4)) (da_consB (PE.b (de_var 6)) da_nilB))))))
      (ds_one (ds_ext (i := 3) (df_lc (own := [("row", 7)]) (T := (.nm 7)) hX.toFits (di_seq hX.toFits (de_var 5)) (blkOk_by (N := N_next_stances) (sc := defScope s_next_stances) (by decide +kernel)) (fun _ _ _ _ _ => (dg_name (i := 7) hX.blk.toFits)) (fun _ _ _ _ _ => (dts_one (dt_val (PE.b (fc_call hX.blk h_is_kept (hr.mono (by decide)) (da_consB (PE.b (de_var 0)) (da_consB (PE.b (de_var 1)) (da_consB (PE.b (de_var 7)) da_nilB)))))))) (fun _ _ _ _ _ => (de_var 7)))))))
      (ds_one (ds_frz (i := 3) (ds_retF (df_sorted hX.toFits (de_var 3) (hX.mg0 B.sorted))))))))
abbrev s_is_rock : Stmt := top 15
theorem sc_is_rock : FnScope N_is_rock ["value"] (defScope s_is_rock) := ⟨rfl, rfl, rfl, by decide +kernel, rfl, by decide +kernel, by decide +kernel⟩
theorem ok_is_rock {P : Program} {w : World} {K : PySem.W.Frag} {mg : Str → Option Value} {base : Heap} {f : Addr} {fd : FuncData} (B : Bl mg) (F : FunD K "is_rock" "is_rock" (defArgs s_is_rock) (defBody s_is_rock) (defScope s_is_rock) [] [] f fd) (m : mg "is_rock" = some (.ref f)) (h_is_hold : FN P w K mg base 3 "is_hold" ["value"] [] (spD ⟨K, mg, P, w⟩ g_is_hold)) :
    FN P w K mg base 4 "is_rock" ["value"] [] (spD ⟨K, mg, P, w⟩ g_is_rock) :=
  okF (body := b_is_rock) F m sc_is_rock (fun _ _ _ _ _ _ us hl => match us, hl with | [_], _ => rfl) (fun n hn => nomatch hn) len_is_rock t_is_rock (fun C cdv A outer s H E hC0 hT0 hX hr =>
    (ds_cons (ds_if (L2.PW.pt (dw_or (dt_not (dt_val (PE.b (de_isi (T := "tuple") hX.toFits (.inr (.inr (.inr rfl))) (PE.b (de_var 0)) (hX.mg0 B.isinstance) (hX.mg0 B.tuple) (by decide +kernel))))) (dw_or (dt_not (dt_chain op_le op_le cg_int cg_int (PE.b de_int) (PE.b (de_callBS cr_len (cs_len hX.toFits) (by rfl) (hX.mg0 B.len) (by decide +kernel) (da_consB (PE.b (de_var 0)) da_nilB))) (PE.b de_int) (by with_unfolding_all rfl))) (dw_or1 (dt_not (dt_val (PE.b (de_callBS (cr_all hX.toFits.calm) (cs_all hX.toFits) (by rfl) (hX.mg0 B.all) (by decide +kernel) (da_consB (PE.b (PE.f (df_lc (own := [("one", 1)]) (T := (.nm 1)) hX.toFits (di_seq hX.toFits (de_var 0)) (blkOk_by (N := N_is_rock) (sc := defScope s_is_rock) (by decide +kernel)) (fun _ _ _ _ _ => (dg_name (i := 1) hX.blk.toFits)) (fun _ _ _ _ _ => dts_nil) (fun _ _ _ _ _ => (fc_call hX.blk h_is_hold (hr.mono (by decide)) (da_consB (PE.b (de_var 1)) da_nilB)))))) da_nilB))))))))) (ds_one (ds_ret de_bl)) ds_nil)
      (ds_one (ds_ret (de_cmp (or_eq hX.toFits) (cg_eq hX.toFits) (PE.b (de_lenSet hX.toFits (PE.f (df_lc (own := [("one", 1)]) (T := (.nm 1)) hX.toFits (di_seq hX.toFits (de_var 0)) (blkOk_by (N := N_is_rock) (sc := defScope s_is_rock) (by decide +kernel)) (fun _ _ _ _ _ => (dg_name (i := 1) hX.blk.toFits)) (fun _ _ _ _ _ => dts_nil) (fun _ _ _ _ _ => (de_slice sr_all (sg_all hX.blk.toFits) (de_var 1) do_none (do_some de_int))))) (hX.mg0 B.len) (hX.mg0 B.set))) (PE.b (de_callBS cr_len (cs_len hX.toFits) (by rfl) (hX.mg0 B.len) (by decide +kernel) (da_consB (PE.b (de_var 0)) da_nilB))) (nomark _))))))
abbrev s_check_body : Stmt := top 18
theorem sc_check_body : FnScope N_check_body ["body"] (defScope s_check_body) := ⟨rfl, rfl, rfl, by decide +kernel, rfl, by decide +kernel, by decide +kernel⟩
theorem ok_check_body {P : Program} {w : World} {K : PySem.W.Frag} {mg : Str → Option Value} {base : Heap} {f : Addr} {fd : FuncData} (B : Bl mg) (F : FunD K "check_body" "check_body" (defArgs s_check_body) (defBody s_check_body) (defScope s_check_body) [] [] f fd) (m : mg "check_body" = some (.ref f)) (h_is_body : FN P w K mg base 3 "is_body" ["value"] [] (spD ⟨K, mg, P, w⟩ g_is_body)) :
    FN P w K mg base 4 "check_body" ["body"] [] (spD ⟨K, mg, P, w⟩ g_check_body) :=
  okF (body := (b_check_body (fun _ => False))) F m sc_check_body (fun _ _ _ _ _ _ us hl => match us, hl with | [_], _ => rfl) (fun n hn => nomatch hn) len_check_body (fun ds Q => t_check_body ds Q (fun _ => False)) (fun C cdv A outer s H E hC0 hT0 hX hr =>
    (ds_one (ds_if (dt_not (dt_val (PE.b (fc_call hX h_is_body (hr.mono (by decide)) (da_consB (PE.b (de_var 0)) da_nilB))))) (ds_one ds_never) ds_nil)))
theorem okx_check_body {P : Program} {w : World} {K : PySem.W.Frag} {mg : Str → Option Value} {base : Heap} {f : Addr} {fd : FuncData} (B : Bl mg) (F : FunD K "check_body" "check_body" (defArgs s_check_body) (defBody s_check_body) (defScope s_check_body) [] [] f fd) (m : mg "check_body" = some (.ref f)) (h_is_body : FN P w K mg base 3 "is_body" ["value"] [] (spD ⟨K, mg, P, w⟩ g_is_body)) (e_InvalidBody : ExF K mg "InvalidBody") :
    FNX P w K mg base 4 "check_body" ["body"] [] (spX ⟨K, mg, P, w⟩ g_check_body) :=
  okX (body := b_check_body) F m sc_check_body (fun _ _ _ _ _ _ us hl => match us, hl with | [_], _ => rfl) (fun n hn => nomatch hn) len_check_body t_check_body (fun Ee C cdv A outer s H E hC0 hT0 hX hE hr =>
    (ds_one (ds_if (dt_not (dt_val (PE.b (fc_call hX h_is_body (hr.mono (by decide)) (da_consB (PE.b (de_var 0)) da_nilB))))) (ds_one (ds_raise hX hE e_InvalidBody)) ds_nil)))
abbrev s_check_stance : Stmt := top 26
theorem sc_check_stance : FnScope N_check_stance ["rock", "body", "stance"] (defScope s_check_stance) := ⟨rfl, rfl, rfl, by decide +kernel, rfl, by decide +kernel, by decide +kernel⟩
theorem ok_check_stance {P : Program} {w : World} {K : PySem.W.Frag} {mg : Str → Option Value} {base : Heap} {f : Addr} {fd : FuncData} (B : Bl mg) (F : FunD K "check_stance" "check_stance" (defArgs s_check_stance) (defBody s_check_stance) (defScope s_check_stance) [] [] f fd) (m : mg "check_stance" = some (.ref f)) (h_is_good_one : FN P w K mg base 3 "is_good_one" ["rock", "body", "value"] [] (spD ⟨K, mg, P, w⟩ g_is_good_one)) :
    FN P w K mg base 4 "check_stance" ["rock", "body", "stance"] [] (spD ⟨K, mg, P, w⟩ g_check_stance) :=
  okF (body := (b_check_stance (fun _ => False))) F m sc_check_stance (fun _ _ _ _ _ _ us hl => match us, hl with | [_, _, _], _ => rfl) (fun n hn => nomatch hn) len_check_stance (fun ds Q => t_check_stance ds Q (fun _ => False)) (fun C cdv A outer s H E hC0 hT0 hX hr =>
    (ds_one (ds_if (dt_not (dt_val (PE.b (fc_call hX h_is_good_one (hr.mono (by decide)) (da_consB (PE.b (de_var 0)) (da_consB (PE.b (de_var 1)) (da_consB (PE.b (de_var 2)) da_nilB))))))) (ds_one ds_never) ds_nil)))
theorem okx_check_stance {P : Program} {w : World} {K : PySem.W.Frag} {mg : Str → Option Value} {base : Heap} {f : Addr} {fd : FuncData} (B : Bl mg) (F : FunD K "check_stance" "check_stance" (defArgs s_check_stance) (defBody s_check_stance) (defScope s_check_stance) [] [] f fd) (m : mg "check_stance" = some (.ref f)) (h_is_good_one : FN P w K mg base 3 "is_good_one" ["rock", "body", "value"] [] (spD ⟨K, mg, P, w⟩ g_is_good_one)) (e_InvalidStance : ExF K mg "InvalidStance") :
    FNX P w K mg base 4 "check_stance" ["rock", "body", "stance"] [] (spX ⟨K, mg, P, w⟩ g_check_stance) :=
  okX (body := b_check_stance) F m sc_check_stance (fun _ _ _ _ _ _ us hl => match us, hl with | [_, _, _], _ => rfl) (fun n hn => nomatch hn) len_check_stance t_check_stance (fun Ee C cdv A outer s H E hC0 hT0 hX hE hr =>
    (ds_one (ds_if (dt_not (dt_val (PE.b (fc_call hX h_is_good_one (hr.mono (by decide)) (da_consB (PE.b (de_var 0)) (da_consB (PE.b (de_var 1)) (da_consB (PE.b (de_var 2)) da_nilB))))))) (ds_one (ds_raise hX hE e_InvalidStance)) ds_nil)))
abbrev s_ways_from : Stmt := top 31
theorem sc_ways_from : FnScope N_ways_from ["rock", "body", "start"] (defScope s_ways_from) := ⟨rfl, rfl, rfl, by decide +kernel, rfl, by decide +kernel, by decide +kernel⟩
theorem ok_ways_from {P : Program} {w : World} {K : PySem.W.Frag} {mg : Str → Option Value} {base : Heap} {f : Addr} {fd : FuncData} (B : Bl mg) (F : FunD K "ways_from" "ways_from" (defArgs s_ways_from) (defBody s_ways_from) (defScope s_ways_from) [] [] f fd) (m : mg "ways_from" = some (.ref f)) (h_next_stances : FN P w K mg base 3 "next_stances" ["rock", "body", "stance"] [] (spD ⟨K, mg, P, w⟩ g_next_stances)) :
    FN P w K mg base 4 "ways_from" ["rock", "body", "start"] [] (spD ⟨K, mg, P, w⟩ g_ways_from) :=
  okF (body := b_ways_from) F m sc_ways_from (fun _ _ _ _ _ _ us hl => match us, hl with | [_, _, _], _ => rfl) (fun n hn => nomatch hn) len_ways_from t_ways_from (fun C cdv A outer s H E hC0 hT0 hX hr =>
    (ds_cons (ds_par (i := 3) (j := 4) hX.toFits (ha := (dk_own (df_dct1 hX.toFits (de_var 2) de_non) (dk_own (df_lst (da_cons (de_var 2) da_nil)) dk_nil))))
      (ds_cons (ds_while PassesOwn.never (dt_cmp (or_ne hX.toFits) (cg_ne hX.toFits) (de_varB 4) (PE.b (PE.f (df_lst da_nil))) (nomark _)) (ds_cons (ds_pop0 (i := 4) (j := 5) hX.toFits)
      (ds_one (ds_for (T := (.nm 6)) hX.toFits PassesOwn.never (di_seqE hX.toFits (fc_call hX h_next_stances (hr.mono (by decide)) (da_consB (PE.b (de_var 0)) (da_consB (PE.b (de_var 1)) (da_consB (PE.b (de_var 5)) da_nilB))))) (dg_name (i := 6) hX.toFits) (ds_one (ds_if (dt_cmp (or_notInE hX.toFits) (cg_notInE hX.toFits) (PE.b (de_var 6)) (de_varB 3) (by rfl)) (ds_cons (ds_put (i := 3) hX.toFits hT0 (de_var 6) (de_var 5))
      (ds_one (ds_app (i := 4) (de_var 6)))) ds_nil))))))
      (ds_one (ds_retO (i := 3))))))
abbrev s_check_rock : Stmt := top 17
theorem sc_check_rock : FnScope N_check_rock ["rock"] (defScope s_check_rock) := ⟨rfl, rfl, rfl, by decide +kernel, rfl, by decide +kernel, by decide +kernel⟩
theorem ok_check_rock {P : Program} {w : World} {K : PySem.W.Frag} {mg : Str → Option Value} {base : Heap} {f : Addr} {fd : FuncData} (B : Bl mg) (F : FunD K "check_rock" "check_rock" (defArgs s_check_rock) (defBody s_check_rock) (defScope s_check_rock) [] [] f fd) (m : mg "check_rock" = some (.ref f)) (h_is_rock : FN P w K mg base 4 "is_rock" ["value"] [] (spD ⟨K, mg, P, w⟩ g_is_rock)) :
    FN P w K mg base 5 "check_rock" ["rock"] [] (spD ⟨K, mg, P, w⟩ g_check_rock) :=
  okF (body := (b_check_rock (fun _ => False))) F m sc_check_rock (fun _ _ _ _ _ _ us hl => match us, hl with | [_], _ => rfl) (fun n hn => nomatch hn) len_check_rock (fun ds Q => t_check_rock ds Q (fun _ => False)) (fun C cdv A outer s H E hC0 hT0 hX hr =>
    (ds_one (ds_if (dt_not (dt_val (PE.b (fc_call hX h_is_rock (hr.mono (by decide)) (da_consB (PE.b (de_var 0)) da_nilB))))) (ds_one ds_never) ds_nil)))
theorem okx_check_rock {P : Program} {w : World} {K : PySem.W.Frag} {mg : Str → Option Value} {base : Heap} {f : Addr} {fd : FuncData} (B : Bl mg) (F : FunD K "check_rock" "check_rock" (defArgs s_check_rock) (defBody s_check_rock) (defScope s_check_rock) [] [] f fd) (m : mg "check_rock" = some (.ref f)) (h_is_rock : FN P w K mg base 4 "is_rock" ["value"] [] (spD ⟨K, mg, P, w⟩ g_is_rock)) (e_InvalidRock : ExF K mg "InvalidRock") :
    FNX P w K mg base 5 "check_rock" ["rock"] [] (spX ⟨K, mg, P, w⟩ g_check_rock) :=
  okX (body := b_check_rock) F m sc_check_rock (fun _ _ _ _ _ _ us hl => match us, hl with | [_], _ => rfl) (fun n hn => nomatch hn) len_check_rock t_check_rock (fun Ee C cdv A outer s H E hC0 hT0 hX hE hr =>
    (ds_one (ds_if (dt_not (dt_val (PE.b (fc_call hX h_is_rock (hr.mono (by decide)) (da_consB (PE.b (de_var 0)) da_nilB))))) (ds_one (ds_raise hX hE e_InvalidRock)) ds_nil)))
abbrev s_check_both : Stmt := top 19
theorem sc_check_both : FnScope N_check_both ["rock", "body"] (defScope s_check_both) := ⟨rfl, rfl, rfl, by decide +kernel, rfl, by decide +kernel, by decide +kernel⟩
theorem ok_check_both {P : Program} {w : World} {K : PySem.W.Frag} {mg : Str → Option Value} {base : Heap} {f : Addr} {fd : FuncData} (B : Bl mg) (F : FunD K "check_both" "check_both" (defArgs s_check_both) (defBody s_check_both) (defScope s_check_both) [] [] f fd) (m : mg "check_both" = some (.ref f)) (h_check_rock : FN P w K mg base 5 "check_rock" ["rock"] [] (spD ⟨K, mg, P, w⟩ g_check_rock)) (h_check_body : FN P w K mg base 4 "check_body" ["body"] [] (spD ⟨K, mg, P, w⟩ g_check_body)) :
    FN P w K mg base 6 "check_both" ["rock", "body"] [] (spD ⟨K, mg, P, w⟩ g_check_both) :=
  okF (body := (b_check_both (fun _ => False))) F m sc_check_both (fun _ _ _ _ _ _ us hl => match us, hl with | [_, _], _ => rfl) (fun n hn => nomatch hn) len_check_both (fun ds Q => t_check_both ds Q (fun _ => False)) (fun C cdv A outer s H E hC0 hT0 hX hr =>
    (ds_cons (ds_expr (fc_call hX h_check_rock (hr.mono (by decide)) (da_consB (PE.b (de_var 0)) da_nilB)))
      (ds_one (ds_expr (fc_call hX h_check_body (hr.mono (by decide)) (da_consB (PE.b (de_var 1)) da_nilB))))))
theorem okx_check_both {P : Program} {w : World} {K : PySem.W.Frag} {mg : Str → Option Value} {base : Heap} {f : Addr} {fd : FuncData} (B : Bl mg) (F : FunD K "check_both" "check_both" (defArgs s_check_both) (defBody s_check_both) (defScope s_check_both) [] [] f fd) (m : mg "check_both" = some (.ref f)) (x_check_rock : FNX P w K mg base 5 "check_rock" ["rock"] [] (spX ⟨K, mg, P, w⟩ g_check_rock)) (x_check_body : FNX P w K mg base 4 "check_body" ["body"] [] (spX ⟨K, mg, P, w⟩ g_check_body)) :
    FNX P w K mg base 6 "check_both" ["rock", "body"] [] (spX ⟨K, mg, P, w⟩ g_check_both) :=
  okX (body := b_check_both) F m sc_check_both (fun _ _ _ _ _ _ us hl => match us, hl with | [_, _], _ => rfl) (fun n hn => nomatch hn) len_check_both t_check_both (fun Ee C cdv A outer s H E hC0 hT0 hX hE hr =>
    (ds_cons (ds_expr (fc_callX hX hE x_check_rock (hr.mono (by decide)) (da_consB (PE.b (de_var 0)) da_nilB)))
      (ds_one (ds_expr (fc_callX hX hE x_check_body (hr.mono (by decide)) (da_consB (PE.b (de_var 1)) da_nilB))))))
abbrev s_check_all : Stmt := top 30
theorem sc_check_all : FnScope N_check_all ["rock", "body", "stance"] (defScope s_check_all) := ⟨rfl, rfl, rfl, by decide +kernel, rfl, by decide +kernel, by decide +kernel⟩
theorem ok_check_all {P : Program} {w : World} {K : PySem.W.Frag} {mg : Str → Option Value} {base : Heap} {f : Addr} {fd : FuncData} (B : Bl mg) (F : FunD K "check_all" "check_all" (defArgs s_check_all) (defBody s_check_all) (defScope s_check_all) [] [] f fd) (m : mg "check_all" = some (.ref f)) (h_check_both : FN P w K mg base 6 "check_both" ["rock", "body"] [] (spD ⟨K, mg, P, w⟩ g_check_both)) (h_check_stance : FN P w K mg base 4 "check_stance" ["rock", "body", "stance"] [] (spD ⟨K, mg, P, w⟩ g_check_stance)) :
    FN P w K mg base 7 "check_all" ["rock", "body", "stance"] [] (spD ⟨K, mg, P, w⟩ g_check_all) :=
  okF (body := (b_check_all (fun _ => False))) F m sc_check_all (fun _ _ _ _ _ _ us hl => match us, hl with | [_, _, _], _ => rfl) (fun n hn => nomatch hn) len_check_all (fun ds Q => t_check_all ds Q (fun _ => False)) (fun C cdv A outer s H E hC0 hT0 hX hr =>
    (ds_cons (ds_expr (fc_call hX h_check_both (hr.mono (by decide)) (da_consB (PE.b (de_var 0)) (da_consB (PE.b (de_var 1)) da_nilB))))
      (ds_one (ds_expr (fc_call hX h_check_stance (hr.mono (by decide)) (da_consB (PE.b (de_var 0)) (da_consB (PE.b (de_var 1)) (da_consB (PE.b (de_var 2)) da_nilB))))))))
theorem okx_check_all {P : Program} {w : World} {K : PySem.W.Frag} {mg : Str → Option Value} {base : Heap} {f : Addr} {fd : FuncData} (B : Bl mg) (F : FunD K "check_all" "check_all" (defArgs s_check_all) (defBody s_check_all) (defScope s_check_all) [] [] f fd) (m : mg "check_all" = some (.ref f)) (x_check_both : FNX P w K mg base 6 "check_both" ["rock", "body"] [] (spX ⟨K, mg, P, w⟩ g_check_both)) (x_check_stance : FNX P w K mg base 4 "check_stance" ["rock", "body", "stance"] [] (spX ⟨K, mg, P, w⟩ g_check_stance)) :
    FNX P w K mg base 7 "check_all" ["rock", "body", "stance"] [] (spX ⟨K, mg, P, w⟩ g_check_all) :=
  okX (body := b_check_all) F m sc_check_all (fun _ _ _ _ _ _ us hl => match us, hl with | [_, _, _], _ => rfl) (fun n hn => nomatch hn) len_check_all t_check_all (fun Ee C cdv A outer s H E hC0 hT0 hX hE hr =>
    (ds_cons (ds_expr (fc_callX hX hE x_check_both (hr.mono (by decide)) (da_consB (PE.b (de_var 0)) (da_consB (PE.b (de_var 1)) da_nilB))))
      (ds_one (ds_expr (fc_callX hX hE x_check_stance (hr.mono (by decide)) (da_consB (PE.b (de_var 0)) (da_consB (PE.b (de_var 1)) (da_consB (PE.b (de_var 2)) da_nilB))))))))
abbrev s_check_top : Stmt := top 34
theorem sc_check_top : FnScope N_check_top ["rock", "body", "start", "top"] (defScope s_check_top) := ⟨rfl, rfl, rfl, by decide +kernel, rfl, by decide +kernel, by decide +kernel⟩
theorem ok_check_top {P : Program} {w : World} {K : PySem.W.Frag} {mg : Str → Option Value} {base : Heap} {f : Addr} {fd : FuncData} (B : Bl mg) (F : FunD K "check_top" "check_top" (defArgs s_check_top) (defBody s_check_top) (defScope s_check_top) [] [] f fd) (m : mg "check_top" = some (.ref f)) (h_check_all : FN P w K mg base 7 "check_all" ["rock", "body", "stance"] [] (spD ⟨K, mg, P, w⟩ g_check_all)) (h_check_hold : FN P w K mg base 2 "check_hold" ["rock", "hold"] [] (spD ⟨K, mg, P, w⟩ g_check_hold)) :
    FN P w K mg base 8 "check_top" ["rock", "body", "start", "top"] [] (spD ⟨K, mg, P, w⟩ g_check_top) :=
  okF (body := (b_check_top (fun _ => False))) F m sc_check_top (fun _ _ _ _ _ _ us hl => match us, hl with | [_, _, _, _], _ => rfl) (fun n hn => nomatch hn) len_check_top (fun ds Q => t_check_top ds Q (fun _ => False)) (fun C cdv A outer s H E hC0 hT0 hX hr =>
    (ds_cons (ds_expr (fc_call hX h_check_all (hr.mono (by decide)) (da_consB (PE.b (de_var 0)) (da_consB (PE.b (de_var 1)) (da_consB (PE.b (de_var 2)) da_nilB)))))
      (ds_one (ds_expr (fc_call hX h_check_hold (hr.mono (by decide)) (da_consB (PE.b (de_var 0)) (da_consB (PE.b (de_var 3)) da_nilB)))))))
theorem okx_check_top {P : Program} {w : World} {K : PySem.W.Frag} {mg : Str → Option Value} {base : Heap} {f : Addr} {fd : FuncData} (B : Bl mg) (F : FunD K "check_top" "check_top" (defArgs s_check_top) (defBody s_check_top) (defScope s_check_top) [] [] f fd) (m : mg "check_top" = some (.ref f)) (x_check_all : FNX P w K mg base 7 "check_all" ["rock", "body", "stance"] [] (spX ⟨K, mg, P, w⟩ g_check_all)) (x_check_hold : FNX P w K mg base 2 "check_hold" ["rock", "hold"] [] (spX ⟨K, mg, P, w⟩ g_check_hold)) :
    FNX P w K mg base 8 "check_top" ["rock", "body", "start", "top"] [] (spX ⟨K, mg, P, w⟩ g_check_top) :=
  okX (body := b_check_top) F m sc_check_top (fun _ _ _ _ _ _ us hl => match us, hl with | [_, _, _, _], _ => rfl) (fun n hn => nomatch hn) len_check_top t_check_top (fun Ee C cdv A outer s H E hC0 hT0 hX hE hr =>
    (ds_cons (ds_expr (fc_callX hX hE x_check_all (hr.mono (by decide)) (da_consB (PE.b (de_var 0)) (da_consB (PE.b (de_var 1)) (da_consB (PE.b (de_var 2)) da_nilB)))))
      (ds_one (ds_expr (fc_callX hX hE x_check_hold (hr.mono (by decide)) (da_consB (PE.b (de_var 0)) (da_consB (PE.b (de_var 3)) da_nilB)))))))
abbrev s_barrier : Stmt := top 35
theorem sc_barrier : FnScope N_barrier ["rock", "body", "start", "top"] (defScope s_barrier) := ⟨rfl, rfl, rfl, by decide +kernel, rfl, by decide +kernel, by decide +kernel⟩
theorem ok_barrier {P : Program} {w : World} {K : PySem.W.Frag} {mg : Str → Option Value} {base : Heap} {f : Addr} {fd : FuncData} (B : Bl mg) (F : FunD K "barrier" "barrier" (defArgs s_barrier) (defBody s_barrier) (defScope s_barrier) [] [] f fd) (m : mg "barrier" = some (.ref f)) (h_check_top : FN P w K mg base 8 "check_top" ["rock", "body", "start", "top"] [] (spD ⟨K, mg, P, w⟩ g_check_top)) (h_ways_from : FN P w K mg base 4 "ways_from" ["rock", "body", "start"] [] (spD ⟨K, mg, P, w⟩ g_ways_from)) (h_does_top : FN P w K mg base 1 "does_top" ["stance", "top"] [] (spD ⟨K, mg, P, w⟩ g_does_top)) :
    FN P w K mg base 9 "barrier" ["rock", "body", "start", "top"] [0] (spD ⟨K, mg, P, w⟩ g_barrier) :=
  okF (body := (b_barrier (fun _ => False))) F m sc_barrier (fun _ _ _ _ _ _ us hl => match us, hl with | [_, _, _, _], _ => rfl) (fun n hn => by
    simp only [List.mem_cons, List.not_mem_nil, or_false] at hn
    subst hn
    exact (fun kV doc pm an cdv ct us ws l1 l2 => match us, ws, l1, l2 with | [], [_, _, _, _], _, _ => rfl)) len_barrier (fun ds Q => t_barrier ds Q (fun _ => False)) (fun C cdv A outer s H E hC0 hT0 hX hr =>
    (ds_cons (ds_expr (fc_call hX h_check_top (hr.mono (by decide)) (da_consB (PE.b (de_var 0)) (da_consB (PE.b (de_var 1)) (da_consB (PE.b (de_var 2)) (da_consB (PE.b (de_var 3)) da_nilB))))))
      (ds_cons (ds_set (i := 4) hX.toFits (fc_call hX h_ways_from (hr.mono (by decide)) (da_consB (PE.b (de_var 0)) (da_consB (PE.b (de_var 1)) (da_consB (PE.b (de_var 2)) da_nilB)))))
      (ds_one (ds_ret (de_if (dt_val (PE.b (de_callBS (cr_any hX.toFits.calm) (cs_any hX.toFits) (by rfl) (hX.mg0 B.any) (by decide +kernel) (da_consB (PE.b (PE.f (df_lc (own := [("row", 5)]) (T := (.nm 5)) hX.toFits (di_seqE hX.toFits (de_var 4)) (blkOk_by (N := N_barrier) (sc := defScope s_barrier) (by decide +kernel)) (fun _ _ _ _ _ => (dg_name (i := 5) hX.blk.toFits)) (fun _ _ _ _ _ => dts_nil) (fun _ _ _ _ _ => (fc_call hX.blk h_does_top (hr.mono (by decide)) (da_consB (PE.b (de_var 5)) (da_consB (PE.b (de_var 3)) da_nilB))))))) da_nilB)))) de_non (de_callTy cr_tupF (cg_tup hX.toFits) (by rfl) (hX.mg0 B.tuple) (by decide +kernel) (da_cons (PE.f (df_sorted hX.toFits (de_var 4) (hX.mg0 B.sorted))) da_nil))))))))
theorem okx_barrier {P : Program} {w : World} {K : PySem.W.Frag} {mg : Str → Option Value} {base : Heap} {f : Addr} {fd : FuncData} (B : Bl mg) (F : FunD K "barrier" "barrier" (defArgs s_barrier) (defBody s_barrier) (defScope s_barrier) [] [] f fd) (m : mg "barrier" = some (.ref f)) (h_ways_from : FN P w K mg base 4 "ways_from" ["rock", "body", "start"] [] (spD ⟨K, mg, P, w⟩ g_ways_from)) (h_does_top : FN P w K mg base 1 "does_top" ["stance", "top"] [] (spD ⟨K, mg, P, w⟩ g_does_top)) (x_check_top : FNX P w K mg base 8 "check_top" ["rock", "body", "start", "top"] [] (spX ⟨K, mg, P, w⟩ g_check_top)) :
    FNX P w K mg base 9 "barrier" ["rock", "body", "start", "top"] [0] (spX ⟨K, mg, P, w⟩ g_barrier) :=
  okX (body := b_barrier) F m sc_barrier (fun _ _ _ _ _ _ us hl => match us, hl with | [_, _, _, _], _ => rfl) (fun n hn => by
    simp only [List.mem_cons, List.not_mem_nil, or_false] at hn
    subst hn
    exact (fun kV doc pm an cdv ct us ws l1 l2 => match us, ws, l1, l2 with | [], [_, _, _, _], _, _ => rfl)) len_barrier t_barrier (fun Ee C cdv A outer s H E hC0 hT0 hX hE hr =>
    (ds_cons (ds_expr (fc_callX hX hE x_check_top (hr.mono (by decide)) (da_consB (PE.b (de_var 0)) (da_consB (PE.b (de_var 1)) (da_consB (PE.b (de_var 2)) (da_consB (PE.b (de_var 3)) da_nilB))))))
      (ds_cons (ds_set (i := 4) hX.toFits (fc_call hX h_ways_from (hr.mono (by decide)) (da_consB (PE.b (de_var 0)) (da_consB (PE.b (de_var 1)) (da_consB (PE.b (de_var 2)) da_nilB)))))
      (ds_one (ds_ret (de_if (dt_val (PE.b (de_callBS (cr_any hX.toFits.calm) (cs_any hX.toFits) (by rfl) (hX.mg0 B.any) (by decide +kernel) (da_consB (PE.b (PE.f (df_lc (own := [("row", 5)]) (T := (.nm 5)) hX.toFits (di_seqE hX.toFits (de_var 4)) (blkOk_by (N := N_barrier) (sc := defScope s_barrier) (by decide +kernel)) (fun _ _ _ _ _ => (dg_name (i := 5) hX.blk.toFits)) (fun _ _ _ _ _ => dts_nil) (fun _ _ _ _ _ => (fc_call hX.blk h_does_top (hr.mono (by decide)) (da_consB (PE.b (de_var 5)) (da_consB (PE.b (de_var 3)) da_nilB))))))) da_nilB)))) de_non (de_callTy cr_tupF (cg_tup hX.toFits) (by rfl) (hX.mg0 B.tuple) (by decide +kernel) (da_cons (PE.f (df_sorted hX.toFits (de_var 4) (hX.mg0 B.sorted))) da_nil))))))))
abbrev s_is_barrier : Stmt := top 36
theorem sc_is_barrier : FnScope N_is_barrier ["rock", "body", "start", "top", "value"] (defScope s_is_barrier) := ⟨rfl, rfl, rfl, by decide +kernel, rfl, by decide +kernel, by decide +kernel⟩
theorem ok_is_barrier {P : Program} {w : World} {K : PySem.W.Frag} {mg : Str → Option Value} {base : Heap} {f : Addr} {fd : FuncData} (B : Bl mg) (F : FunD K "is_barrier" "is_barrier" (defArgs s_is_barrier) (defBody s_is_barrier) (defScope s_is_barrier) [] [] f fd) (m : mg "is_barrier" = some (.ref f)) (h_check_top : FN P w K mg base 8 "check_top" ["rock", "body", "start", "top"] [] (spD ⟨K, mg, P, w⟩ g_check_top)) (h_is_good_one : FN P w K mg base 3 "is_good_one" ["rock", "body", "value"] [] (spD ⟨K, mg, P, w⟩ g_is_good_one)) (h_does_top : FN P w K mg base 1 "does_top" ["stance", "top"] [] (spD ⟨K, mg, P, w⟩ g_does_top)) (h_next_stances : FN P w K mg base 3 "next_stances" ["rock", "body", "stance"] [] (spD ⟨K, mg, P, w⟩ g_next_stances)) :
    FN P w K mg base 9 "is_barrier" ["rock", "body", "start", "top", "value"] [4] (spD ⟨K, mg, P, w⟩ g_is_barrier) :=
  okF (body := (b_is_barrier (fun _ => False))) F m sc_is_barrier (fun _ _ _ _ _ _ us hl => match us, hl with | [_, _, _, _, _], _ => rfl) (fun n hn => by
    simp only [List.mem_cons, List.not_mem_nil, or_false] at hn
    subst hn
    exact (fun kV doc pm an cdv ct us ws l1 l2 => match us, ws, l1, l2 with | [_, _, _, _], [_], _, _ => rfl)) len_is_barrier (fun ds Q => t_is_barrier ds Q (fun _ => False)) (fun C cdv A outer s H E hC0 hT0 hX hr =>
    (ds_cons (ds_expr (fc_call hX h_check_top (hr.mono (by decide)) (da_consB (PE.b (de_var 0)) (da_consB (PE.b (de_var 1)) (da_consB (PE.b (de_var 2)) (da_consB (PE.b (de_var 3)) da_nilB))))))
      (ds_cons (ds_if (L2.PW.pt (dw_or (dt_not (dt_val (PE.b (de_isi (T := "tuple") hX.toFits (.inr (.inr (.inr rfl))) (PE.b (de_var 4)) (hX.mg0 B.isinstance) (hX.mg0 B.tuple) (by decide +kernel))))) (dw_or1 (dt_not (dt_val (PE.b (de_callBS (cr_all hX.toFits.calm) (cs_all hX.toFits) (by rfl) (hX.mg0 B.all) (by decide +kernel) (da_consB (PE.b (PE.f (df_lc (own := [("row", 5)]) (T := (.nm 5)) hX.toFits (di_seq hX.toFits (de_var 4)) (blkOk_by (N := N_is_barrier) (sc := defScope s_is_barrier) (by decide +kernel)) (fun _ _ _ _ _ => (dg_name (i := 5) hX.blk.toFits)) (fun _ _ _ _ _ => dts_nil) (fun _ _ _ _ _ => (fc_call hX.blk h_is_good_one (hr.mono (by decide)) (da_consB (PE.b (de_var 0)) (da_consB (PE.b (de_var 1)) (da_consB (PE.b (de_var 5)) da_nilB)))))))) da_nilB)))))))) (ds_one (ds_ret de_bl)) ds_nil)
      (ds_cons (ds_if (L2.PW.pt (dw_or (dt_not (dt_val (PE.b (de_callBS (cr_all hX.toFits.calm) (cs_all hX.toFits) (by rfl) (hX.mg0 B.all) (by decide +kernel) (da_consB (PE.b (PE.f (df_lc (own := [("one", 6), ("other", 7)]) (T := (.tp [6, 7])) hX.toFits (di_zip hX.toFits (by rfl) (hX.mg0 B.zip) (da_cons (de_var 4) (da_cons (de_slice sr_all (sg_all hX.toFits) (de_var 4) (do_some de_int) do_none) da_nil))) (blkOk_by (N := N_is_barrier) (sc := defScope s_is_barrier) (by decide +kernel)) (fun _ _ _ _ _ => (dg_tup (is := [6, 7]) hX.blk.toFits (dgs_cons (i := 6) (dg_name (C := _) hX.blk.toFits) (dgs_cons (i := 7) (dg_name (C := _) hX.blk.toFits) dgs_nil)))) (fun _ _ _ _ _ => dts_nil) (fun _ _ _ _ _ => (de_cmp (or_ltE hX.blk.toFits) (cg_ltE hX.blk.toFits) (PE.b (de_var 6)) (PE.b (de_var 7)) (nomark _)))))) da_nilB))))) (dw_or1 (dt_cmp (or_notIn hX.toFits) (cg_notIn hX.toFits) (PE.b (de_var 2)) (PE.b (de_var 4)) (by rfl))))) (ds_one (ds_ret de_bl)) ds_nil)
      (ds_cons (ds_if (dt_val (PE.b (de_callBS (cr_any hX.toFits.calm) (cs_any hX.toFits) (by rfl) (hX.mg0 B.any) (by decide +kernel) (da_consB (PE.b (PE.f (df_lc (own := [("row", 5)]) (T := (.nm 5)) hX.toFits (di_seq hX.toFits (de_var 4)) (blkOk_by (N := N_is_barrier) (sc := defScope s_is_barrier) (by decide +kernel)) (fun _ _ _ _ _ => (dg_name (i := 5) hX.blk.toFits)) (fun _ _ _ _ _ => dts_nil) (fun _ _ _ _ _ => (fc_call hX.blk h_does_top (hr.mono (by decide)) (da_consB (PE.b (de_var 5)) (da_consB (PE.b (de_var 3)) da_nilB))))))) da_nilB)))) (ds_one (ds_ret de_bl)) ds_nil)
      (ds_one (ds_ret (de_callBS (cr_all hX.toFits.calm) (cs_all hX.toFits) (by rfl) (hX.mg0 B.all) (by decide +kernel) (da_consB (PE.b (PE.f (df_lc (own := [("row", 5)]) (T := (.nm 5)) hX.toFits (di_seq hX.toFits (de_var 4)) (blkOk_by (N := N_is_barrier) (sc := defScope s_is_barrier) (by decide +kernel)) (fun _ _ _ _ _ => (dg_name (i := 5) hX.blk.toFits)) (fun _ _ _ _ _ => dts_nil) (fun _ _ _ _ _ => (de_callBS (cr_all hX.blk.toFits.calm) (cs_all hX.blk.toFits) (by rfl) (hX.blk.mg0 B.all) (by decide +kernel) (da_consB (PE.b (PE.f (df_lc (own := [("there", 8)]) (T := (.nm 8)) hX.blk.toFits (di_seq hX.blk.toFits (fc_call hX.blk h_next_stances (hr.mono (by decide)) (da_consB (PE.b (de_var 0)) (da_consB (PE.b (de_var 1)) (da_consB (PE.b (de_var 5)) da_nilB))))) (blkIn (blkOk_by (N := N_is_barrier) (by decide +kernel))) (fun _ _ _ _ _ => (dg_name (i := 8) hX.blk.blk.toFits)) (fun _ _ _ _ _ => dts_nil) (fun _ _ _ _ _ => (de_cmp (or_in hX.blk.blk.toFits) (cg_in hX.blk.blk.toFits) (PE.b (de_var 8)) (PE.b (de_var 4)) (by rfl)))))) da_nilB)))))) da_nilB)))))))))
theorem okx_is_barrier {P : Program} {w : World} {K : PySem.W.Frag} {mg : Str → Option Value} {base : Heap} {f : Addr} {fd : FuncData} (B : Bl mg) (F : FunD K "is_barrier" "is_barrier" (defArgs s_is_barrier) (defBody s_is_barrier) (defScope s_is_barrier) [] [] f fd) (m : mg "is_barrier" = some (.ref f)) (h_is_good_one : FN P w K mg base 3 "is_good_one" ["rock", "body", "value"] [] (spD ⟨K, mg, P, w⟩ g_is_good_one)) (h_does_top : FN P w K mg base 1 "does_top" ["stance", "top"] [] (spD ⟨K, mg, P, w⟩ g_does_top)) (h_next_stances : FN P w K mg base 3 "next_stances" ["rock", "body", "stance"] [] (spD ⟨K, mg, P, w⟩ g_next_stances)) (x_check_top : FNX P w K mg base 8 "check_top" ["rock", "body", "start", "top"] [] (spX ⟨K, mg, P, w⟩ g_check_top)) :
    FNX P w K mg base 9 "is_barrier" ["rock", "body", "start", "top", "value"] [4] (spX ⟨K, mg, P, w⟩ g_is_barrier) :=
  okX (body := b_is_barrier) F m sc_is_barrier (fun _ _ _ _ _ _ us hl => match us, hl with | [_, _, _, _, _], _ => rfl) (fun n hn => by
    simp only [List.mem_cons, List.not_mem_nil, or_false] at hn
    subst hn
    exact (fun kV doc pm an cdv ct us ws l1 l2 => match us, ws, l1, l2 with | [_, _, _, _], [_], _, _ => rfl)) len_is_barrier t_is_barrier (fun Ee C cdv A outer s H E hC0 hT0 hX hE hr =>
    (ds_cons (ds_expr (fc_callX hX hE x_check_top (hr.mono (by decide)) (da_consB (PE.b (de_var 0)) (da_consB (PE.b (de_var 1)) (da_consB (PE.b (de_var 2)) (da_consB (PE.b (de_var 3)) da_nilB))))))
      (ds_cons (ds_if (L2.PW.pt (dw_or (dt_not (dt_val (PE.b (de_isi (T := "tuple") hX.toFits (.inr (.inr (.inr rfl))) (PE.b (de_var 4)) (hX.mg0 B.isinstance) (hX.mg0 B.tuple) (by decide +kernel))))) (dw_or1 (dt_not (dt_val (PE.b (de_callBS (cr_all hX.toFits.calm) (cs_all hX.toFits) (by rfl) (hX.mg0 B.all) (by decide +kernel) (da_consB (PE.b (PE.f (df_lc (own := [("row", 5)]) (T := (.nm 5)) hX.toFits (di_seq hX.toFits (de_var 4)) (blkOk_by (N := N_is_barrier) (sc := defScope s_is_barrier) (by decide +kernel)) (fun _ _ _ _ _ => (dg_name (i := 5) hX.blk.toFits)) (fun _ _ _ _ _ => dts_nil) (fun _ _ _ _ _ => (fc_call hX.blk h_is_good_one (hr.mono (by decide)) (da_consB (PE.b (de_var 0)) (da_consB (PE.b (de_var 1)) (da_consB (PE.b (de_var 5)) da_nilB)))))))) da_nilB)))))))) (ds_one (ds_ret de_bl)) ds_nil)
      (ds_cons (ds_if (L2.PW.pt (dw_or (dt_not (dt_val (PE.b (de_callBS (cr_all hX.toFits.calm) (cs_all hX.toFits) (by rfl) (hX.mg0 B.all) (by decide +kernel) (da_consB (PE.b (PE.f (df_lc (own := [("one", 6), ("other", 7)]) (T := (.tp [6, 7])) hX.toFits (di_zip hX.toFits (by rfl) (hX.mg0 B.zip) (da_cons (de_var 4) (da_cons (de_slice sr_all (sg_all hX.toFits) (de_var 4) (do_some de_int) do_none) da_nil))) (blkOk_by (N := N_is_barrier) (sc := defScope s_is_barrier) (by decide +kernel)) (fun _ _ _ _ _ => (dg_tup (is := [6, 7]) hX.blk.toFits (dgs_cons (i := 6) (dg_name (C := _) hX.blk.toFits) (dgs_cons (i := 7) (dg_name (C := _) hX.blk.toFits) dgs_nil)))) (fun _ _ _ _ _ => dts_nil) (fun _ _ _ _ _ => (de_cmp (or_ltE hX.blk.toFits) (cg_ltE hX.blk.toFits) (PE.b (de_var 6)) (PE.b (de_var 7)) (nomark _)))))) da_nilB))))) (dw_or1 (dt_cmp (or_notIn hX.toFits) (cg_notIn hX.toFits) (PE.b (de_var 2)) (PE.b (de_var 4)) (by rfl))))) (ds_one (ds_ret de_bl)) ds_nil)
      (ds_cons (ds_if (dt_val (PE.b (de_callBS (cr_any hX.toFits.calm) (cs_any hX.toFits) (by rfl) (hX.mg0 B.any) (by decide +kernel) (da_consB (PE.b (PE.f (df_lc (own := [("row", 5)]) (T := (.nm 5)) hX.toFits (di_seq hX.toFits (de_var 4)) (blkOk_by (N := N_is_barrier) (sc := defScope s_is_barrier) (by decide +kernel)) (fun _ _ _ _ _ => (dg_name (i := 5) hX.blk.toFits)) (fun _ _ _ _ _ => dts_nil) (fun _ _ _ _ _ => (fc_call hX.blk h_does_top (hr.mono (by decide)) (da_consB (PE.b (de_var 5)) (da_consB (PE.b (de_var 3)) da_nilB))))))) da_nilB)))) (ds_one (ds_ret de_bl)) ds_nil)
      (ds_one (ds_ret (de_callBS (cr_all hX.toFits.calm) (cs_all hX.toFits) (by rfl) (hX.mg0 B.all) (by decide +kernel) (da_consB (PE.b (PE.f (df_lc (own := [("row", 5)]) (T := (.nm 5)) hX.toFits (di_seq hX.toFits (de_var 4)) (blkOk_by (N := N_is_barrier) (sc := defScope s_is_barrier) (by decide +kernel)) (fun _ _ _ _ _ => (dg_name (i := 5) hX.blk.toFits)) (fun _ _ _ _ _ => dts_nil) (fun _ _ _ _ _ => (de_callBS (cr_all hX.blk.toFits.calm) (cs_all hX.blk.toFits) (by rfl) (hX.blk.mg0 B.all) (by decide +kernel) (da_consB (PE.b (PE.f (df_lc (own := [("there", 8)]) (T := (.nm 8)) hX.blk.toFits (di_seq hX.blk.toFits (fc_call hX.blk h_next_stances (hr.mono (by decide)) (da_consB (PE.b (de_var 0)) (da_consB (PE.b (de_var 1)) (da_consB (PE.b (de_var 5)) da_nilB))))) (blkIn (blkOk_by (N := N_is_barrier) (by decide +kernel))) (fun _ _ _ _ _ => (dg_name (i := 8) hX.blk.blk.toFits)) (fun _ _ _ _ _ => dts_nil) (fun _ _ _ _ _ => (de_cmp (or_in hX.blk.blk.toFits) (cg_in hX.blk.blk.toFits) (PE.b (de_var 8)) (PE.b (de_var 4)) (by rfl)))))) da_nilB)))))) da_nilB)))))))))
abbrev s__law_judged : Stmt := top 49
theorem sc__law_judged : FnScope N__law_judged ["rock_here", "body_here", "rows", "start_here", "top_here"] (defScope s__law_judged) := ⟨rfl, rfl, rfl, by decide +kernel, rfl, by decide +kernel, by decide +kernel⟩
theorem ok__law_judged {P : Program} {w : World} {K : PySem.W.Frag} {mg : Str → Option Value} {base : Heap} {f : Addr} {fd : FuncData} (B : Bl mg) (F : FunD K "_law_judged" "_law_judged" (defArgs s__law_judged) (defBody s__law_judged) (defScope s__law_judged) [] [] f fd) (m : mg "_law_judged" = some (.ref f)) (h__law_levels : FN P w K mg base 2 "_law_levels" ["rows", "begin"] [] (spD ⟨K, mg, P, w⟩ g__law_levels)) (h_barrier : FN P w K mg base 9 "barrier" ["rock", "body", "start", "top"] [0] (spD ⟨K, mg, P, w⟩ g_barrier)) (h__law_barrier : FN P w K mg base 2 "_law_barrier" ["rows", "begin", "top_here", "value_here"] [] (spD ⟨K, mg, P, w⟩ g__law_barrier)) (h__law_is : FN P w K mg base 1 "_law_is" ["found", "expected"] [] (spD ⟨K, mg, P, w⟩ g__law_is)) (h_is_barrier : FN P w K mg base 9 "is_barrier" ["rock", "body", "start", "top", "value"] [4] (spD ⟨K, mg, P, w⟩ g_is_barrier)) :
    FN P w K mg base 10 "_law_judged" ["rock_here", "body_here", "rows", "start_here", "top_here"] [] (spD ⟨K, mg, P, w⟩ g__law_judged) :=
  okF (body := b__law_judged) F m sc__law_judged (fun _ _ _ _ _ _ us hl => match us, hl with | [_, _, _, _, _], _ => rfl) (fun n hn => nomatch hn) len__law_judged t__law_judged (fun C cdv A outer s H E hC0 hT0 hX hr =>
    (ds_cons (ds_set (i := 5) hX.toFits (PE.f (df_sorted hX.toFits (fc_call hX h__law_levels (hr.mono (by decide)) (da_consB (PE.b (de_var 2)) (da_consB (PE.b (de_var 3)) da_nilB))) (hX.mg0 B.sorted))))
      (ds_cons (ds_set (i := 6) hX.toFits (de_if (dt_cmp (or_eq hX.toFits) (cg_eq hX.toFits) (PE.b (PE.f (df_lc (own := [("row", 7)]) (T := (.nm 7)) hX.toFits (di_seqE hX.toFits (de_var 5)) (blkOk_by (N := N__law_judged) (sc := defScope s__law_judged) (by decide +kernel)) (fun _ _ _ _ _ => (dg_name (i := 7) hX.blk.toFits)) (fun _ _ _ _ _ => (dts_one (dt_cmp (or_inE hX.blk.toFits) (cg_inE hX.blk.toFits) (PE.b (de_var 4)) (PE.b (de_slice sr_all (sg_all hX.blk.toFits) (de_var 7) do_none (do_some de_int))) (by rfl)))) (fun _ _ _ _ _ => (de_var 7))))) (PE.b (PE.f (df_lst da_nil))) (nomark _)) (de_callTy cr_tupF (cg_tup hX.toFits) (by rfl) (hX.mg0 B.tuple) (by decide +kernel) (da_cons (de_var 5) da_nil)) de_non))
      (ds_cons (ds_if (dt_cmp (or_ne hX.toFits) (cg_ne hX.toFits) (PE.b (fc_kw0 hX h_barrier (hr.mono (by decide)) (dk1 (PE.b (de_var 0)) (dk1 (PE.b (de_var 1)) (dk1 (PE.b (de_var 3)) (dk1 (PE.b (de_var 4)) dk0)))) (by decide) len_barrier)) (PE.b (de_var 6)) (nomark _)) (ds_one (ds_ret de_bl)) ds_nil)
      (ds_cons (ds_set (i := 8) hX.toFits (de_callTy cr_tupF (cg_tup hX.toFits) (by rfl) (hX.mg0 B.tuple) (by decide +kernel) (da_cons (PE.f (df_lc (own := [("row", 7)]) (T := (.nm 7)) hX.toFits (di_seqE hX.toFits (de_var 2)) (blkOk_by (N := N__law_judged) (sc := defScope s__law_judged) (by decide +kernel)) (fun _ _ _ _ _ => (dg_name (i := 7) hX.blk.toFits)) (fun _ _ _ _ _ => (dts_one (dt_cmp (or_notInE hX.blk.toFits) (cg_notInE hX.blk.toFits) (PE.b (de_var 4)) (PE.b (de_slice sr_all (sg_all hX.blk.toFits) (de_var 7) do_none (do_some de_int))) (by rfl)))) (fun _ _ _ _ _ => (de_var 7)))) da_nil)))
      (ds_cons (ds_set (i := 9) hX.toFits (de_callTy cr_tupF (cg_tup hX.toFits) (by rfl) (hX.mg0 B.tuple) (by decide +kernel) (da_cons (de_var 5) da_nil)))
      (ds_cons (ds_for (T := (.nm 10)) hX.toFits PassesOwn.never (di_seqE hX.toFits (de_tup (da_cons (de_var 9) (da_cons (de_var 8) (da_cons (de_slice sr_all (sg_all hX.toFits) (de_var 9) (do_some de_int) do_none) (da_cons (de_revT hX.toFits (de_var 9)) (da_cons (de_bin or_add (og_add hX.toFits) (de_var 9) (de_slice sr_all (sg_all hX.toFits) (de_var 9) (do_some (de_un un_neg ug_neg de_int)) do_none)) (da_cons (de_tup (da_cons (de_var 3) da_nil)) (da_cons (de_tup da_nil) da_nil))))))))) (dg_name (i := 10) hX.toFits) (ds_cons (ds_set (i := 11) hX.toFits (fc_call hX h__law_barrier (hr.mono (by decide)) (da_consB (PE.b (de_var 2)) (da_consB (PE.b (de_var 3)) (da_consB (PE.b (de_var 4)) (da_consB (PE.b (de_var 10)) da_nilB))))))
      (ds_one (ds_if (dt_not (dt_val (PE.b (fc_call hX h__law_is (hr.mono (by decide)) (da_consB (PE.b (fc_kw (n := 4) hX h_is_barrier (hr.mono (by decide)) (da_consB (PE.b (de_var 0)) (da_consB (PE.b (de_var 1)) (da_consB (PE.b (de_var 3)) (da_consB (PE.b (de_var 4)) da_nilB)))) (dk1 (PE.b (de_var 10)) dk0) (by decide) (by decide) len_is_barrier)) (da_consB (PE.b (de_var 11)) da_nilB)))))) (ds_one (ds_ret de_bl)) ds_nil))))
      (ds_cons (ds_for (T := (.nm 12)) hX.toFits PassesOwn.never (di_seqE hX.toFits (de_tup (da_cons de_non (da_cons (de_callTy call_list_of (cg_list hX.toFits) (by rfl) (hX.mg0 B.list) (by decide +kernel) (da_cons (de_var 9) da_nil)) (da_cons (de_tup (da_cons (de_var 3) (da_cons de_non da_nil))) (da_cons (de_tup (da_cons (de_slice sr_all (sg_all hX.toFits) (de_var 3) do_none (do_some de_int)) da_nil)) (da_cons (de_bin or_add (og_add hX.toFits) (de_var 9) (de_tup (da_cons (de_bin or_mul (og_mul hX.toFits) (de_tup (da_cons de_int da_nil)) de_int) da_nil))) (da_cons de_int da_nil)))))))) (dg_name (i := 12) hX.toFits) (ds_one (ds_if (dt_not (dt_val (PE.b (fc_call hX h__law_is (hr.mono (by decide)) (da_consB (PE.b (fc_call hX h_is_barrier (hr.mono (by decide)) (da_consB (PE.b (de_var 0)) (da_consB (PE.b (de_var 1)) (da_consB (PE.b (de_var 3)) (da_consB (PE.b (de_var 4)) (da_consB (PE.b (de_var 12)) da_nilB))))))) (da_consB (PE.b de_bl) da_nilB)))))) (ds_one (ds_ret de_bl)) ds_nil)))
      (ds_one (ds_ret de_bl))))))))))
abbrev qL : Str := (envOfC "law" (defScope (top 50)) 0 0 .none).qual ++ "<lambda>"
abbrev s_law : Stmt := top 50
theorem sc_law : FnScope N_law ["script"] (defScope s_law) := ⟨rfl, rfl, rfl, by decide +kernel, rfl, by decide +kernel, by decide +kernel⟩
theorem ok_law {P : Program} {w : World} {K : PySem.W.Frag} {mg : Str → Option Value} {base : Heap} {f : Addr} {fd : FuncData} (B : Bl mg) (F : FunD K "law" "law" (defArgs s_law) (defBody s_law) (defScope s_law) [] [] f fd) (hfA : He.fAd K ("law", none) = f) (hRS : RS K mg) (hTB : LamX.TabB base mg (He.cT K ("law", none)).1 (He.cT K ("law", none)).2) (h__law_begun : FN P w K mg base 1 "_law_begun" [] [] spBegun) (h__law_body : FN P w K mg base 2 "_law_body" ["script", "town"] [] (spT ⟨K, mg, P, w⟩ g__law_body)) (h__law_rock : FN P w K mg base 2 "_law_rock" ["script", "town", "most"] [] (spT ⟨K, mg, P, w⟩ g__law_rock)) (h__law_all : FN P w K mg base 2 "_law_all" ["holds", "parts"] [] (spD ⟨K, mg, P, w⟩ g__law_all)) (h__law_draw : FN P w K mg base 1 "_law_draw" ["script", "town", "many"] [] (spT ⟨K, mg, P, w⟩ g__law_draw)) (h__law_judged : FN P w K mg base 10 "_law_judged" ["rock_here", "body_here", "rows", "start_here", "top_here"] [] (spD ⟨K, mg, P, w⟩ g__law_judged)) (x_barrier : FNX P w K mg base 9 "barrier" ["rock", "body", "start", "top"] [0] (spX ⟨K, mg, P, w⟩ g_barrier)) (x_is_barrier : FNX P w K mg base 9 "is_barrier" ["rock", "body", "start", "top", "value"] [4] (spX ⟨K, mg, P, w⟩ g_is_barrier)) :
    FnOk P w K mg base CX0 12 f fd ["script"] (spL ⟨K, mg, P, w⟩ (lamT K qL) g_law) :=
  okL (body := b_law) F sc_law len_law t_law (fun C cdv A outer s H E lk hC0 hT0 hX hr =>
    have hLT : LT C (cxOf CX0 P w K mg base N_law "law" (defScope s_law) f cdv A outer s H E).nox := lt_of hfA lk rfl rfl rfl hT0 hTB
    (ds_cons (ds_begun (i := 1) hX hC0 h__law_begun (hr.mono (by decide)))
      (ds_cons (ds_for (T := (.nm 2)) hX.toFits PassesOwn.never (di_range (by rfl) (hX.mg0 B.range) (da_cons de_int da_nil)) (dg_name (i := 2) hX.toFits) (ds_cons (ds_unp (T := (.tp [4, 5])) (de_tup (da_cons (fc_town hX h__law_rock (hr.mono (by decide)) (da_town (i := 1) (de_var 0) (da_cons de_int da_nil))) (da_cons (fc_town hX h__law_body (hr.mono (by decide)) (da_town (i := 1) (de_var 0) da_nil)) da_nil))) (dg_tup (is := [4, 5]) hX.toFits (dgs_cons (i := 4) (dg_name (C := _) hX.toFits) (dgs_cons (i := 5) (dg_name (C := _) hX.toFits) dgs_nil))))
      (ds_cons (ds_set (i := 3) hX.toFits (fc_call hX h__law_all (hr.mono (by decide)) (da_consB (PE.b (de_var 4)) (da_consB (PE.b (de_var 5)) da_nilB))))
      (ds_one (ds_if (dt_cmp (or_ne hX.toFits) (cg_ne hX.toFits) (PE.b (de_var 3)) (PE.b (PE.f (df_lst da_nil))) (nomark _)) (ds_cons (ds_set (i := 6) hX.toFits (de_ix ix_seq (og_ix hX.toFits) (de_var 3) (fc_town hX h__law_draw (hr.mono (by decide)) (da_town (i := 1) (de_var 0) (da_cons (de_callBS cr_len (cs_len hX.toFits) (by rfl) (hX.mg0 B.len) (by decide +kernel) (da_consB (PE.b (de_var 3)) da_nilB)) da_nil)))))
      (ds_cons (ds_for (T := (.nm 7)) hX.toFits PassesOwn.never (di_range (by rfl) (hX.mg0 B.range) (da_cons de_int da_nil)) (dg_name (i := 7) hX.toFits) (ds_one (ds_if (dt_not (dt_val (PE.b (fc_call hX h__law_judged (hr.mono (by decide)) (da_consB (PE.b (de_var 4)) (da_consB (PE.b (de_var 5)) (da_consB (PE.b (de_var 3)) (da_consB (PE.b (de_var 6)) (da_consB (PE.b (fc_town hX h__law_draw (hr.mono (by decide)) (da_town (i := 1) (de_var 0) (da_cons (de_callBS cr_len (cs_len hX.toFits) (by rfl) (hX.mg0 B.len) (by decide +kernel) (da_consB (PE.b (de_var 4)) da_nilB)) da_nil)))) da_nilB))))))))) (ds_one (ds_ret de_bl)) ds_nil)))
      (ds_cons (ds_own (i := 8) hX.toFits (df_lst (da_cons (de_result (k := 9) hX hRS hLT (hr.mono (by decide)) (LamX.lamS_by (sc := defScope s_law) (by decide +kernel)) (fun Ar outer s H E f c' hY tk hr => (fx_call hY tk x_barrier (hr.mono (by decide)) (da_consB (PE.b (de_var 4)) (da_consB (PE.b (de_var 5)) (da_consB (PE.b de_non) (da_consB (PE.b de_int) da_nilB))))))) da_nil)))
      (ds_cons (ds_app (i := 8) (de_result (k := 9) hX hRS hLT (hr.mono (by decide)) (LamX.lamS_by (sc := defScope s_law) (by decide +kernel)) (fun Ar outer s H E f c' hY tk hr => (fx_call hY tk x_barrier (hr.mono (by decide)) (da_consB (PE.b (de_var 4)) (da_consB (PE.b (de_var 5)) (da_consB (PE.b (de_var 6)) (da_consB (PE.b de_int) da_nilB))))))))
      (ds_cons (ds_app (i := 8) (de_result (k := 9) hX hRS hLT (hr.mono (by decide)) (LamX.lamS_by (sc := defScope s_law) (by decide +kernel)) (fun Ar outer s H E f c' hY tk hr => (fx_call hY tk x_is_barrier (hr.mono (by decide)) (da_consB (PE.b (de_var 4)) (da_consB (PE.b (de_var 5)) (da_consB (PE.b (de_bin or_mul (og_mul hY.toFits) (de_tup (da_cons de_int da_nil)) de_int)) (da_consB (PE.b de_int) (da_consB (PE.b (de_tup da_nil)) da_nilB)))))))))
      (ds_cons (ds_app (i := 8) (de_result (k := 9) hX hRS hLT (hr.mono (by decide)) (LamX.lamS_by (sc := defScope s_law) (by decide +kernel)) (fun Ar outer s H E f c' hY tk hr => (fx_call hY tk x_is_barrier (hr.mono (by decide)) (da_consB (PE.b (de_var 4)) (da_consB (PE.b (de_var 5)) (da_consB (PE.b (de_var 6)) (da_consB (PE.b (de_un un_neg ug_neg de_int)) (da_consB (PE.b (de_tup da_nil)) da_nilB)))))))))
      (ds_one (ds_if (dt_cmp (or_ne hX.toFits) (cg_ne hX.toFits) (de_varB 8) (PE.b (PE.f (df_lst (da_cons (de_tup (da_cons de_str da_nil)) (da_cons (de_tup (da_cons de_str da_nil)) (da_cons (de_tup (da_cons de_str da_nil)) (da_cons (de_tup (da_cons de_str da_nil)) da_nil))))))) (nomark _)) (ds_one (ds_ret de_bl)) ds_nil)))))))) ds_nil)))))
      (ds_one (ds_ret de_bl)))))
theorem facts {w : World} {K : PySem.W.Frag} {h : Heap} {mg : Str → Option Value} {f : Addr} (X : K.In h) (G : h.Ns mainGlobals mg) (hfa : mg ("law" : Str) = some (.ref f)) (cx : He.SaysX fa fn [] [("law", none)] resB w h K) : LamX.LawAtS PySem.Challenge.rw_wallholds_k12_barriers w K CX0 12 63 "script" mg f h := by
  have c := cx.t.d
  obtain ⟨fd_is_between, F_is_between⟩ := c.def_ 0 (d := D_is_between) rfl
  obtain ⟨fd_are_between, F_are_between⟩ := c.def_ 1 (d := D_are_between) rfl
  obtain ⟨fd_is_hold, F_is_hold⟩ := c.def_ 2 (d := D_is_hold) rfl
  obtain ⟨fd_is_rock, F_is_rock⟩ := c.def_ 3 (d := D_is_rock) rfl
  obtain ⟨fd_is_body, F_is_body⟩ := c.def_ 4 (d := D_is_body) rfl
  obtain ⟨fd_check_rock, F_check_rock⟩ := c.def_ 5 (d := D_check_rock) rfl
  obtain ⟨fd_check_body, F_check_body⟩ := c.def_ 6 (d := D_check_body) rfl
  obtain ⟨fd_check_both, F_check_both⟩ := c.def_ 7 (d := D_check_both) rfl
  obtain ⟨fd_check_hold, F_check_hold⟩ := c.def_ 8 (d := D_check_hold) rfl
  obtain ⟨fd_apart_by, F_apart_by⟩ := c.def_ 9 (d := D_apart_by) rfl
  obtain ⟨fd_have_room, F_have_room⟩ := c.def_ 10 (d := D_have_room) rfl
  obtain ⟨fd_are_sorted, F_are_sorted⟩ := c.def_ 11 (d := D_are_sorted) rfl
  obtain ⟨fd_is_kept, F_is_kept⟩ := c.def_ 12 (d := D_is_kept) rfl
  obtain ⟨fd_is_good_one, F_is_good_one⟩ := c.def_ 13 (d := D_is_good_one) rfl
  obtain ⟨fd_check_stance, F_check_stance⟩ := c.def_ 14 (d := D_check_stance) rfl
  obtain ⟨fd_changed, F_changed⟩ := c.def_ 15 (d := D_changed) rfl
  obtain ⟨fd_next_stances, F_next_stances⟩ := c.def_ 16 (d := D_next_stances) rfl
  obtain ⟨fd_check_all, F_check_all⟩ := c.def_ 17 (d := D_check_all) rfl
  obtain ⟨fd_ways_from, F_ways_from⟩ := c.def_ 18 (d := D_ways_from) rfl
  obtain ⟨fd_does_top, F_does_top⟩ := c.def_ 19 (d := D_does_top) rfl
  obtain ⟨fd_check_top, F_check_top⟩ := c.def_ 20 (d := D_check_top) rfl
  obtain ⟨fd_barrier, F_barrier⟩ := c.def_ 21 (d := D_barrier) rfl
  obtain ⟨fd_is_barrier, F_is_barrier⟩ := c.def_ 22 (d := D_is_barrier) rfl
  obtain ⟨fd__law_result, F__law_result⟩ := c.def_ 23 (d := D__law_result) rfl
  obtain ⟨fd__law_is, F__law_is⟩ := c.def_ 24 (d := D__law_is) rfl
  obtain ⟨fd__law_draw, F__law_draw⟩ := c.def_ 25 (d := D__law_draw) rfl
  obtain ⟨fd__law_begun, F__law_begun⟩ := c.def_ 26 (d := D__law_begun) rfl
  obtain ⟨fd__law_rock, F__law_rock⟩ := c.def_ 27 (d := D__law_rock) rfl
  obtain ⟨fd__law_body, F__law_body⟩ := c.def_ 28 (d := D__law_body) rfl
  obtain ⟨fd__law_kept, F__law_kept⟩ := c.def_ 29 (d := D__law_kept) rfl
  obtain ⟨fd__law_all, F__law_all⟩ := c.def_ 30 (d := D__law_all) rfl
  obtain ⟨fd__law_near, F__law_near⟩ := c.def_ 31 (d := D__law_near) rfl
  obtain ⟨fd__law_levels, F__law_levels⟩ := c.def_ 32 (d := D__law_levels) rfl
  obtain ⟨fd__law_barrier, F__law_barrier⟩ := c.def_ 33 (d := D__law_barrier) rfl
  obtain ⟨fd__law_judged, F__law_judged⟩ := c.def_ 34 (d := D__law_judged) rfl
  obtain ⟨fd_law, F_law⟩ := c.def_ 35 (d := D_law) rfl
  have m_is_between := He.glo_ok X G (c.fact 0 (f := .glo "is_between") rfl)
  have m_are_between := He.glo_ok X G (c.fact 1 (f := .glo "are_between") rfl)
  have m_is_hold := He.glo_ok X G (c.fact 2 (f := .glo "is_hold") rfl)
  have m_is_rock := He.glo_ok X G (c.fact 3 (f := .glo "is_rock") rfl)
  have m_is_body := He.glo_ok X G (c.fact 4 (f := .glo "is_body") rfl)
  have m_check_rock := He.glo_ok X G (c.fact 5 (f := .glo "check_rock") rfl)
  have m_check_body := He.glo_ok X G (c.fact 6 (f := .glo "check_body") rfl)
  have m_check_both := He.glo_ok X G (c.fact 7 (f := .glo "check_both") rfl)
  have m_check_hold := He.glo_ok X G (c.fact 8 (f := .glo "check_hold") rfl)
  have m_apart_by := He.glo_ok X G (c.fact 9 (f := .glo "apart_by") rfl)
  have m_have_room := He.glo_ok X G (c.fact 10 (f := .glo "have_room") rfl)
  have m_are_sorted := He.glo_ok X G (c.fact 11 (f := .glo "are_sorted") rfl)
  have m_is_kept := He.glo_ok X G (c.fact 12 (f := .glo "is_kept") rfl)
  have m_is_good_one := He.glo_ok X G (c.fact 13 (f := .glo "is_good_one") rfl)
  have m_check_stance := He.glo_ok X G (c.fact 14 (f := .glo "check_stance") rfl)
  have m_changed := He.glo_ok X G (c.fact 15 (f := .glo "changed") rfl)
  have m_next_stances := He.glo_ok X G (c.fact 16 (f := .glo "next_stances") rfl)
  have m_check_all := He.glo_ok X G (c.fact 17 (f := .glo "check_all") rfl)
  have m_ways_from := He.glo_ok X G (c.fact 18 (f := .glo "ways_from") rfl)
  have m_does_top := He.glo_ok X G (c.fact 19 (f := .glo "does_top") rfl)
  have m_check_top := He.glo_ok X G (c.fact 20 (f := .glo "check_top") rfl)
  have m_barrier := He.glo_ok X G (c.fact 21 (f := .glo "barrier") rfl)
  have m_is_barrier := He.glo_ok X G (c.fact 22 (f := .glo "is_barrier") rfl)
  have m__law_result := He.glo_ok X G (c.fact 23 (f := .glo "_law_result") rfl)
  have m__law_is := He.glo_ok X G (c.fact 24 (f := .glo "_law_is") rfl)
  have m__law_draw := He.glo_ok X G (c.fact 25 (f := .glo "_law_draw") rfl)
  have m__law_begun := He.glo_ok X G (c.fact 26 (f := .glo "_law_begun") rfl)
  have m__law_rock := He.glo_ok X G (c.fact 27 (f := .glo "_law_rock") rfl)
  have m__law_body := He.glo_ok X G (c.fact 28 (f := .glo "_law_body") rfl)
  have m__law_kept := He.glo_ok X G (c.fact 29 (f := .glo "_law_kept") rfl)
  have m__law_all := He.glo_ok X G (c.fact 30 (f := .glo "_law_all") rfl)
  have m__law_near := He.glo_ok X G (c.fact 31 (f := .glo "_law_near") rfl)
  have m__law_levels := He.glo_ok X G (c.fact 32 (f := .glo "_law_levels") rfl)
  have m__law_barrier := He.glo_ok X G (c.fact 33 (f := .glo "_law_barrier") rfl)
  have m__law_judged := He.glo_ok X G (c.fact 34 (f := .glo "_law_judged") rfl)
  have m_law := He.glo_ok X G (c.fact 35 (f := .glo "law") rfl)
  have B : Bl mg := ⟨He.free_ok X G (c.fact 36 (f := .free "len") rfl), He.free_ok X G (c.fact 37 (f := .free "range") rfl), He.free_ok X G (c.fact 38 (f := .free "isinstance") rfl), He.free_ok X G (c.fact 39 (f := .free "all") rfl), He.free_ok X G (c.fact 40 (f := .free "any") rfl), He.free_ok X G (c.fact 41 (f := .free "max") rfl), He.free_ok X G (c.fact 42 (f := .free "min") rfl), He.free_ok X G (c.fact 43 (f := .free "abs") rfl), He.free_ok X G (c.fact 44 (f := .free "tuple") rfl), He.free_ok X G (c.fact 45 (f := .free "list") rfl), He.free_ok X G (c.fact 46 (f := .free "set") rfl), He.free_ok X G (c.fact 47 (f := .free "sorted") rfl), He.free_ok X G (c.fact 48 (f := .free "int") rfl), He.free_ok X G (c.fact 49 (f := .free "bool") rfl), He.free_ok X G (c.fact 50 (f := .free "str") rfl), He.free_ok X G (c.fact 51 (f := .free "zip") rfl), He.free_ok X G (c.fact 52 (f := .free "sum") rfl), He.free_ok X G (c.fact 53 (f := .free "enumerate") rfl)⟩
  have hve := He.free_ok X G (c.fact 54 (f := .free "ValueError") rfl)
  have g_ClimbError := He.glo_ok X G (c.fact 55 (f := .glo "ClimbError") rfl)
  have g_InvalidRock := He.glo_ok X G (c.fact 56 (f := .glo "InvalidRock") rfl)
  have g_InvalidBody := He.glo_ok X G (c.fact 57 (f := .glo "InvalidBody") rfl)
  have g_InvalidHold := He.glo_ok X G (c.fact 58 (f := .glo "InvalidHold") rfl)
  have g_InvalidStance := He.glo_ok X G (c.fact 59 (f := .glo "InvalidStance") rfl)
  have g_InvalidNumber := He.glo_ok X G (c.fact 60 (f := .glo "InvalidNumber") rfl)
  have g_InvalidLimb := He.glo_ok X G (c.fact 61 (f := .glo "InvalidLimb") rfl)
  have g_InvalidText := He.glo_ok X G (c.fact 62 (f := .glo "InvalidText") rfl)
  have g_NoMove := He.glo_ok X G (c.fact 63 (f := .glo "NoMove") rfl)
  have g_NothingToUndo := He.glo_ok X G (c.fact 64 (f := .glo "NothingToUndo") rfl)
  have q_ClimbError := He.exc_ok (c.fact 65 (f := .exc "ClimbError") rfl)
  have e_ClimbError : ExF K mg "ClimbError" := ⟨_, g_ClimbError, q_ClimbError.1, q_ClimbError.2.1, q_ClimbError.2.2.1, q_ClimbError.2.2.2⟩
  have q_InvalidRock := He.exc_ok (c.fact 66 (f := .exc "InvalidRock") rfl)
  have e_InvalidRock : ExF K mg "InvalidRock" := ⟨_, g_InvalidRock, q_InvalidRock.1, q_InvalidRock.2.1, q_InvalidRock.2.2.1, q_InvalidRock.2.2.2⟩
  have q_InvalidBody := He.exc_ok (c.fact 67 (f := .exc "InvalidBody") rfl)
  have e_InvalidBody : ExF K mg "InvalidBody" := ⟨_, g_InvalidBody, q_InvalidBody.1, q_InvalidBody.2.1, q_InvalidBody.2.2.1, q_InvalidBody.2.2.2⟩
  have q_InvalidHold := He.exc_ok (c.fact 68 (f := .exc "InvalidHold") rfl)
  have e_InvalidHold : ExF K mg "InvalidHold" := ⟨_, g_InvalidHold, q_InvalidHold.1, q_InvalidHold.2.1, q_InvalidHold.2.2.1, q_InvalidHold.2.2.2⟩
  have q_InvalidStance := He.exc_ok (c.fact 69 (f := .exc "InvalidStance") rfl)
  have e_InvalidStance : ExF K mg "InvalidStance" := ⟨_, g_InvalidStance, q_InvalidStance.1, q_InvalidStance.2.1, q_InvalidStance.2.2.1, q_InvalidStance.2.2.2⟩
  have q_InvalidNumber := He.exc_ok (c.fact 70 (f := .exc "InvalidNumber") rfl)
  have e_InvalidNumber : ExF K mg "InvalidNumber" := ⟨_, g_InvalidNumber, q_InvalidNumber.1, q_InvalidNumber.2.1, q_InvalidNumber.2.2.1, q_InvalidNumber.2.2.2⟩
  have q_InvalidLimb := He.exc_ok (c.fact 71 (f := .exc "InvalidLimb") rfl)
  have e_InvalidLimb : ExF K mg "InvalidLimb" := ⟨_, g_InvalidLimb, q_InvalidLimb.1, q_InvalidLimb.2.1, q_InvalidLimb.2.2.1, q_InvalidLimb.2.2.2⟩
  have q_InvalidText := He.exc_ok (c.fact 72 (f := .exc "InvalidText") rfl)
  have e_InvalidText : ExF K mg "InvalidText" := ⟨_, g_InvalidText, q_InvalidText.1, q_InvalidText.2.1, q_InvalidText.2.2.1, q_InvalidText.2.2.2⟩
  have q_NoMove := He.exc_ok (c.fact 73 (f := .exc "NoMove") rfl)
  have e_NoMove : ExF K mg "NoMove" := ⟨_, g_NoMove, q_NoMove.1, q_NoMove.2.1, q_NoMove.2.2.1, q_NoMove.2.2.2⟩
  have q_NothingToUndo := He.exc_ok (c.fact 74 (f := .exc "NothingToUndo") rfl)
  have e_NothingToUndo : ExF K mg "NothingToUndo" := ⟨_, g_NothingToUndo, q_NothingToUndo.1, q_NothingToUndo.2.1, q_NothingToUndo.2.2.1, q_NothingToUndo.2.2.2⟩
  have R : ResF K mg := resB_ok cx.more (fun n hn => by
    have : n = 0 ∨ n = 1 ∨ n = 2 ∨ n = 3 ∨ n = 4 ∨ n = 5 ∨ n = 6 ∨ n = 7 ∨ n = 8 := by omega
    rcases this with rfl | rfl | rfl | rfl | rfl | rfl | rfl | rfl | rfl
    · exact g_InvalidRock
    · exact g_InvalidBody
    · exact g_InvalidHold
    · exact g_InvalidLimb
    · exact g_InvalidNumber
    · exact g_InvalidStance
    · exact g_InvalidText
    · exact g_NoMove
    · exact g_NothingToUndo
    ) g_ClimbError
  have hRS := rs_ok F__law_result m__law_result R B hve
  have e := hfa.symm.trans m_law
  cases e
  have b := FunD.bindsA (ps := ["script"]) F_law fun _ _ _ _ _ _ us hl => match us, hl with | [_], _ => rfl
  refine ⟨fd_law, [He.cT K ("law", none)], spL ⟨K, mg, PySem.Challenge.rw_wallholds_k12_barriers.prog, w⟩ (lamT K qL) g_law, fun p hp => by rw [List.mem_singleton.mp hp]; exact cx.empty _ (List.mem_singleton.mpr rfl), fun p hp => by rw [List.mem_singleton.mp hp]; exact cx.out _ (List.mem_singleton.mpr rfl), fun p hp => by rw [List.mem_singleton.mp hp]; exact PySem.W.codeHd_of_K X (cx.hd _ (List.mem_singleton.mpr rfl)), fun s v => b s [v] rfl, fun H a ns hl _ hH hS => ?_, fun base _ _ TB => ?_⟩
  · have hTabs : LamX.Tabs (lamT K qL) H := fun p hp => by rw [List.mem_singleton.mp hp]; exact LamX.TabS.nil (hH _ (List.mem_singleton.mpr rfl))
    exact ⟨[.scr ns], fun d => d = .bl true, .cons (.scr (sql_hid hS hTabs)) .nil, hTabs, ⟨ns, rfl, hl, rfl⟩, fun d v H' N e dv => by subst e; cases dv; rfl⟩
  · have TB1 := TB _ (List.mem_singleton.mpr rfl)
    have h_is_between := ok_is_between (P := PySem.Challenge.rw_wallholds_k12_barriers.prog) (w := w) (base := base) B F_is_between m_is_between
    have h_apart_by := ok_apart_by (P := PySem.Challenge.rw_wallholds_k12_barriers.prog) (w := w) (base := base) B F_apart_by m_apart_by
    have h_have_room := ok_have_room (P := PySem.Challenge.rw_wallholds_k12_barriers.prog) (w := w) (base := base) B F_have_room m_have_room
    have h_are_sorted := ok_are_sorted (P := PySem.Challenge.rw_wallholds_k12_barriers.prog) (w := w) (base := base) B F_are_sorted m_are_sorted
    have h_changed := ok_changed (P := PySem.Challenge.rw_wallholds_k12_barriers.prog) (w := w) (base := base) B F_changed m_changed
    have h_does_top := ok_does_top (P := PySem.Challenge.rw_wallholds_k12_barriers.prog) (w := w) (base := base) B F_does_top m_does_top
    have h__law_is := ok__law_is (P := PySem.Challenge.rw_wallholds_k12_barriers.prog) (w := w) (base := base) B F__law_is m__law_is
    have h__law_draw := ok__law_draw (P := PySem.Challenge.rw_wallholds_k12_barriers.prog) (w := w) (base := base) B F__law_draw m__law_draw
    have h__law_begun := ok__law_begun (P := PySem.Challenge.rw_wallholds_k12_barriers.prog) (w := w) (base := base) F__law_begun m__law_begun
    have h__law_kept := ok__law_kept (P := PySem.Challenge.rw_wallholds_k12_barriers.prog) (w := w) (base := base) B F__law_kept m__law_kept
    have h__law_near := ok__law_near (P := PySem.Challenge.rw_wallholds_k12_barriers.prog) (w := w) (base := base) B F__law_near m__law_near
    have h_are_between := ok_are_between (P := PySem.Challenge.rw_wallholds_k12_barriers.prog) (w := w) (base := base) B F_are_between m_are_between h_is_between
    have h_check_hold := ok_check_hold (P := PySem.Challenge.rw_wallholds_k12_barriers.prog) (w := w) (base := base) B F_check_hold m_check_hold h_is_between
    have x_check_hold := okx_check_hold (P := PySem.Challenge.rw_wallholds_k12_barriers.prog) (w := w) (base := base) B F_check_hold m_check_hold h_is_between e_InvalidHold
    have h_is_kept := ok_is_kept (P := PySem.Challenge.rw_wallholds_k12_barriers.prog) (w := w) (base := base) B F_is_kept m_is_kept h_apart_by h_have_room h_are_sorted
    have h__law_rock := ok__law_rock (P := PySem.Challenge.rw_wallholds_k12_barriers.prog) (w := w) (base := base) B F__law_rock m__law_rock h__law_draw
    have h__law_body := ok__law_body (P := PySem.Challenge.rw_wallholds_k12_barriers.prog) (w := w) (base := base) B F__law_body m__law_body h__law_draw
    have h__law_all := ok__law_all (P := PySem.Challenge.rw_wallholds_k12_barriers.prog) (w := w) (base := base) B F__law_all m__law_all h__law_kept
    have h__law_levels := ok__law_levels (P := PySem.Challenge.rw_wallholds_k12_barriers.prog) (w := w) (base := base) B F__law_levels m__law_levels h__law_near
    have h__law_barrier := ok__law_barrier (P := PySem.Challenge.rw_wallholds_k12_barriers.prog) (w := w) (base := base) B F__law_barrier m__law_barrier h__law_near
    have h_is_hold := ok_is_hold (P := PySem.Challenge.rw_wallholds_k12_barriers.prog) (w := w) (base := base) B F_is_hold m_is_hold h_are_between
    have h_is_body := ok_is_body (P := PySem.Challenge.rw_wallholds_k12_barriers.prog) (w := w) (base := base) B F_is_body m_is_body h_are_between
    have h_is_good_one := ok_is_good_one (P := PySem.Challenge.rw_wallholds_k12_barriers.prog) (w := w) (base := base) B F_is_good_one m_is_good_one h_is_kept h_are_between
    have h_next_stances := ok_next_stances (P := PySem.Challenge.rw_wallholds_k12_barriers.prog) (w := w) (base := base) B F_next_stances m_next_stances h_changed h_is_kept
    have h_is_rock := ok_is_rock (P := PySem.Challenge.rw_wallholds_k12_barriers.prog) (w := w) (base := base) B F_is_rock m_is_rock h_is_hold
    have h_check_body := ok_check_body (P := PySem.Challenge.rw_wallholds_k12_barriers.prog) (w := w) (base := base) B F_check_body m_check_body h_is_body
    have x_check_body := okx_check_body (P := PySem.Challenge.rw_wallholds_k12_barriers.prog) (w := w) (base := base) B F_check_body m_check_body h_is_body e_InvalidBody
    have h_check_stance := ok_check_stance (P := PySem.Challenge.rw_wallholds_k12_barriers.prog) (w := w) (base := base) B F_check_stance m_check_stance h_is_good_one
    have x_check_stance := okx_check_stance (P := PySem.Challenge.rw_wallholds_k12_barriers.prog) (w := w) (base := base) B F_check_stance m_check_stance h_is_good_one e_InvalidStance
    have h_ways_from := ok_ways_from (P := PySem.Challenge.rw_wallholds_k12_barriers.prog) (w := w) (base := base) B F_ways_from m_ways_from h_next_stances
    have h_check_rock := ok_check_rock (P := PySem.Challenge.rw_wallholds_k12_barriers.prog) (w := w) (base := base) B F_check_rock m_check_rock h_is_rock
    have x_check_rock := okx_check_rock (P := PySem.Challenge.rw_wallholds_k12_barriers.prog) (w := w) (base := base) B F_check_rock m_check_rock h_is_rock e_InvalidRock
    have h_check_both := ok_check_both (P := PySem.Challenge.rw_wallholds_k12_barriers.prog) (w := w) (base := base) B F_check_both m_check_both h_check_rock h_check_body
    have x_check_both := okx_check_both (P := PySem.Challenge.rw_wallholds_k12_barriers.prog) (w := w) (base := base) B F_check_both m_check_both x_check_rock x_check_body
    have h_check_all := ok_check_all (P := PySem.Challenge.rw_wallholds_k12_barriers.prog) (w := w) (base := base) B F_check_all m_check_all h_check_both h_check_stance
    have x_check_all := okx_check_all (P := PySem.Challenge.rw_wallholds_k12_barriers.prog) (w := w) (base := base) B F_check_all m_check_all x_check_both x_check_stance
    have h_check_top := ok_check_top (P := PySem.Challenge.rw_wallholds_k12_barriers.prog) (w := w) (base := base) B F_check_top m_check_top h_check_all h_check_hold
    have x_check_top := okx_check_top (P := PySem.Challenge.rw_wallholds_k12_barriers.prog) (w := w) (base := base) B F_check_top m_check_top x_check_all x_check_hold
    have h_barrier := ok_barrier (P := PySem.Challenge.rw_wallholds_k12_barriers.prog) (w := w) (base := base) B F_barrier m_barrier h_check_top h_ways_from h_does_top
    have x_barrier := okx_barrier (P := PySem.Challenge.rw_wallholds_k12_barriers.prog) (w := w) (base := base) B F_barrier m_barrier h_ways_from h_does_top x_check_top
    have h_is_barrier := ok_is_barrier (P := PySem.Challenge.rw_wallholds_k12_barriers.prog) (w := w) (base := base) B F_is_barrier m_is_barrier h_check_top h_is_good_one h_does_top h_next_stances
    have x_is_barrier := okx_is_barrier (P := PySem.Challenge.rw_wallholds_k12_barriers.prog) (w := w) (base := base) B F_is_barrier m_is_barrier h_is_good_one h_does_top h_next_stances x_check_top
    have h__law_judged := ok__law_judged (P := PySem.Challenge.rw_wallholds_k12_barriers.prog) (w := w) (base := base) B F__law_judged m__law_judged h__law_levels h_barrier h__law_barrier h__law_is h_is_barrier
    exact ok_law (P := PySem.Challenge.rw_wallholds_k12_barriers.prog) (w := w) (base := base) B F_law rfl hRS TB1 h__law_begun h__law_body h__law_rock h__law_all h__law_draw h__law_judged x_barrier x_is_barrier
end WHd
open PySem PySem.W PySem.Calls PyProof.Rows
theorem PySem.Challenge.cw_wallholds_k12_barriers_holds : PySem.Challenge.rw_wallholds_k12_barriers.Holds := by
  w_on; o_law
  refine HandSHeadRun.head_any (r := OpenLaw.row PySem.Challenge.rw_wallholds_k12_barriers) (q := view (OpenLaw.row PySem.Challenge.rw_wallholds_k12_barriers).prog [50]) (H := WHd.hk) (ob := WHd.ob) (M := 4000) (loose := WHd.loose) (d := HandSHeadRun.topDef (OpenLaw.row PySem.Challenge.rw_wallholds_k12_barriers).prog 50) (kwd := []) WHd.ob_eq
    (by kernel_rfl) (fun s => by kernel_rfl) WHd.run (by kernel_rfl) (by kernel_rfl) (by kernel_rfl) (by rfl) (by first | assumption | decide +kernel) (by decide +kernel) ⟨rfl, rfl, rfl, rfl, rfl, by decide +kernel⟩ ?hw ?hc
  case hw => w_witness2
  case hc =>
    refine WH.walk_tabs (l := PySem.Challenge.rw_wallholds_k12_barriers) (n := 63) (k := 12) (x := "script") (CX := L2.CX0) rfl (by decide) (by kernel_rfl) ⟨rfl, by decide, by decide⟩ ?F (fun _ _ _ _ z => z)
    intro w mg fa h Y G hmg0
    obtain ⟨K, KX, c⟩ := Y
    have hmg : mg ("law" : PySem.Str) = some (.ref fa) := by
      have e : (HandSHeadRun.topDef (OpenLaw.row PySem.Challenge.rw_wallholds_k12_barriers).prog 50).name = ("law" : PySem.Str) := by kernel_rfl
      rw [← e]
      exact hmg0
    exact ⟨K, KX, WHd.facts KX G hmg c⟩
