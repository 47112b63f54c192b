import PyProof.Rows.All
import Wide.All
import OpenK.AllK
import Wide.FinOn
import HandS.ForMost
import HandS.ForExc
import HandS.CallSlots
import HandS.Defaults
import HandS.More
import HandS.ExcValue
import HandS.ExcInit
import HandS.ExcField
import HandS.ExcIs
import HandS.IsInst
import HandS.TupAny
import HandS.Wide
import HandS.Style
import HandS.TupLen
import PyProof.ReprRoads
import HandS.Ends
import HandS.HeadEnd
import HandS.Property
import HandS.MakeKw
import KE.KExcIs
import HandS.HeadHook2
import HandS.Head0
import HandS.Head1
import HandS.Head2
import HandS.HeadHook1
import PySem.Challenge.RW_worthlevels_k01_errors_made
set_option Elab.async false
set_option linter.all false
set_option maxRecDepth 100000
set_option maxHeartbeats 4000000
/-! WA: pure data over the hand layer: what a value stands for, the pure environment, the judgements. -/
namespace WL
open PySem PySem.Spec PyProof.Rows L2

/-- a pure datum -/
inductive D where
  | non | bl (b : Bool) | int (i : Int) | str (x : Str)
  | tup (xs : List D) | lst (xs : List D) | dct (ps : List (D × D))
  | ins (c : Nat) (fs : List D) | exc (c : Nat) (fs : List D)
  | cls (c : Nat) | tok (k : Nat) | wtp (xs : List D) | wls (xs : List D)

def keyD : Key → D
  | .inl i => .int i
  | .inr x => .str x
theorem keyD_inj {a b : Key} (h : keyD a = keyD b) : a = b := by
  cases a <;> cases b <;> simp [keyD] at h <;> simp [h]

def isDk : HO → Bool
  | .dK _ => true
  | .dT _ => true
  | _ => false
def isFz : HO → Bool
  | .frz _ u => isDk u
  | .tbl _ => true
  | _ => false
/-- how often a law may draw -/
def limT : Nat := 2 ^ 9000
theorem limT_big : 2 ^ 250 ≤ limT := Nat.pow_le_pow_right (by decide) (by decide)
/-- what is frozen, and how often was drawn -/
structure Fz where
  h : Hp
  T : Nat
instance : CoeFun Fz fun _ => Hp := ⟨Fz.h⟩
instance : Coe Fz Hp := ⟨Fz.h⟩
def Fz.put (S : Fz) (a : Addr) (u : HO) : Fz := ⟨upd S.h a u, S.T⟩
theorem Fz.put_same {S : Fz} {a : Addr} {u : HO} : (S.put a u) a = some u := upd_same
theorem Fz.put_ne {S : Fz} {a b : Addr} {u : HO} (h : b ≠ a) : (S.put a u) b = S b := upd_ne h
theorem Fz.put_T {S : Fz} {a : Addr} {u : HO} : (S.put a u).T = S.T := rfl
/-- S' tells at least what S tells (a dict may be locked in either), behind at most n draws more -/
structure Sub (n : Nat) (S S' : Fz) : Prop where
  dk : ∀ a u, isDk u = true → Rd S a u → Rd S' a u
  ot : ∀ a u, isDk u = false → isFz u = false → S a = some u → S' a = some u
  lo : S'.T ≤ S.T + n
theorem Sub.refl (S : Fz) {n : Nat} : Sub n S S := ⟨fun _ _ _ h => h, fun _ _ _ _ h => h, Nat.le_add_right _ _⟩
theorem Sub.trans {n m : Nat} {S S1 S2 : Fz} (a : Sub n S S1) (b : Sub m S1 S2) : Sub (n + m) S S2 := ⟨fun c u n h => b.dk c u n (a.dk c u n h), fun c u n f h => b.ot c u n f (a.ot c u n f h), by have := a.lo; have := b.lo; omega⟩
theorem Sub.up {n m : Nat} {S S1 : Fz} (a : Sub n S S1) (h : n ≤ m) : Sub m S S1 := ⟨a.dk, a.ot, by have := a.lo; omega⟩
/-- .. no draws behind it -/
theorem Sub.t0 {n : Nat} {S S1 S2 : Fz} (a : Sub n S S1) (b : Sub 0 S1 S2) : Sub n S S2 := a.trans b
theorem Sub.of {n : Nat} {S S' : Fz} (h : ∀ a o, S a = some o → S' a = some o) (hl : S'.T ≤ S.T + n) : Sub n S S' := ⟨fun a u _ r => by
  rcases r with r | ⟨o, r⟩
  · exact .inl (h _ _ r)
  · exact .inr ⟨o, h _ _ r⟩, fun a vs _ _ e => h _ _ e, hl⟩
theorem Sub.upd {n : Nat} {S : Fz} {a : Addr} {o : HO} (h : S a = none) : Sub n S (S.put a o) := Sub.of (fun b u e => by
  rw [Fz.put_ne (ne_of_none e h)]; exact e) (Nat.le_add_right _ _)

/-- what the whole text shares: its own classes (address, attributes), the tokens (mutable things of all defs), where these lie, what is always true of them -/
structure Glob where
  ct : Nat → Option (Addr × List Str)
  ec : Nat → Option (Addr × Option Str)
  tk : Nat → Option Addr
  M : Addr → Prop
  J : Nat → Hp → Prop
  jlaw : ∀ T H H', J T H → (∀ a o, H a = some o → (M a ∨ ∃ p, o = .ext p) → H' a = some o) → J T H'
  mth : ∀ T H a, J T H → M a → H a ≠ none

/-- the value stands for the datum, by the frozen heap S -/
inductive Den (G : Glob) (K : PySem.W.Frag) (S : Fz) : V → D → Prop
  | non : Den G K S .non .non
  | bl (b : Bool) : Den G K S (.bl b) (.bl b)
  | int (i : Int) : Den G K S (.int i) (.int i)
  | str (x : Str) : Den G K S (.str x) (.str x)
  | tup {a : Addr} {vs : List V} {ds : List D} : S a = some (.tup vs) → vs.length = ds.length → (∀ (i : Nat) (v : V) (d : D), vs[i]? = some v → ds[i]? = some d → Den G K S v d) → Den G K S (.ref a) (.tup ds)
  | lst {a : Addr} {vs : List V} {ds : List D} : S a = some (.lst vs) → vs.length = ds.length → (∀ (i : Nat) (v : V) (d : D), vs[i]? = some v → ds[i]? = some d → Den G K S v d) → Den G K S (.ref a) (.lst ds)
  | dK {a : Addr} {kvs : List (Key × V)} {ps : List (D × D)} : Rd S a (.dK kvs) → kvs.length = ps.length → (∀ (i : Nat) (k : Key × V) (p : D × D), kvs[i]? = some k → ps[i]? = some p → p.1 = keyD k.1) →
      (∀ (i : Nat) (k : Key × V) (p : D × D), kvs[i]? = some k → ps[i]? = some p → Den G K S k.2 p.2) → Den G K S (.ref a) (.dct ps)
  | dT {a : Addr} {kvs : List (List Key × V)} {ps : List (D × D)} : Rd S a (.dT kvs) → kvs ≠ [] → kvs.length = ps.length → (∀ (i : Nat) (k : List Key × V) (p : D × D), kvs[i]? = some k → ps[i]? = some p → p.1 = .tup (k.1.map keyD)) →
      (∀ (i : Nat) (k : List Key × V) (p : D × D), kvs[i]? = some k → ps[i]? = some p → Den G K S k.2 p.2) → Den G K S (.ref a) (.dct ps)
  | ins {a C dx : Addr} {fs : List (Str × V)} {c : Nat} {ns : List Str} {ds : List D} : S a = some (.ins C dx fs) → G.ct c = some (C, ns) → fs.map (·.1) = ns → fs.length = ds.length →
      (∀ (i : Nat) (f : Str × V) (d : D), fs[i]? = some f → ds[i]? = some d → Den G K S f.2 d) → Den G K S (.ref a) (.ins c ds)
  | cls {C : Addr} {c : Nat} {ns : List Str} : G.ct c = some (C, ns) → Den G K S (.ref C) (.cls c)
  | tok {a : Addr} {k : Nat} : G.tk k = some a → Den G K S (.ref a) (.tok k)
  | wtp {a : Addr} {vs : List V} {ds : List D} : (∀ H, SqT K H a vs) → vs.length = ds.length → (∀ (i : Nat) (v : V) (d : D), vs[i]? = some v → ds[i]? = some d → Den G K S v d) → Den G K S (.ref a) (.wtp ds)
  | wls {a : Addr} {vs : List V} {ds : List D} : ((∃ o, S a = some (.frz o (.lst vs))) ∨ ∀ H, SqL K H a vs) → vs.length = ds.length → (∀ (i : Nat) (v : V) (d : D), vs[i]? = some v → ds[i]? = some d → Den G K S v d) → Den G K S (.ref a) (.wls ds)
  | exc0 {a C : Addr} {c : Nat} : G.ec c = some (C, none) → S a = some (ExO (.ref C) a) → Den G K S (.ref a) (.exc c [])
  | exc1 {a C e : Addr} {c : Nat} {f : Str} {v : V} {d : D} : G.ec c = some (C, some f) → S a = some (exo a C (some e)) → S e = some (exd e [(f, v)]) → Den G K S v d → Den G K S (.ref a) (.exc c [d])

theorem Den.mono {n : Nat} {G : Glob} {K : PySem.W.Frag} {S S' : Fz} (m : Sub n S S') {v : V} {d : D} (h : Den G K S v d) : Den G K S' v d := by
  induction h with
  | non => exact .non
  | bl b => exact .bl b
  | int i => exact .int i
  | str x => exact .str x
  | tup h l _ ih => exact .tup (m.ot _ _ rfl rfl h) l ih
  | lst h l _ ih => exact .lst (m.ot _ _ rfl rfl h) l ih
  | dK h l k _ ih => exact .dK (m.dk _ _ rfl h) l k ih
  | dT h n l k _ ih => exact .dT (m.dk _ _ rfl h) n l k ih
  | ins h c n l _ ih => exact .ins (m.ot _ _ rfl rfl h) c n l ih
  | cls h => exact .cls h
  | tok h => exact .tok h
  | wtp h l _ ih => exact .wtp h l ih
  | wls h l _ ih => exact .wls (h.imp_left fun ⟨o, h⟩ => ⟨o, m.ot _ _ rfl rfl h⟩) l ih
  | exc0 h e => exact .exc0 h (m.ot _ _ rfl rfl e)
  | exc1 h e g _ ih => exact .exc1 h (m.ot _ _ rfl rfl e) (m.ot _ _ rfl rfl g) ih

def DenL (G : Glob) (K : PySem.W.Frag) (S : Fz) (vs : List V) (ds : List D) : Prop := Paired (Den G K S) vs ds
theorem DenL.mono {n : Nat} {G : Glob} {K : PySem.W.Frag} {S S' : Fz} (m : Sub n S S') {vs : List V} {ds : List D} (h : DenL G K S vs ds) : DenL G K S' vs ds := Paired.mapP h fun _ _ => Den.mono m
theorem paired_at {α β : Type} {F : α → β → Prop} {l₁ : List α} {l₂ : List β} (h : Paired F l₁ l₂) : ∀ (i : Nat) a b, l₁[i]? = some a → l₂[i]? = some b → F a b := by
  induction h with
  | nil => intro i a b h; simp at h
  | cons r _ ih =>
    intro i a b h1 h2
    cases i with
    | zero => simp at h1 h2; subst h1; subst h2; exact r
    | succ i => exact ih i a b (by simpa using h1) (by simpa using h2)
theorem paired_of {α β : Type} {F : α → β → Prop} : ∀ {l₁ : List α} {l₂ : List β}, l₁.length = l₂.length → (∀ (i : Nat) a b, l₁[i]? = some a → l₂[i]? = some b → F a b) → Paired F l₁ l₂
  | [], [], _, _ => .nil
  | a :: l, b :: m, hl, h => .cons (h 0 a b rfl rfl) (paired_of (by simpa using hl) fun i x y h1 h2 => h (i + 1) x y (by simpa using h1) (by simpa using h2))
  | [], _ :: _, hl, _ => by simp at hl
  | _ :: _, [], hl, _ => by simp at hl
def DenK (G : Glob) (K : PySem.W.Frag) (S : Fz) (kvs : List (Key × V)) (ps : List (D × D)) : Prop := Paired (fun k p => p.1 = keyD k.1 ∧ Den G K S k.2 p.2) kvs ps
def DenT (G : Glob) (K : PySem.W.Frag) (S : Fz) (kvs : List (List Key × V)) (ps : List (D × D)) : Prop := Paired (fun k p => p.1 = .tup (k.1.map keyD) ∧ Den G K S k.2 p.2) kvs ps
theorem DenK.mono {n : Nat} {G : Glob} {K : PySem.W.Frag} {S S' : Fz} (m : Sub n S S') {vs} {ds} (h : DenK G K S vs ds) : DenK G K S' vs ds := Paired.mapP h fun _ _ z => ⟨z.1, z.2.mono m⟩
theorem DenT.mono {n : Nat} {G : Glob} {K : PySem.W.Frag} {S S' : Fz} (m : Sub n S S') {vs} {ds} (h : DenT G K S vs ds) : DenT G K S' vs ds := Paired.mapP h fun _ _ z => ⟨z.1, z.2.mono m⟩

section
variable {G : Glob} {K : PySem.W.Frag} {S : Fz}
theorem den_tup {a : Addr} {vs : List V} {ds : List D} (h : S a = some (.tup vs)) (r : DenL G K S vs ds) : Den G K S (.ref a) (.tup ds) := .tup h r.length (paired_at r)
theorem den_lst {a : Addr} {vs : List V} {ds : List D} (h : S a = some (.lst vs)) (r : DenL G K S vs ds) : Den G K S (.ref a) (.lst ds) := .lst h r.length (paired_at r)
theorem den_dK {a : Addr} {vs} {ds : List (D × D)} (h : Rd S a (.dK vs)) (r : DenK G K S vs ds) : Den G K S (.ref a) (.dct ds) :=
  .dK h r.length (fun i k p h1 h2 => (paired_at r i k p h1 h2).1) (fun i k p h1 h2 => (paired_at r i k p h1 h2).2)
theorem den_dT {a : Addr} {vs} {ds : List (D × D)} (h : Rd S a (.dT vs)) (n : vs ≠ []) (r : DenT G K S vs ds) : Den G K S (.ref a) (.dct ds) :=
  .dT h n r.length (fun i k p h1 h2 => (paired_at r i k p h1 h2).1) (fun i k p h1 h2 => (paired_at r i k p h1 h2).2)
end

section
variable {G : Glob} {K : PySem.W.Frag} {S : Fz} {v : V}
theorem Den.int_inv {i : Int} (h : Den G K S v (.int i)) : v = .int i := by cases h; rfl
theorem Den.str_inv {x : Str} (h : Den G K S v (.str x)) : v = .str x := by cases h; rfl
theorem Den.bl_inv {b : Bool} (h : Den G K S v (.bl b)) : v = .bl b := by cases h; rfl
theorem Den.non_inv (h : Den G K S v .non) : v = .non := by cases h; rfl
theorem Den.tup_inv {ds : List D} (h : Den G K S v (.tup ds)) : ∃ a vs, v = .ref a ∧ S a = some (.tup vs) ∧ DenL G K S vs ds := by
  cases h with
  | tup h l r => exact ⟨_, _, rfl, h, paired_of l r⟩
theorem Den.lst_inv {ds : List D} (h : Den G K S v (.lst ds)) : ∃ a vs, v = .ref a ∧ S a = some (.lst vs) ∧ DenL G K S vs ds := by
  cases h with
  | lst h l r => exact ⟨_, _, rfl, h, paired_of l r⟩
theorem Den.dct_inv {ps : List (D × D)} (h : Den G K S v (.dct ps)) : ∃ a, v = .ref a ∧ ((∃ kvs, Rd S a (.dK kvs) ∧ DenK G K S kvs ps) ∨ ∃ kvs, Rd S a (.dT kvs) ∧ kvs ≠ [] ∧ DenT G K S kvs ps) := by
  cases h with
  | dK h l k r => exact ⟨_, rfl, .inl ⟨_, h, paired_of l fun i x y h1 h2 => ⟨k i x y h1 h2, r i x y h1 h2⟩⟩⟩
  | dT h n l k r => exact ⟨_, rfl, .inr ⟨_, h, n, paired_of l fun i x y h1 h2 => ⟨k i x y h1 h2, r i x y h1 h2⟩⟩⟩
theorem Den.tok_inv {k : Nat} (h : Den G K S v (.tok k)) : ∃ a, v = .ref a ∧ G.tk k = some a := by
  cases h with
  | tok h => exact ⟨_, rfl, h⟩
end

theorem Den.wls_inv {G : Glob} {K : PySem.W.Frag} {S : Fz} {v : V} {ds : List D} (h : Den G K S v (.wls ds)) : ∃ a vs, v = .ref a ∧ (∀ H, (∀ b o, S b = some o → H b = some o) → SqL K H a vs) ∧ ((∃ o, S a = some (.frz o (.lst vs))) ∨ ∀ H, SqL K H a vs) ∧ DenL G K S vs ds := by
  cases h with
  | wls h l r =>
    refine ⟨_, _, rfl, fun H q => ?_, h, paired_of l r⟩
    rcases h with ⟨o, h⟩ | h
    · exact .inl (.inr ⟨o, q _ _ h⟩)
    · exact h H
/-! ### the pure environment -/
inductive Own where
  | lst (xs : List D) | dct (ps : List (D × D)) | ins (c : Nat) (fs : List (Str × D))
def Own.d : Own → D
  | .lst xs => .lst xs
  | .dct ps => .dct ps
  | .ins c fs => .ins c (fs.map (·.2))
/-- a list or a dict -/
def Own.con : Own → Bool
  | .ins _ _ => false
  | _ => true
/-- an instance has all of its attributes -/
def Own.full (G : Glob) : Own → Prop
  | .ins c fs => ∃ C, G.ct c = some (C, fs.map (·.1))
  | _ => True
theorem Own.con_full {G : Glob} {o : Own} (h : o.con = true) : o.full G := by cases o <;> first | trivial | cases h
theorem Own.d_inj {o o' : Own} (h : o.con = true) (h' : o'.con = true) (e : o.d = o'.d) : o = o' := by
  cases o <;> cases o' <;> simp [Own.d, Own.con] at e h h' <;> rw [e]
def DenF (G : Glob) (K : PySem.W.Frag) (S : Fz) (vs : List (Str × V)) (fs : List (Str × D)) : Prop := Paired (fun v f => v.1 = f.1 ∧ Den G K S v.2 f.2) vs fs
theorem DenF.mono {n : Nat} {G : Glob} {K : PySem.W.Frag} {S S' : Fz} (m : Sub n S S') {vs fs} (h : DenF G K S vs fs) : DenF G K S' vs fs := Paired.mapP h fun _ _ z => ⟨z.1, z.2.mono m⟩
inductive Slot where
  | imm (d : D) | own (o : Own)
abbrev EnvD := List (Option Slot)
theorem DenF.names {G : Glob} {K : PySem.W.Frag} {S : Fz} : ∀ {vs : List (Str × V)} {fs : List (Str × D)}, DenF G K S vs fs → vs.map (·.1) = fs.map (·.1)
  | _, _, .nil => rfl
  | _, _, .cons r t => by simp only [List.map_cons]; rw [r.1, DenF.names t]
/-- what a container of one's own holds -/
def OwnAt (G : Glob) (K : PySem.W.Frag) (S : Fz) (H : Hp) (a : Addr) : Own → Prop
  | .lst xs => ∃ vs, H a = some (.lst vs) ∧ DenL G K S vs xs
  | .dct ps => (∃ kvs, H a = some (.dK kvs) ∧ DenK G K S kvs ps) ∨ (∃ kvs, H a = some (.dT kvs) ∧ kvs ≠ [] ∧ DenT G K S kvs ps)
  | .ins c fs => ∃ C ns dx vs, G.ct c = some (C, ns) ∧ H a = some (.ins C dx vs) ∧ DenF G K S vs fs
theorem OwnAt.mono {n : Nat} {G : Glob} {K : PySem.W.Frag} {S S' : Fz} {H H' : Hp} {a : Addr} {o : Own} (m : Sub n S S') (e : H' a = H a) (h : OwnAt G K S H a o) : OwnAt G K S' H' a o := by
  cases o with
  | lst xs => obtain ⟨vs, h1, h2⟩ := h; exact ⟨vs, e.trans h1, h2.mono m⟩
  | dct ps =>
    rcases h with ⟨vs, h1, h2⟩ | ⟨vs, h1, hn, h2⟩
    · exact .inl ⟨vs, e.trans h1, h2.mono m⟩
    · exact .inr ⟨vs, e.trans h1, hn, h2.mono m⟩
  | ins c fs => obtain ⟨C, ns, dx, vs, h1, h2, h3⟩ := h; exact ⟨C, ns, dx, vs, h1, e.trans h2, h3.mono m⟩
theorem OwnAt.there {G : Glob} {K : PySem.W.Frag} {S : Fz} {H : Hp} {a : Addr} {o : Own} (h : OwnAt G K S H a o) : ∃ u, H a = some u ∧ Mut (some u) ∧ (∀ o w, u ≠ .frz o w) ∧ (∀ p, u ≠ .ext p) ∧ ∀ ps, u ≠ .tbl ps := by
  cases o with
  | lst xs => obtain ⟨vs, h1, _⟩ := h; exact ⟨_, h1, trivial, (fun _ _ z => nomatch z), (fun _ z => nomatch z), fun _ z => nomatch z⟩
  | dct ps =>
    rcases h with ⟨vs, h1, _⟩ | ⟨vs, h1, _⟩ <;> exact ⟨_, h1, trivial, (fun _ _ z => nomatch z), (fun _ z => nomatch z), fun _ z => nomatch z⟩
  | ins c fs => obtain ⟨C, ns, dx, vs, _, h1, _⟩ := h; exact ⟨_, h1, trivial, (fun _ _ z => nomatch z), (fun _ z => nomatch z), fun _ z => nomatch z⟩
/-- the heap and what is frozen at the entry; the containers that are held aside -/
structure Bs where
  H0 : Hp
  S0 : Hp
  tmp : List (Addr × Own) := []
  self : Addr := 0
/-- what is frozen (S), the heap (H) -/
structure Sta (G : Glob) (K : PySem.W.Frag) (B : Bs) (S : Fz) (H : Hp) : Prop where
  le : ∀ a o, S a = some o → H a = some o
  sm : ∀ a, G.M a → S a = none
  j : G.J S.T H
  dom : ∀ a, B.H0 a ≠ none → H a ≠ none
  sn : ∀ a, S a ≠ none → B.S0 a ≠ none ∨ B.H0 a = none
  kept : ∀ a o, B.H0 a = some o → ¬ G.M a → (∀ ps, o ≠ .tbl ps) → H a = some o
/-- a container that is ours alone -/
structure Own1 (G : Glob) (K : PySem.W.Frag) (B : Bs) (S : Fz) (H : Hp) (a : Addr) (o : Own) : Prop where
  s : S a = none
  m : ¬ G.M a
  h0 : B.H0 a = none
  at_ : OwnAt G K S H a o
def Owns (σ : L2.St) (ρ : EnvD) (i : Nat) (a : Addr) (o : Own) : Prop := ρ[i]? = some (some (Slot.own o)) ∧ σ[i]? = some (some (V.ref a))
/-- an exception in the air: its class, its dict, what it tells -/
def DX (G : Glob) (K : PySem.W.Frag) (S : Fz) (H : Hp) (cls : Value) (dx : Option Addr) : D → Prop
  | .exc c fs => ∃ C fl, G.ec c = some (C, fl) ∧ cls = .ref C ∧ match fl with
    | none => dx = none ∧ fs = []
    | some f => ∃ d v y, dx = some d ∧ H d = some (.xd [(f, v)]) ∧ fs = [y] ∧ Den G K S v y
  | _ => False
/-- what is wanted of exceptions: over values (W), over data (xd); the slots that a handler leans on (keep) -/
structure XO where
  W : WX
  xd : D → Prop
  keep : Nat → Bool
  t0 : Nat
/-- the state: the slots' values and what they stand for -/
structure Eok (G : Glob) (K : PySem.W.Frag) (O : XO) (B : Bs) (S : Fz) (H : Hp) (σ : L2.St) (ρ : EnvD) : Prop extends Sta G K B S H where
  tz : S.T ≤ O.t0 ∨ ∀ x, ¬ O.xd x
  xr : ∀ n cls dx S' H' σ' x, Sta G K B S' H' → S'.T ≤ O.t0 → Sub n S S' → (∀ i, O.keep i = true → σ'[i]? = σ[i]?) → DX G K S' H' cls dx x → O.xd x → O.W cls dx σ' H'
  im : ∀ (i : Nat) (d : D), ρ[i]? = some (some (Slot.imm d)) → ∃ v : V, σ[i]? = some (some v) ∧ Den G K S v d
  ow : ∀ (i : Nat) (o : Own), ρ[i]? = some (some (Slot.own o)) → ∃ a : Addr, σ[i]? = some (some (V.ref a)) ∧ Own1 G K B S H a o
  ap : ∀ i j a o o', Owns σ ρ i a o → Owns σ ρ j a o' → i = j
  tm : ∀ (j : Nat) a o, B.tmp[j]? = some (a, o) → Own1 G K B S H a o
  ta : ∀ (i j : Nat) a o o', Owns σ ρ i a o → B.tmp[j]? = some (a, o') → False
  tt : ∀ (i j : Nat) a o o', B.tmp[i]? = some (a, o) → B.tmp[j]? = some (a, o') → i = j
  len : σ.length = ρ.length
  sf : ∀ (i c : Nat) fs, ρ[i]? = some (some (Slot.own (.ins c fs))) → σ[i]? = some (some (V.ref B.self))
/-- nobody's -/
structure Nob (B : Bs) (σ : L2.St) (ρ : EnvD) (a : Addr) : Prop where
  no : ∀ i o, ¬ Owns σ ρ i a o
  nt : ∀ (j : Nat) o, B.tmp[j]? = some (a, o) → False

/-- how a result lies: frozen; in a container that is new and nobody's; in the container of slot i -/
inductive Kd where
  | st | fr | bo (i : Nat)
  deriving DecidableEq
def ROk (G : Glob) (K : PySem.W.Frag) (B : Bs) (S : Fz) (H : Hp) (σ : L2.St) (ρ : EnvD) (v : V) (d : D) : Kd → Prop
  | .st => Den G K S v d
  | .fr => ∃ a o, v = .ref a ∧ d = Own.d o ∧ Own1 G K B S H a o ∧ o.con = true ∧ Nob B σ ρ a
  | .bo i => ∃ a o, v = .ref a ∧ d = Own.d o ∧ Owns σ ρ i a o ∧ o.con = true

/-- a reading over pure data -/
abbrev FE := EnvD → (EnvD → D → Prop) → Prop
/-- an expression: its kind, whether it leaves the environment as it is (c), how often it draws at most (n), its pure reading -/
structure PDe (G : Glob) (X : Cx) (O : XO) (e : Expr) (k : Kd) (c : Bool) (n : Nat) (f : FE) : Prop where
  run : ∃ t : TE, PE X e t ∧ ∀ (B : Bs) (S : Fz) (H : Hp) (σ : L2.St) (ρ : EnvD) (Kc : EnvD → D → Prop) (Q : VK), Eok G X.K O B S H σ ρ → S.T + n ≤ limT → f ρ Kc →
    (∀ v H' S' ρ' d, Eok G X.K O B S' H' σ ρ' → Sub n S S' → (c = true → ρ' = ρ) → ROk G X.K B S' H' σ ρ' v d k → Kc ρ' d → Q v H') → t σ H Q
end WL

/-! WB: expressions: names, constants, operators, calls of built-ins, displays. -/
namespace WL
open PySem PySem.Spec PyProof.Rows L2
section
variable {G : Glob} {K : PySem.W.Frag} {O : XO} {B : Bs} {S S' : Fz} {H H' : Hp} {σ : L2.St} {ρ : EnvD}

theorem Owns.at {i : Nat} {a : Addr} {o : Own} (I : Eok G K O B S H σ ρ) (h : Owns σ ρ i a o) : Own1 G K B S H a o := by
  obtain ⟨b, e, r⟩ := I.ow i o h.1
  have := h.2
  rw [e] at this
  cases this
  exact r
theorem Own1.keep {n : Nat} {a : Addr} {o : Own} (h : Own1 G K B S H a o) (m : Sub n S S') (e1 : S' a = S a) (e2 : H' a = H a) : Own1 G K B S' H' a o :=
  ⟨e1.trans h.s, h.m, h.h0, h.at_.mono m e2⟩
theorem Own1.some {a : Addr} {o : Own} (h : Own1 G K B S H a o) : H a ≠ none := by
  obtain ⟨u, e, _⟩ := h.at_.there
  rw [e]; exact fun z => nomatch z
/-- S grows, H changes, at places that are nobody's -/
theorem Eok.step {x : Addr} (I : Eok G K O B S H σ ρ) (t : Sta G K B S' H') (hT : S'.T = S.T) (m : Sub 0 S S') (n : Nob B σ ρ x) (e1 : ∀ b, b ≠ x → S' b = S b) (e2 : ∀ b, b ≠ x → H' b = H b) : Eok G K O B S' H' σ ρ := by
  refine ⟨t, by rw [hT]; exact I.tz, fun n2 cls dx S2 H2 σ2 x t2 l2 m2 k2 d2 => I.xr (0 + n2) cls dx S2 H2 σ2 x t2 l2 (m.trans m2) k2 d2, fun i d e => ?_, fun i o e => ?_, I.ap, fun j a o e => ?_, I.ta, I.tt, I.len, I.sf⟩
  · obtain ⟨v, q1, q2⟩ := I.im i d e; exact ⟨v, q1, q2.mono m⟩
  · obtain ⟨b, q1, q2⟩ := I.ow i o e
    have hb : b ≠ x := fun z => n.no i o ⟨e, by rw [← z]; exact q1⟩
    exact ⟨b, q1, q2.keep m (e1 b hb) (e2 b hb)⟩
  · have hb : a ≠ x := fun z => n.nt j o (by rw [← z]; exact e)
    exact (I.tm j a o e).keep m (e1 a hb) (e2 a hb)
/-- a container is frozen -/
theorem Eok.freeze {a : Addr} {o : Own} (I : Eok G K O B S H σ ρ) (h : Own1 G K B S H a o) (hf : o.full G) (n : Nob B σ ρ a) :
    ∃ S', Eok G K O B S' H σ ρ ∧ Sub 0 S S' ∧ Den G K S' (.ref a) o.d := by
  obtain ⟨u, hu, _, hn, _, _⟩ := h.at_.there
  have sub : Sub 0 S (S.put a u) := Sub.upd h.s
  refine ⟨S.put a u, I.step (x := a) ⟨fun b o e => ?_, fun b m => ?_, I.j, I.dom, fun b e => ?_, I.kept⟩ rfl sub n (fun b hb => Fz.put_ne hb) (fun _ _ => rfl), sub, ?_⟩
  · by_cases hb : b = a
    · subst hb; rw [Fz.put_same] at e; cases e; exact hu
    · rw [Fz.put_ne hb] at e; exact I.le b o e
  · rw [Fz.put_ne (fun z => h.m (by rw [← z]; exact m))]; exact I.sm b m
  · by_cases hb : b = a
    · subst hb; exact .inr h.h0
    · rw [Fz.put_ne hb] at e; exact I.sn b e
  · have h4 := h.at_
    cases o with
    | lst xs =>
      obtain ⟨vs, e1, e2⟩ := h4
      rw [e1] at hu; cases hu
      exact den_lst Fz.put_same (e2.mono sub)
    | dct ps =>
      rcases h4 with ⟨vs, e1, e2⟩ | ⟨vs, e1, en, e2⟩
      · rw [e1] at hu; cases hu
        exact den_dK (.inl Fz.put_same) (e2.mono sub)
      · rw [e1] at hu; cases hu
        exact den_dT (.inl Fz.put_same) en (e2.mono sub)
    | ins c fs =>
      obtain ⟨C, ns, dx, vs, e1, e2, e3⟩ := h4
      rw [e2] at hu; cases hu
      obtain ⟨C', hf⟩ := hf
      have e4 := e3.names
      rw [e1] at hf; cases hf
      refine .ins Fz.put_same e1 e4 (by rw [List.length_map]; exact e3.length) fun i f d h1 h2 => ?_
      rw [List.getElem?_map] at h2
      cases q : fs[i]? with
      | none => rw [q] at h2; simp at h2
      | some g =>
        rw [q] at h2
        simp at h2
        subst h2
        exact ((paired_at e3 i f g h1 q).2).mono sub
theorem Sta.new {a : Addr} (I : Sta G K B S H) (h : H a = none) : S a = none ∧ ¬ G.M a ∧ B.H0 a = none := by
  refine ⟨?_, fun m => G.mth _ _ _ I.j m h, ?_⟩
  · cases e : S a with
    | none => rfl
    | some o => rw [I.le a o e] at h; cases h
  · cases e : B.H0 a with
    | none => rfl
    | some o => exact absurd h (I.dom a (by rw [e]; exact fun z => nomatch z))
/-- something new is laid at a place that is new -/
theorem Sta.laid {a : Addr} {u : HO} (I : Sta G K B S H) (h : H a = none) : Sta G K B S (upd H a u) := by
  obtain ⟨hs, hm, h0⟩ := I.new h
  refine ⟨fun b o e => ?_, I.sm, ?_, fun b e => ?_, I.sn, fun b o e m n => ?_⟩
  · rw [upd_ne (ne_of_none e hs)]; exact I.le b o e
  · exact G.jlaw S.T H _ I.j fun b o e _ => by rw [upd_ne (ne_of_none e h)]; exact e
  · have := I.dom b e
    by_cases hb : b = a
    · rw [hb, upd_same]; exact fun z => nomatch z
    · rw [upd_ne hb]; exact this
  · have q := I.kept b o e m n
    rw [upd_ne (ne_of_none q h)]; exact q
theorem Eok.nob {a : Addr} (I : Eok G K O B S H σ ρ) (h : H a = none) : Nob B σ ρ a :=
  ⟨fun i o w => (Owns.at I w).some h, fun j o e => (I.tm j a o e).some h⟩
theorem Eok.laid {a : Addr} {u : HO} (I : Eok G K O B S H σ ρ) (h : H a = none) : Eok G K O B S (upd H a u) σ ρ :=
  I.step (x := a) (I.toSta.laid h) rfl (Sub.refl _) (I.nob h) (fun _ _ => rfl) (fun b hb => upd_ne hb)
/-- a new container -/
theorem Eok.lays {a : Addr} {u : HO} {o : Own} (I : Eok G K O B S H σ ρ) (h : H a = none) (w : OwnAt G K S (upd H a u) a o) (hc : o.con = true := by rfl) : Eok G K O B S (upd H a u) σ ρ ∧ ROk G K B S (upd H a u) σ ρ (.ref a) o.d .fr := by
  obtain ⟨hs, hm, h0⟩ := I.toSta.new h
  exact ⟨I.laid h, a, o, rfl, rfl, ⟨hs, hm, h0, w⟩, hc, I.nob h⟩
/-- a new frozen thing -/
theorem Eok.laysF {a : Addr} {u : HO} (I : Eok G K O B S H σ ρ) (h : H a = none) : Eok G K O B (S.put a u) (upd H a u) σ ρ ∧ Sub 0 S (S.put a u) := by
  have t := I.toSta.laid (u := u) h
  obtain ⟨hs, hm, h0⟩ := I.toSta.new h
  have sub : Sub 0 S (S.put a u) := Sub.upd hs
  refine ⟨I.step (x := a) ⟨fun b o e => ?_, fun b m => ?_, t.j, t.dom, fun b e => ?_, t.kept⟩ rfl sub (I.nob h) (fun b hb => Fz.put_ne hb) (fun b hb => upd_ne hb), sub⟩
  · by_cases hb : b = a
    · subst hb; rw [Fz.put_same] at e; rw [upd_same]; exact e
    · rw [Fz.put_ne hb] at e; rw [upd_ne hb]; exact I.le b o e
  · rw [Fz.put_ne (fun z => hm (by rw [← z]; exact m))]; exact I.sm b m
  · by_cases hb : b = a
    · subst hb; exact .inr h0
    · rw [Fz.put_ne hb] at e; exact I.sn b e

/-! ### a result of any kind, looked at -/
theorem rd_le {a : Addr} {u : HO} (I : Sta G K B S H) (h : Rd S a u) : Rd H a u := by
  rcases h with h | ⟨o, h⟩
  · exact .inl (I.le _ _ h)
  · exact .inr ⟨o, I.le _ _ h⟩
theorem own_lst {o : Own} {xs : List D} (h : D.lst xs = o.d) : o = .lst xs := by cases o <;> simp [Own.d] at h; rw [h]
theorem own_dct {o : Own} {xs : List (D × D)} (h : D.dct xs = o.d) : o = .dct xs := by cases o <;> simp [Own.d] at h; rw [h]
variable {k : Kd} {v : V}
theorem ROk.own {d : D} (I : Eok G K O B S H σ ρ) (r : ROk G K B S H σ ρ v d k) : Den G K S v d ∨ ∃ a o, v = .ref a ∧ d = Own.d o ∧ OwnAt G K S H a o := by
  cases k with
  | st => exact .inl r
  | fr => obtain ⟨a, o, e1, e2, w, _⟩ := r; exact .inr ⟨a, o, e1, e2, w.at_⟩
  | bo i => obtain ⟨a, o, e1, e2, w, _⟩ := r; exact .inr ⟨a, o, e1, e2, (Owns.at I w).at_⟩
theorem ROk.lst {xs : List D} (I : Eok G K O B S H σ ρ) (r : ROk G K B S H σ ρ v (.lst xs) k) : ∃ a vs, v = .ref a ∧ H a = some (.lst vs) ∧ DenL G K S vs xs := by
  rcases r.own I with r | ⟨a, o, e1, e2, w⟩
  · obtain ⟨a, vs, e, h, l⟩ := r.lst_inv; exact ⟨a, vs, e, I.le _ _ h, l⟩
  · obtain rfl := own_lst e2
    obtain ⟨vs, h, l⟩ := w
    exact ⟨a, vs, e1, h, l⟩
theorem ROk.tup {xs : List D} (I : Eok G K O B S H σ ρ) (r : ROk G K B S H σ ρ v (.tup xs) k) : ∃ a vs, v = .ref a ∧ H a = some (.tup vs) ∧ DenL G K S vs xs := by
  rcases r.own I with r | ⟨a, o, e1, e2, w⟩
  · obtain ⟨a, vs, e, h, l⟩ := r.tup_inv; exact ⟨a, vs, e, I.le _ _ h, l⟩
  · cases o <;> cases e2
theorem ROk.dct {xs : List (D × D)} (I : Eok G K O B S H σ ρ) (r : ROk G K B S H σ ρ v (.dct xs) k) : ∃ a, v = .ref a ∧ ((∃ kvs, Rd H a (.dK kvs) ∧ DenK G K S kvs xs) ∨ ∃ kvs, Rd H a (.dT kvs) ∧ kvs ≠ [] ∧ DenT G K S kvs xs) := by
  rcases r.own I with r | ⟨a, o, e1, e2, w⟩
  · obtain ⟨a, e, h⟩ := r.dct_inv
    rcases h with ⟨kvs, h, l⟩ | ⟨kvs, h, n, l⟩
    · exact ⟨a, e, .inl ⟨kvs, rd_le I.toSta h, l⟩⟩
    · exact ⟨a, e, .inr ⟨kvs, rd_le I.toSta h, n, l⟩⟩
  · obtain rfl := own_dct e2
    rcases w with ⟨kvs, h, l⟩ | ⟨kvs, h, n, l⟩
    · exact ⟨a, e1, .inl ⟨kvs, .inl h, l⟩⟩
    · exact ⟨a, e1, .inr ⟨kvs, .inl h, n, l⟩⟩
theorem ROk.flat {d : D} (I : Eok G K O B S H σ ρ) (r : ROk G K B S H σ ρ v d k) (h : ∀ o : Own, d ≠ o.d) : Den G K S v d := by
  rcases r.own I with r | ⟨a, o, e1, e2, w⟩
  · exact r
  · exact absurd e2 (h o)
theorem ROk.int {i : Int} (I : Eok G K O B S H σ ρ) (r : ROk G K B S H σ ρ v (.int i) k) : v = .int i := (r.flat I fun o z => by cases o <;> cases z).int_inv
theorem ROk.str {i : Str} (I : Eok G K O B S H σ ρ) (r : ROk G K B S H σ ρ v (.str i) k) : v = .str i := (r.flat I fun o z => by cases o <;> cases z).str_inv
theorem ROk.bl {i : Bool} (I : Eok G K O B S H σ ρ) (r : ROk G K B S H σ ρ v (.bl i) k) : v = .bl i := (r.flat I fun o z => by cases o <;> cases z).bl_inv
theorem ROk.non (I : Eok G K O B S H σ ρ) (r : ROk G K B S H σ ρ v .non k) : v = .non := (r.flat I fun o z => by cases o <;> cases z).non_inv
/-- any result is frozen, if it is nobody's -/
theorem ROk.freeze {d : D} (I : Eok G K O B S H σ ρ) (r : ROk G K B S H σ ρ v d .fr) : ∃ S', Eok G K O B S' H σ ρ ∧ Sub 0 S S' ∧ Den G K S' v d := by
  obtain ⟨a, o, rfl, rfl, h1, hc, h2⟩ := r
  exact I.freeze h1 (Own.con_full hc) h2
/-- a result stays behind a calm expression -/
theorem ROk.later {n : Nat} {d : D} (r : ROk G K B S H σ ρ v d k) {ρ' : EnvD} (m : Sub n S S') (hk : k = .st ∨ (∃ i, k = .bo i) ∧ ρ' = ρ) : ROk G K B S' H' σ ρ' v d k := by
  rcases hk with rfl | ⟨⟨i, rfl⟩, rfl⟩
  · exact Den.mono m r
  · exact r
end

/-! ### expressions -/
section
variable {G : Glob} {X : Cx} {O : XO} {e a b : Expr} {k ka kb : Kd} {c ca cb : Bool} {n na nb : Nat} {f fa fb : FE} {pos : Pos}
theorem e_fz (h : PDe G X O e .fr c n f) : PDe G X O e .st c n f := by
  obtain ⟨t, ht, q⟩ := h.run
  refine ⟨t, ht, fun B S H σ ρ Kc Q I hb hf hq => q B S H σ ρ Kc Q I (by omega) hf fun v H' S' ρ' d I' m hc r hk => ?_⟩
  obtain ⟨S2, I2, m2, r2⟩ := r.freeze I'
  exact hq v H' S2 ρ' d I2 (m.t0 m2) hc r2 hk
def fVar (i : Nat) : FE := fun ρ Kc => ∃ d, ρ[i]? = some (some (.imm d)) ∧ Kc ρ d
theorem e_var (i : Nat) {x : Str} (hN : X.N[i]? = some x := by rfl) (hv : Vis X.env.scope x := by first | exact Or.inl rfl | exact Or.inr (Or.inl rfl) | exact Or.inr (Or.inr rfl))
    (hd : (x == ("__debug__" : Str)) = false := by decide) (hcd : (x == ("__classdict__" : Str)) = false := by decide) : PDe G X O (.Name x pos) .st true 0 (fVar i) := by
  refine ⟨_, pe_var hN hv hd hcd, fun B S H σ ρ Kc Q I hb hf hq => ?_⟩
  obtain ⟨d, e, hk⟩ := hf
  obtain ⟨v, e1, e2⟩ := I.im i d e
  exact ⟨v, e1, hq v H S ρ d I (Sub.refl _) (fun _ => rfl) e2 hk⟩
def fOwn (i : Nat) : FE := fun ρ Kc => ∃ o, ρ[i]? = some (some (.own o)) ∧ o.con = true ∧ Kc ρ o.d
theorem e_own (i : Nat) {x : Str} (hN : X.N[i]? = some x := by rfl) (hv : Vis X.env.scope x := by first | exact Or.inl rfl | exact Or.inr (Or.inl rfl) | exact Or.inr (Or.inr rfl))
    (hd : (x == ("__debug__" : Str)) = false := by decide) (hcd : (x == ("__classdict__" : Str)) = false := by decide) : PDe G X O (.Name x pos) (.bo i) true 0 (fOwn i) := by
  refine ⟨_, pe_var hN hv hd hcd, fun B S H σ ρ Kc Q I hb hf hq => ?_⟩
  obtain ⟨o, e, hc, hk⟩ := hf
  obtain ⟨a, e1, _⟩ := I.ow i o e
  exact ⟨.ref a, e1, hq _ H S ρ _ I (Sub.refl _) (fun _ => rfl) ⟨a, o, rfl, rfl, ⟨e, e1⟩, hc⟩ hk⟩
def fC (d : D) : FE := fun ρ Kc => Kc ρ d
theorem e_of {t : TE} {v : V} {d : D} (h : PE X e t) (ht : t = tC v) (hd : ∀ S, Den G X.K S v d) : PDe G X O e .st true 0 (fC d) := by
  subst ht
  exact ⟨_, h, fun B S H σ ρ Kc Q I hb hf hq => hq v H S ρ d I (Sub.refl _) (fun _ => rfl) (hd S) hf⟩
theorem e_int {i j} : PDe G X O (.Constant (.int i) j pos) .st true 0 (fC (.int i)) := e_of pe_int rfl fun _ => .int i
theorem e_bl {i j} : PDe G X O (.Constant (.bool i) j pos) .st true 0 (fC (.bl i)) := e_of pe_bl rfl fun _ => .bl i
theorem e_non {j} : PDe G X O (.Constant .none j pos) .st true 0 (fC .non) := e_of pe_non rfl fun _ => .non
theorem e_str {i j} : PDe G X O (.Constant (.str i) j pos) .st true 0 (fC (.str i)) := e_of pe_str rfl fun _ => .str i
/-- a constant of the module -/
theorem e_glob {x : Str} {v : V} {d : D} (hg : Gl X x) (h : ∃ u, X.mg x = some u ∧ RelV v u) (hd : ∀ S, Den G X.K S v d) (hdb : (x == ("__debug__" : Str)) = false := by decide) : PDe G X O (.Name x pos) .st true 0 (fC d) := by
  obtain ⟨u, h1, h2⟩ := h
  exact e_of (pe_glob hg h1 h2 hdb) rfl hd

/-- which left operands stay: frozen ones, or a container of a slot ahead of a calm right one -/
def okK (k : Kd) (c : Bool) : Bool := match k with
  | .st => true
  | .bo _ => c
  | .fr => false
theorem okK_use {c : Bool} (h : okK k c = true) {ρ ρ' : EnvD} (hc : c = true → ρ' = ρ) : k = .st ∨ (∃ i, k = .bo i) ∧ ρ' = ρ := by
  cases k with
  | st => exact .inl rfl
  | bo i => exact .inr ⟨⟨i, rfl⟩, hc h⟩
  | fr => exact nomatch h
def R2s (G : Glob) (X : Cx) (O : XO) (r : R2) (g : D → D → (D → Prop) → Prop) (k : Kd) : Prop :=
  ∀ (B : Bs) (S : Fz) (H : Hp) (σ : L2.St) (ρ : EnvD) (ka kb : Kd) (v w : V) (x y : D) (Kc : D → Prop) (Q : VK), Eok G X.K O B S H σ ρ → ROk G X.K B S H σ ρ v x ka → ROk G X.K B S H σ ρ w y kb → g x y Kc →
    (∀ z H' S' d, Eok G X.K O B S' H' σ ρ → Sub 0 S S' → ROk G X.K B S' H' σ ρ z d k → Kc d → Q z H') → r v w H Q
def fOp (g : D → D → (D → Prop) → Prop) (fa fb : FE) : FE := fun ρ Kc => fa ρ fun ρ1 x => fb ρ1 fun ρ2 y => g x y (Kc ρ2)
theorem e_opT {r : R2} {g} {ta tb : TE} (hs : R2s G X O r g k) (hk : okK ka cb = true)
    (qa : ∀ (B : Bs) (S : Fz) (H : Hp) (σ : L2.St) (ρ : EnvD) (Kc : EnvD → D → Prop) (Q : VK), Eok G X.K O B S H σ ρ → S.T + na ≤ limT → fa ρ Kc → (∀ v H' S' ρ' d, Eok G X.K O B S' H' σ ρ' → Sub na S S' → (ca = true → ρ' = ρ) → ROk G X.K B S' H' σ ρ' v d ka → Kc ρ' d → Q v H') → ta σ H Q)
    (qb : ∀ (B : Bs) (S : Fz) (H : Hp) (σ : L2.St) (ρ : EnvD) (Kc : EnvD → D → Prop) (Q : VK), Eok G X.K O B S H σ ρ → S.T + nb ≤ limT → fb ρ Kc → (∀ v H' S' ρ' d, Eok G X.K O B S' H' σ ρ' → Sub nb S S' → (cb = true → ρ' = ρ) → ROk G X.K B S' H' σ ρ' v d kb → Kc ρ' d → Q v H') → tb σ H Q) :
    ∀ (B : Bs) (S : Fz) (H : Hp) (σ : L2.St) (ρ : EnvD) (Kc : EnvD → D → Prop) (Q : VK), Eok G X.K O B S H σ ρ → S.T + (na + nb) ≤ limT → fOp g fa fb ρ Kc →
    (∀ v H' S' ρ' d, Eok G X.K O B S' H' σ ρ' → Sub (na + nb) S S' → ((ca && cb) = true → ρ' = ρ) → ROk G X.K B S' H' σ ρ' v d k → Kc ρ' d → Q v H') → tOp r ta tb σ H Q := fun B S H σ ρ Kc Q I hb hf hq => by
  refine qa B S H σ ρ _ _ I (by omega) hf fun v H1 S1 ρ1 x I1 m1 c1 r1 h1 => ?_
  refine qb B S1 H1 σ ρ1 _ _ I1 (by have := m1.lo; omega) h1 fun w H2 S2 ρ2 y I2 m2 c2 r2 h2 => ?_
  have r1' := ROk.later (S' := S2) (H' := H2) r1 m2 (okK_use hk c2)
  refine hs B S2 H2 σ ρ2 ka kb v w x y _ Q I2 r1' r2 h2 fun z H3 S3 d I3 m3 r3 h3 => ?_
  exact hq z H3 S3 ρ2 d I3 ((m1.trans m2).t0 m3) (fun z => by
    have := Bool.and_eq_true_iff.mp z
    rw [c2 this.2, c1 this.1]) r3 h3
theorem e_op {op : Operator} {r : R2} {g} (ho : OpR X (binaryOp op) r) (hs : R2s G X O r g k) (ha : PDe G X O a ka ca na fa) (hb : PDe G X O b kb cb nb fb) (hk : okK ka cb = true := by rfl) :
    PDe G X O (.BinOp a op b pos) k (ca && cb) (na + nb) (fOp g fa fb) := by
  obtain ⟨ta, pa, qa⟩ := ha.run
  obtain ⟨tb, pb, qb⟩ := hb.run
  exact ⟨_, pe_op ho pa pb, e_opT hs hk qa qb⟩
theorem e_cmp {op : CmpOp} {r : R2} {g} (ho : OpR X (compareOp op) r) (hs : R2s G X O r g k) (ha : PDe G X O a ka ca na fa) (hb : PDe G X O b kb cb nb fb) (hk : okK ka cb = true := by rfl) (hm : behindInMarks op b = false := by rfl) :
    PDe G X O (.Compare a [op] [b] pos) k (ca && cb) (na + nb) (fOp g fa fb) := by
  obtain ⟨ta, pa, qa⟩ := ha.run
  obtain ⟨tb, pb, qb⟩ := hb.run
  exact ⟨_, pe_cmpR ho pa pb hm, e_opT hs hk qa qb⟩
def R1s (G : Glob) (X : Cx) (O : XO) (r : V → Hp → VK → Prop) (g : D → (D → Prop) → Prop) (k : Kd) : Prop :=
  ∀ (B : Bs) (S : Fz) (H : Hp) (σ : L2.St) (ρ : EnvD) (ka : Kd) (v : V) (x : D) (Kc : D → Prop) (Q : VK), Eok G X.K O B S H σ ρ → ROk G X.K B S H σ ρ v x ka → g x Kc →
    (∀ z H' S' d, Eok G X.K O B S' H' σ ρ → Sub 0 S S' → ROk G X.K B S' H' σ ρ z d k → Kc d → Q z H') → r v H Q
def fUn (g : D → (D → Prop) → Prop) (fa : FE) : FE := fun ρ Kc => fa ρ fun ρ1 x => g x (Kc ρ1)
theorem e_un {op : UnaryOp} {r} {g} (ho : UnR X (unaryOp op) r) (hs : R1s G X O r g k) (ha : PDe G X O a ka ca na fa) : PDe G X O (.UnaryOp op a pos) k ca na (fUn g fa) := by
  obtain ⟨ta, pa, qa⟩ := ha.run
  refine ⟨_, pe_un ho pa, fun B S H σ ρ Kc Q I hb hf hq => ?_⟩
  refine qa B S H σ ρ _ _ I (by omega) hf fun v H1 S1 ρ1 x I1 m1 c1 r1 h1 => ?_
  refine hs B S1 H1 σ ρ1 ka v x _ Q I1 r1 h1 fun z H3 S3 d I3 m3 r3 h3 => ?_
  exact hq z H3 S3 ρ1 d I3 (m1.t0 m3) c1 r3 h3

/-! ### argument lists -/
abbrev FA := EnvD → (EnvD → List D → Prop) → Prop
structure PDa (G : Glob) (X : Cx) (O : XO) (es : List Expr) (c : Bool) (n : Nat) (f : FA) : Prop where
  run : ∃ t : TA, PA X es t ∧ ∀ (B : Bs) (S : Fz) (H : Hp) (σ : L2.St) (ρ : EnvD) (Kc : EnvD → List D → Prop) (Q : List V → Hp → Prop), Eok G X.K O B S H σ ρ → S.T + n ≤ limT → f ρ Kc →
    (∀ vs H' S' ρ' ds, Eok G X.K O B S' H' σ ρ' → Sub n S S' → (c = true → ρ' = ρ) → DenL G X.K S' vs ds → Kc ρ' ds → Q vs H') → t σ H Q
def fNil : FA := fun ρ Kc => Kc ρ []
def fCons (fa : FE) (fr : FA) : FA := fun ρ Kc => fa ρ fun ρ1 x => fr ρ1 fun ρ2 xs => Kc ρ2 (x :: xs)
theorem a_nil : PDa G X O [] true 0 fNil := ⟨_, pa_nil, fun B S H σ ρ Kc Q I hb hf hq => hq [] H S ρ [] I (Sub.refl _) (fun _ => rfl) .nil hf⟩
theorem a_cons {es : List Expr} {cr : Bool} {nr : Nat} {fr : FA} (ha : PDe G X O a .st ca na fa) (hr : PDa G X O es cr nr fr) (hs : starEach (a :: es) X.env = (false, eval a X.env) :: starEach es X.env := by rfl) :
    PDa G X O (a :: es) (ca && cr) (na + nr) (fCons fa fr) := by
  obtain ⟨ta, pa, qa⟩ := ha.run
  obtain ⟨tb, pb, qb⟩ := hr.run
  refine ⟨_, pa_cons pa pb hs, fun B S H σ ρ Kc Q I hb hf hq => ?_⟩
  refine qa B S H σ ρ _ _ I (by omega) hf fun v H1 S1 ρ1 x I1 m1 c1 r1 h1 => ?_
  refine qb B S1 H1 σ ρ1 _ _ I1 (by have := m1.lo; omega) h1 fun vs H2 S2 ρ2 xs I2 m2 c2 r2 h2 => ?_
  exact hq _ H2 S2 ρ2 _ I2 (m1.trans m2) (fun z => by
    have := Bool.and_eq_true_iff.mp z
    rw [c2 this.2, c1 this.1]) (.cons (Den.mono m2 r1) r2) h2

/-! ### displays -/
def fTup (fa : FA) : FE := fun ρ Kc => fa ρ fun ρ1 xs => xs.length ≤ sizeLine ∧ Kc ρ1 (.tup xs)
def fLst (fa : FA) : FE := fun ρ Kc => fa ρ fun ρ1 xs => xs.length ≤ sizeLine ∧ Kc ρ1 (.lst xs)
theorem e_tup {es : List Expr} {x1} {fa : FA} (h : PDa G X O es c n fa) : PDe G X O (.Tuple es x1 pos) .st c n (fTup fa) := by
  obtain ⟨ta, pa, qa⟩ := h.run
  refine ⟨_, pe_tup pa, fun B S H σ ρ Kc Q I hb hf hq => ?_⟩
  refine qa B S H σ ρ _ _ I (by omega) hf fun vs H1 S1 ρ1 xs I1 m1 c1 r1 h1 => ⟨by rw [r1.length]; exact h1.1, fun p hp => ?_⟩
  obtain ⟨I2, m2⟩ := I1.laysF (u := .tup vs) hp
  exact hq _ _ _ ρ1 _ I2 (m1.t0 m2) c1 (den_tup Fz.put_same (r1.mono m2)) h1.2
theorem e_lst {es : List Expr} {fa : FA} (h : PDa G X O es c n fa) : PDe G X O (.List es pos) .fr c n (fLst fa) := by
  obtain ⟨ta, pa, qa⟩ := h.run
  refine ⟨_, pe_lst pa, fun B S H σ ρ Kc Q I hb hf hq => ?_⟩
  refine qa B S H σ ρ _ _ I (by omega) hf fun vs H1 S1 ρ1 xs I1 m1 c1 r1 h1 => ⟨by rw [r1.length]; exact h1.1, fun p hp => ?_⟩
  obtain ⟨I2, r2⟩ := I1.lays (u := .lst vs) (o := .lst xs) hp ⟨vs, upd_same, r1⟩
  exact hq _ _ _ ρ1 _ I2 m1 c1 r2 h1.2

/-! ### calls of built-ins -/
def CRs (G : Glob) (X : Cx) (O : XO) (r : List V → Hp → VK → Prop) (g : List D → (D → Prop) → Prop) (k : Kd) : Prop :=
  ∀ (B : Bs) (S : Fz) (H : Hp) (σ : L2.St) (ρ : EnvD) (vs : List V) (xs : List D) (Kc : D → Prop) (Q : VK), Eok G X.K O B S H σ ρ → DenL G X.K S vs xs → g xs Kc →
    (∀ z H' S' d, Eok G X.K O B S' H' σ ρ → Sub 0 S S' → ROk G X.K B S' H' σ ρ z d k → Kc d → Q z H') → r vs H Q
def fCB (g : List D → (D → Prop) → Prop) (fa : FA) : FE := fun ρ Kc => fa ρ fun ρ1 xs => g xs (Kc ρ1)
theorem e_cbT {r} {g} {t : TA} {fa : FA} (hs : CRs G X O r g k)
    (q : ∀ (B : Bs) (S : Fz) (H : Hp) (σ : L2.St) (ρ : EnvD) (Kc : EnvD → List D → Prop) (Q : List V → Hp → Prop), Eok G X.K O B S H σ ρ → S.T + n ≤ limT → fa ρ Kc →
    (∀ vs H' S' ρ' ds, Eok G X.K O B S' H' σ ρ' → Sub n S S' → (c = true → ρ' = ρ) → DenL G X.K S' vs ds → Kc ρ' ds → Q vs H') → t σ H Q) :
    ∀ (B : Bs) (S : Fz) (H : Hp) (σ : L2.St) (ρ : EnvD) (Kc : EnvD → D → Prop) (Q : VK), Eok G X.K O B S H σ ρ → S.T + n ≤ limT → fCB g fa ρ Kc →
    (∀ v H' S' ρ' d, Eok G X.K O B S' H' σ ρ' → Sub n S S' → (c = true → ρ' = ρ) → ROk G X.K B S' H' σ ρ' v d k → Kc ρ' d → Q v H') → tCB r t σ H Q := fun B S H σ ρ Kc Q I hb hf hq => by
  refine q B S H σ ρ _ _ I (by omega) hf fun vs H1 S1 ρ1 xs I1 m1 c1 r1 h1 => ?_
  refine hs B S1 H1 σ ρ1 vs xs _ Q I1 r1 h1 fun z H3 S3 d I3 m3 r3 h3 => ?_
  exact hq z H3 S3 ρ1 d I3 (m1.t0 m3) c1 r3 h3
variable {x : Str} {p : Pos} {es : List Expr} {id T : String}
theorem e_callB {r} {g} {fa : FA} (hc : CallR X (.builtin id) r) (hs : CRs G X O r g k) (ha : PDa G X O (e :: es) c n fa) (hm : X.mg x = none) (hg : Gl X x := by rfl) (hv : bootBuiltins x = some (.builtin id) := by rfl) (hn : x ≠ "__name__" := by decide) (hdb : (x == ("__debug__" : Str)) = false := by decide)
    (he : starEach (e :: es) X.env = (false, eval e X.env) :: starEach es X.env := by rfl) (hpl : (backTo pos (starEach es X.env)).any (·.1) = false := by rfl) : PDe G X O (.Call (.Name x p) (e :: es) [] pos) k c n (fCB g fa) := by
  obtain ⟨ta, pa, qa⟩ := ha.run
  exact ⟨_, pe_callB hc hg hm hv pa hn hdb he hpl, e_cbT hs qa⟩
theorem e_callTy {r} {g} {fa : FA} (hc : CallR X (.type T) r) (hs : CRs G X O r g k) (ha : PDa G X O (e :: es) c n fa) (hm : X.mg x = none) (hg : Gl X x := by rfl) (hv : bootBuiltins x = some (.type T) := by rfl) (hn : x ≠ "__name__" := by decide) (hdb : (x == ("__debug__" : Str)) = false := by decide)
    (he : starEach (e :: es) X.env = (false, eval e X.env) :: starEach es X.env := by rfl) (hpl : (backTo pos (starEach es X.env)).any (·.1) = false := by rfl) : PDe G X O (.Call (.Name x p) (e :: es) [] pos) k c n (fCB g fa) := by
  obtain ⟨ta, pa, qa⟩ := ha.run
  exact ⟨_, pe_callTy hc hg hm hv pa hn hdb he hpl, e_cbT hs qa⟩
/-- of one operand, of any kind -/
theorem e_callB1 {r : V → Hp → VK → Prop} {r' : List V → Hp → VK → Prop} {g} (hc : CallR X (.builtin id) r') (hr : ∀ v H Q, r v H Q → r' [v] H Q) (hs : R1s G X O r g k) (ha : PDe G X O e ka ca na fa) (hm : X.mg x = none) (hg : Gl X x := by rfl) (hv : bootBuiltins x = some (.builtin id) := by rfl) (hn : x ≠ "__name__" := by decide) (hdb : (x == ("__debug__" : Str)) = false := by decide)
    (he : starEach [e] X.env = (false, eval e X.env) :: starEach [] X.env := by rfl) (hpl : (backTo pos (starEach [] X.env)).any (·.1) = false := by rfl) : PDe G X O (.Call (.Name x p) [e] [] pos) k ca na (fUn g fa) := by
  obtain ⟨ta, pa, qa⟩ := ha.run
  refine ⟨_, pe_callB hc hg hm hv (pa_cons pa pa_nil he) hn hdb he hpl, fun B S H σ ρ Kc Q I hb hf hq => ?_⟩
  refine qa B S H σ ρ _ _ I (by omega) hf fun v H1 S1 ρ1 x I1 m1 c1 r1 h1 => hr _ _ _ ?_
  refine hs B S1 H1 σ ρ1 ka v x _ Q I1 r1 h1 fun z H3 S3 d I3 m3 r3 h3 => ?_
  exact hq z H3 S3 ρ1 d I3 (m1.t0 m3) c1 r3 h3
theorem e_callTy1 {r : V → Hp → VK → Prop} {r' : List V → Hp → VK → Prop} {g} (hc : CallR X (.type T) r') (hr : ∀ v H Q, r v H Q → r' [v] H Q) (hs : R1s G X O r g k) (ha : PDe G X O e ka ca na fa) (hm : X.mg x = none) (hg : Gl X x := by rfl) (hv : bootBuiltins x = some (.type T) := by rfl) (hn : x ≠ "__name__" := by decide) (hdb : (x == ("__debug__" : Str)) = false := by decide)
    (he : starEach [e] X.env = (false, eval e X.env) :: starEach [] X.env := by rfl) (hpl : (backTo pos (starEach [] X.env)).any (·.1) = false := by rfl) : PDe G X O (.Call (.Name x p) [e] [] pos) k ca na (fUn g fa) := by
  obtain ⟨ta, pa, qa⟩ := ha.run
  refine ⟨_, pe_callTy hc hg hm hv (pa_cons pa pa_nil he) hn hdb he hpl, fun B S H σ ρ Kc Q I hb hf hq => ?_⟩
  refine qa B S H σ ρ _ _ I (by omega) hf fun v H1 S1 ρ1 x I1 m1 c1 r1 h1 => hr _ _ _ ?_
  refine hs B S1 H1 σ ρ1 ka v x _ Q I1 r1 h1 fun z H3 S3 d I3 m3 r3 h3 => ?_
  exact hq z H3 S3 ρ1 d I3 (m1.t0 m3) c1 r3 h3
end
end WL

/-! WC: tests, statements, loops over data. -/
namespace WL
open PySem PySem.Spec PyProof.Rows L2
section
variable {G : Glob} {K : PySem.W.Frag} {O : XO} {B : Bs} {S S' : Fz} {H H' : Hp} {σ : L2.St} {ρ : EnvD}
theorem get_set {α : Type} (l : List α) (i j : Nat) (a : α) : (l.set i a)[j]? = if i = j then (if i < l.length then some a else none) else l[j]? := List.getElem?_set
/-- slot i is given anew -/
theorem Eok.put {i : Nat} {v : Option V} {s : Option Slot} (I : Eok G K O B S H σ ρ) (hk : O.keep i = false)
    (hi : ∀ d, s = some (.imm d) → ∃ v', v = some v' ∧ Den G K S v' d) (ho : ∀ o, s = some (.own o) → ∃ a, v = some (.ref a) ∧ Own1 G K B S H a o ∧ Nob B σ (ρ.set i none) a) (hse : ∀ c fs, s = some (.own (.ins c fs)) → v = some (.ref B.self)) :
    Eok G K O B S H (σ.set i v) (ρ.set i s) := by
  have el : ∀ (j : Nat) (x : Option Slot) , (ρ.set i s)[j]? = some x → (i = j ∧ x = s ∧ i < ρ.length) ∨ (i ≠ j ∧ ρ[j]? = some x) := fun j x h => by
    rw [get_set] at h
    by_cases e : i = j
    · rw [if_pos e] at h
      by_cases l : i < ρ.length
      · rw [if_pos l] at h; cases h; exact .inl ⟨e, rfl, l⟩
      · rw [if_neg l] at h; cases h
    · rw [if_neg e] at h; exact .inr ⟨e, h⟩
  have ev : ∀ j, i ≠ j → (σ.set i v)[j]? = σ[j]? := fun j e => by rw [get_set, if_neg e]
  have evi : i < ρ.length → (σ.set i v)[i]? = some v := fun l => by rw [get_set, if_pos rfl, if_pos (by rw [I.len]; exact l)]
  have ow' : ∀ j a o, Owns (σ.set i v) (ρ.set i s) j a o → (i = j ∧ v = some (.ref a) ∧ s = some (.own o)) ∨ (i ≠ j ∧ Owns σ ρ j a o) := fun j a o h => by
    rcases el j _ h.1 with ⟨e, q, l⟩ | ⟨e, q⟩
    · subst e
      have := h.2
      rw [evi l] at this
      exact .inl ⟨rfl, Option.some.inj this, q.symm⟩
    · exact .inr ⟨e, q, by rw [← ev j e]; exact h.2⟩
  have nob : ∀ a j o, i ≠ j → Owns σ ρ j a o → Owns σ (ρ.set i none) j a o := fun a j o e h => ⟨by rw [get_set, if_neg e]; exact h.1, h.2⟩
  refine ⟨I.toSta, I.tz, fun n2 cls dx S2 H2 σ2 x t2 l2 m2 k2 d2 => I.xr n2 cls dx S2 H2 σ2 x t2 l2 m2 (fun j hj => ?_) d2, fun j d h => ?_, fun j o h => ?_, fun j l a o o' h1 h2 => ?_, fun j a o e => I.tm j a o e, fun j l a o o' h1 h2 => ?_, I.tt, by rw [List.length_set, List.length_set]; exact I.len, fun j c fs h => by
    rcases el j _ h with ⟨e, q, l⟩ | ⟨e, q⟩
    · subst e; rw [evi l, hse c fs q.symm]
    · rw [ev j e]; exact I.sf j c fs q⟩
  · rw [k2 j hj, ev j fun z => by rw [z, hj] at hk; cases hk]
  · rcases el j _ h with ⟨e, q, l⟩ | ⟨e, q⟩
    · subst e
      obtain ⟨v', e1, e2⟩ := hi d q.symm
      exact ⟨v', by rw [evi l, e1], e2⟩
    · obtain ⟨v', e1, e2⟩ := I.im j d q
      exact ⟨v', by rw [ev j e]; exact e1, e2⟩
  · rcases el j _ h with ⟨e, q, l⟩ | ⟨e, q⟩
    · subst e
      obtain ⟨a, e1, e2, _⟩ := ho o q.symm
      exact ⟨a, by rw [evi l, e1], e2⟩
    · obtain ⟨a, e1, e2⟩ := I.ow j o q
      exact ⟨a, by rw [ev j e]; exact e1, e2⟩
  · rcases ow' j a o h1 with ⟨e, q1, q2⟩ | ⟨e, q⟩ <;> rcases ow' l a o' h2 with ⟨e', q1', q2'⟩ | ⟨e', q'⟩
    · exact e.symm.trans e'
    · obtain ⟨b, z1, _, n⟩ := ho o q2
      rw [q1] at z1; cases z1
      exact absurd (nob _ _ _ e' q') (n.no l o')
    · obtain ⟨b, z1, _, n⟩ := ho o' q2'
      rw [q1'] at z1; cases z1
      exact absurd (nob _ _ _ e q) (n.no j o)
    · exact I.ap j l a o o' q q'
  · rcases ow' j a o h1 with ⟨e, q1, q2⟩ | ⟨e, q⟩
    · obtain ⟨b, z1, _, n⟩ := ho o q2
      rw [q1] at z1; cases z1
      exact n.nt l o' h2
    · exact I.ta j l a o o' q h2
theorem Nob.less {a : Addr} {i : Nat} (n : Nob B σ ρ a) : Nob B σ (ρ.set i none) a := ⟨fun j o h => by
  have := h.1
  rw [get_set] at this
  by_cases e : i = j
  · rw [if_pos e] at this
    split at this <;> simp at this
  · rw [if_neg e] at this
    exact n.no j o ⟨this, h.2⟩, n.nt⟩
theorem Eok.set {i : Nat} {v : V} {d : D} (I : Eok G K O B S H σ ρ) (hk : O.keep i = false) (h : Den G K S v d) : Eok G K O B S H (σ.set i (some v)) (ρ.set i (some (.imm d))) :=
  I.put hk (fun d' e => by cases e; exact ⟨v, rfl, h⟩) (fun o e => by cases e) (fun c fs e => by cases e)
theorem Eok.setO {i : Nat} {v : V} {o : Own} (I : Eok G K O B S H σ ρ) (hk : O.keep i = false) (hc : o.con = true) (h : ROk G K B S H σ ρ v o.d .fr) : Eok G K O B S H (σ.set i (some v)) (ρ.set i (some (.own o))) := by
  obtain ⟨a, o', rfl, e, w, hc', n⟩ := h
  obtain rfl := Own.d_inj hc hc' e
  exact I.put hk (fun d' e => by cases e) (fun o2 e => by cases e; exact ⟨a, rfl, w, n.less⟩) (fun c fs e => by cases e; cases hc)
/-- a slot is forgotten -/
theorem Eok.forget {i : Nat} (I : Eok G K O B S H σ ρ) : Eok G K O B S H σ (ρ.set i none) := by
  have el : ∀ (j : Nat) (x : Slot) , (ρ.set i none)[j]? = some (some x) → i ≠ j ∧ ρ[j]? = some (some x) := fun j x h => by
    rw [get_set] at h
    by_cases e : i = j
    · rw [if_pos e] at h
      split at h <;> simp at h
    · rw [if_neg e] at h; exact ⟨e, h⟩
  exact ⟨I.toSta, I.tz, I.xr, fun j d h => I.im j d (el j _ h).2, fun j o h => I.ow j o (el j _ h).2, fun j l a o o' h1 h2 => I.ap j l a o o' ⟨(el j _ h1.1).2, h1.2⟩ ⟨(el l _ h2.1).2, h2.2⟩, I.tm,
    fun j l a o o' h1 h2 => I.ta j l a o o' ⟨(el j _ h1.1).2, h1.2⟩ h2, I.tt, by rw [List.length_set]; exact I.len, fun j c fs h => I.sf j c fs (el j _ h).2⟩
/-- the container of a slot, taken out of it -/
theorem Eok.take {i : Nat} {a : Addr} {o : Own} (I : Eok G K O B S H σ ρ) (h : Owns σ ρ i a o) : Own1 G K B S H a o ∧ Nob B σ (ρ.set i none) a := by
  refine ⟨Owns.at I h, fun j o' w => ?_, fun j o' e => I.ta i j a o o' h e⟩
  have := w.1
  rw [get_set] at this
  by_cases e : i = j
  · rw [if_pos e] at this
    split at this <;> simp at this
  · rw [if_neg e] at this
    exact e (I.ap i j a o o' h ⟨this, w.2⟩)
/-- the container of a slot is frozen there -/
theorem Eok.still {i : Nat} {o : Own} (I : Eok G K O B S H σ ρ) (hf : o.full G) (h : ρ[i]? = some (some (.own o))) : ∃ S', Eok G K O B S' H σ (ρ.set i (some (.imm o.d))) ∧ Sub 0 S S' := by
  obtain ⟨a, e, _⟩ := I.ow i o h
  obtain ⟨w, n⟩ := I.take (i := i) (a := a) ⟨h, e⟩
  obtain ⟨S', I', m, d⟩ := I.forget.freeze w hf n
  refine ⟨S', ?_, m⟩
  have es : ∀ j, (ρ.set i (some (Slot.imm o.d)))[j]? = if i = j then (if i < ρ.length then some (some (Slot.imm o.d)) else none) else ρ[j]? := fun j => get_set _ _ _ _
  have en : ∀ j, i ≠ j → (ρ.set i none)[j]? = ρ[j]? := fun j z => by rw [get_set, if_neg z]
  have own : ∀ j b o', Owns σ (ρ.set i (some (.imm o.d))) j b o' → Owns σ (ρ.set i none) j b o' := fun j b o' h => by
    have q := h.1
    rw [es] at q
    by_cases z : i = j
    · rw [if_pos z] at q
      split at q <;> simp at q
    · rw [if_neg z] at q
      exact ⟨by rw [en j z]; exact q, h.2⟩
  refine ⟨I'.toSta, I'.tz, I'.xr, fun j d' q => ?_, fun j o' q => ?_, fun j l b o1 o2 h1 h2 => I'.ap j l b o1 o2 (own _ _ _ h1) (own _ _ _ h2), I'.tm, fun j l b o1 o2 h1 h2 => I'.ta j l b o1 o2 (own _ _ _ h1) h2, I'.tt, by rw [List.length_set]; exact I.len, fun j c fs q => by
    rw [es] at q
    by_cases z : i = j
    · rw [if_pos z] at q
      split at q <;> simp at q
    · rw [if_neg z] at q
      exact I'.sf j c fs (by rw [en j z]; exact q)⟩
  · rw [es] at q
    by_cases z : i = j
    · rw [if_pos z] at q
      split at q
      · simp at q; subst q; rw [← z]; exact ⟨_, e, d⟩
      · simp at q
    · rw [if_neg z] at q
      exact I'.im j d' (by rw [en j z]; exact q)
  · rw [es] at q
    by_cases z : i = j
    · rw [if_pos z] at q
      split at q <;> simp at q
    · rw [if_neg z] at q
      exact I'.ow j o' (by rw [en j z]; exact q)
end

/-! ### tests -/
abbrev FT := EnvD → (EnvD → Bool → Prop) → Prop
structure PDt (G : Glob) (X : Cx) (O : XO) (e : Expr) (c : Bool) (n : Nat) (f : FT) : Prop where
  run : ∃ t : TT, PT X e t ∧ ∀ (B : Bs) (S : Fz) (H : Hp) (σ : L2.St) (ρ : EnvD) (Kc : EnvD → Bool → Prop) (Q : Bool → Hp → Prop), Eok G X.K O B S H σ ρ → S.T + n ≤ limT → f ρ Kc →
    (∀ b H' S' ρ', Eok G X.K O B S' H' σ ρ' → Sub n S S' → (c = true → ρ' = ρ) → Kc ρ' b → Q b H') → t σ H Q
structure PDw (G : Glob) (X : Cx) (O : XO) (e : Expr) (c : Bool) (n : Nat) (f : FT) : Prop where
  run : ∃ t : TT, PW X e t ∧ ∀ (B : Bs) (S : Fz) (H : Hp) (σ : L2.St) (ρ : EnvD) (Kc : EnvD → Bool → Prop) (Q : Bool → Hp → Prop), Eok G X.K O B S H σ ρ → S.T + n ≤ limT → f ρ Kc →
    (∀ b H' S' ρ', Eok G X.K O B S' H' σ ρ' → Sub n S S' → (c = true → ρ' = ρ) → Kc ρ' b → Q b H') → t σ H Q
def isB (d : D) (P : Bool → Prop) : Prop := match d with
  | .bl b => P b
  | _ => False
theorem isB_inv {d : D} {P : Bool → Prop} (h : isB d P) : ∃ b, d = .bl b ∧ P b := by
  cases d <;> first | exact ⟨_, rfl, h⟩ | exact h.elim
def fT (f : FE) : FT := fun ρ Kc => f ρ fun ρ' d => isB d (Kc ρ')
section
variable {G : Glob} {X : Cx} {O : XO} {e a b : Expr} {k ka kb : Kd} {c ca cb : Bool} {n na nb nc : Nat} {f fa fb : FE} {g ga gb : FT} {pos : Pos} {rest : List Expr}
theorem t_test {t : TE} (q : ∀ (B : Bs) (S : Fz) (H : Hp) (σ : L2.St) (ρ : EnvD) (Kc : EnvD → D → Prop) (Q : VK), Eok G X.K O B S H σ ρ → S.T + n ≤ limT → f ρ Kc → (∀ v H' S' ρ' d, Eok G X.K O B S' H' σ ρ' → Sub n S S' → (c = true → ρ' = ρ) → ROk G X.K B S' H' σ ρ' v d k → Kc ρ' d → Q v H') → t σ H Q)
    {t' : TT} (ht : ∀ σ H Q, t σ H (fun x H' => ∃ k, x = .bl k ∧ Q k H') → t' σ H Q) :
    ∀ (B : Bs) (S : Fz) (H : Hp) (σ : L2.St) (ρ : EnvD) (Kc : EnvD → Bool → Prop) (Q : Bool → Hp → Prop), Eok G X.K O B S H σ ρ → S.T + n ≤ limT → fT f ρ Kc →
    (∀ b H' S' ρ', Eok G X.K O B S' H' σ ρ' → Sub n S S' → (c = true → ρ' = ρ) → Kc ρ' b → Q b H') → t' σ H Q := fun B S H σ ρ Kc Q I hb hf hq => by
  refine ht _ _ _ (q B S H σ ρ _ _ I (by omega) hf fun v H1 S1 ρ1 d I1 m1 c1 r1 h1 => ?_)
  obtain ⟨b, rfl, h1'⟩ := isB_inv h1; replace h1 := h1'; clear h1'
  exact ⟨b, r1.bl I1, hq b H1 S1 ρ1 I1 m1 c1 h1⟩
theorem t_cmp {op : CmpOp} {r : R2} {g} (ho : OpR X (compareOp op) r) (hs : R2s G X O r g k) (ha : PDe G X O a ka ca na fa) (hb : PDe G X O b kb cb nb fb) (hk : okK ka cb = true := by rfl) (hm : behindInMarks op b = false := by rfl) :
    PDt G X O (.Compare a [op] [b] pos) (ca && cb) (na + nb) (fT (fOp g fa fb)) := by
  obtain ⟨ta, pa, qa⟩ := ha.run
  obtain ⟨tb, pb, qb⟩ := hb.run
  exact ⟨_, pt_cmpR ho pa pb hm, t_test (e_opT hs hk qa qb) fun _ _ _ h => h⟩
theorem t_val (h : PDe G X O e k c n f) (he : ∀ whole, isTrue e X.env whole = (do let v ← whole; standAt e.pos; holding [v] (truthy v)) := by intro _; rfl) : PDt G X O e c n (fT f) := by
  obtain ⟨t, p, q⟩ := h.run
  exact ⟨_, pt_val p he, t_test q fun _ _ _ h => h⟩
def fNot (g : FT) : FT := fun ρ Kc => g ρ fun ρ' b => Kc ρ' (!b)
theorem t_not (h : PDt G X O a c n g) : PDt G X O (.UnaryOp .Not a pos) c n (fNot g) := by
  obtain ⟨t, p, q⟩ := h.run
  refine ⟨_, pt_not p, fun B S H σ ρ Kc Q I hb hf hq => ?_⟩
  exact q B S H σ ρ _ _ I (by omega) hf fun b H1 S1 ρ1 I1 m1 c1 h1 => hq _ H1 S1 ρ1 I1 m1 c1 h1
def fAnd (ga gb : FT) : FT := fun ρ Kc => ga ρ fun ρ1 b => if b = true then gb ρ1 Kc else Kc ρ1 false
def fOr (ga gb : FT) : FT := fun ρ Kc => ga ρ fun ρ1 b => if b = true then Kc ρ1 true else gb ρ1 Kc
theorem w_and1 (h : PDt G X O a c n g) : PDw G X O (.BoolOp .And [a] pos) c n g := by
  obtain ⟨t, p, q⟩ := h.run
  exact ⟨_, pw_and1 p, q⟩
theorem w_or1 (h : PDt G X O a c n g) : PDw G X O (.BoolOp .Or [a] pos) c n g := by
  obtain ⟨t, p, q⟩ := h.run
  exact ⟨_, pw_or1 p, q⟩
theorem w_and (ha : PDt G X O a ca na ga) (hb : PDw G X O (.BoolOp .And (b :: rest) pos) cb nb gb) : PDw G X O (.BoolOp .And (a :: b :: rest) pos) (ca && cb) (na + nb) (fAnd ga gb) := by
  obtain ⟨ta, pa, qa⟩ := ha.run
  obtain ⟨tb, pb, qb⟩ := hb.run
  refine ⟨_, pw_and pa pb, fun B S H σ ρ Kc Q I hb hf hq => ?_⟩
  refine qa B S H σ ρ _ _ I (by omega) hf fun b H1 S1 ρ1 I1 m1 c1 h1 => ?_
  have cc : ∀ {z}, (ca && cb) = true → (cb = true → z = ρ1) → z = ρ := fun h hz => by
    have := Bool.and_eq_true_iff.mp h
    rw [hz this.2, c1 this.1]
  cases b with
  | true =>
    rw [if_pos rfl] at h1 ⊢
    exact qb B S1 H1 σ ρ1 _ _ I1 (by have := m1.lo; omega) h1 fun b H2 S2 ρ2 I2 m2 c2 h2 => hq b H2 S2 ρ2 I2 (m1.trans m2) (fun z => cc z c2) h2
  | false =>
    rw [if_neg (by decide)] at h1 ⊢
    exact hq _ H1 S1 ρ1 I1 (m1.up (Nat.le_add_right _ _)) (fun z => c1 (Bool.and_eq_true_iff.mp z).1) h1
theorem w_or (ha : PDt G X O a ca na ga) (hb : PDw G X O (.BoolOp .Or (b :: rest) pos) cb nb gb) : PDw G X O (.BoolOp .Or (a :: b :: rest) pos) (ca && cb) (na + nb) (fOr ga gb) := by
  obtain ⟨ta, pa, qa⟩ := ha.run
  obtain ⟨tb, pb, qb⟩ := hb.run
  refine ⟨_, pw_or pa pb, fun B S H σ ρ Kc Q I hb hf hq => ?_⟩
  refine qa B S H σ ρ _ _ I (by omega) hf fun b H1 S1 ρ1 I1 m1 c1 h1 => ?_
  have cc : ∀ {z}, (ca && cb) = true → (cb = true → z = ρ1) → z = ρ := fun h hz => by
    have := Bool.and_eq_true_iff.mp h
    rw [hz this.2, c1 this.1]
  cases b with
  | false =>
    rw [if_neg (by decide)] at h1 ⊢
    exact qb B S1 H1 σ ρ1 _ _ I1 (by have := m1.lo; omega) h1 fun b H2 S2 ρ2 I2 m2 c2 h2 => hq b H2 S2 ρ2 I2 (m1.trans m2) (fun z => cc z c2) h2
  | true =>
    rw [if_pos rfl] at h1 ⊢
    exact hq _ H1 S1 ρ1 I1 (m1.up (Nat.le_add_right _ _)) (fun z => c1 (Bool.and_eq_true_iff.mp z).1) h1
theorem t_w (h : PDw G X O e c n g) : PDt G X O e c n g := by
  obtain ⟨t, p, q⟩ := h.run
  exact ⟨_, p.pt, q⟩
/-- a chain of two comparisons -/
def fChain (g1 g2 : D → D → (D → Prop) → Prop) (fa fb fc : FE) : FE := fun ρ Kc => fa ρ fun ρ1 x => fb ρ1 fun ρ2 y => g1 x y fun z => isB z fun b => if b = true then fc ρ2 fun ρ3 w => g2 y w (Kc ρ3) else Kc ρ2 (.bl false)
theorem chainT {r r' : R2} {g1 g2} {ce : Expr} {kc : Kd} {cc : Bool} {fc : FE} {ta tb tc : TE} (hs : R2s G X O r g1 .st) (hs' : R2s G X O r' g2 .st)
    (qa : ∀ (B : Bs) (S : Fz) (H : Hp) (σ : L2.St) (ρ : EnvD) (Kc : EnvD → D → Prop) (Q : VK), Eok G X.K O B S H σ ρ → S.T + na ≤ limT → fa ρ Kc → (∀ v H' S' ρ' d, Eok G X.K O B S' H' σ ρ' → Sub na S S' → (ca = true → ρ' = ρ) → ROk G X.K B S' H' σ ρ' v d .st → Kc ρ' d → Q v H') → ta σ H Q)
    (qb : ∀ (B : Bs) (S : Fz) (H : Hp) (σ : L2.St) (ρ : EnvD) (Kc : EnvD → D → Prop) (Q : VK), Eok G X.K O B S H σ ρ → S.T + nb ≤ limT → fb ρ Kc → (∀ v H' S' ρ' d, Eok G X.K O B S' H' σ ρ' → Sub nb S S' → (cb = true → ρ' = ρ) → ROk G X.K B S' H' σ ρ' v d .st → Kc ρ' d → Q v H') → tb σ H Q)
    (qc : ∀ (B : Bs) (S : Fz) (H : Hp) (σ : L2.St) (ρ : EnvD) (Kc : EnvD → D → Prop) (Q : VK), Eok G X.K O B S H σ ρ → S.T + nc ≤ limT → fc ρ Kc → (∀ v H' S' ρ' d, Eok G X.K O B S' H' σ ρ' → Sub nc S S' → (cc = true → ρ' = ρ) → ROk G X.K B S' H' σ ρ' v d .st → Kc ρ' d → Q v H') → tc σ H Q) :
    ∀ (B : Bs) (S : Fz) (H : Hp) (σ : L2.St) (ρ : EnvD) (Kc : EnvD → D → Prop) (Q : VK), Eok G X.K O B S H σ ρ → S.T + (na + nb + nc) ≤ limT → fChain g1 g2 fa fb fc ρ Kc →
    (∀ v H' S' ρ' d, Eok G X.K O B S' H' σ ρ' → Sub (na + nb + nc) S S' → ((ca && cb && cc) = true → ρ' = ρ) → ROk G X.K B S' H' σ ρ' v d .st → Kc ρ' d → Q v H') → tChain r r' ta tb tc σ H Q := fun B S H σ ρ Kc Q I hb hf hq => by
  refine qa B S H σ ρ _ _ I (by omega) hf fun v H1 S1 ρ1 x I1 m1 c1 r1 h1 => ?_
  refine qb B S1 H1 σ ρ1 _ _ I1 (by have := m1.lo; omega) h1 fun w H2 S2 ρ2 y I2 m2 c2 r2 h2 => ?_
  have e2 : (ca && cb) = true → ρ2 = ρ := fun z => by
    have := Bool.and_eq_true_iff.mp z
    rw [c2 this.2, c1 this.1]
  refine hs B S2 H2 σ ρ2 .st .st v w x y _ _ I2 (Den.mono m2 r1) r2 h2 fun z H3 S3 d I3 m3 r3 h3 => ?_
  obtain ⟨b, rfl, h3'⟩ := isB_inv h3; replace h3 := h3'; clear h3'
  refine ⟨b, r3.bl_inv, ?_⟩
  cases b with
  | false =>
    rw [if_neg (by decide)] at h3 ⊢
    exact hq _ H3 S3 ρ2 _ I3 (((m1.trans m2).t0 m3).up (Nat.le_add_right _ _)) (fun z => e2 (Bool.and_eq_true_iff.mp z).1) (Den.bl false) h3
  | true =>
    rw [if_pos rfl] at h3 ⊢
    refine qc B S3 H3 σ ρ2 _ _ I3 (by have := m1.lo; have := m2.lo; have := m3.lo; omega) h3 fun w' H4 S4 ρ4 y' I4 m4 c4 r4 h4 => ?_
    refine hs' B S4 H4 σ ρ4 .st .st w w' y y' _ _ I4 (Den.mono (m3.trans m4) r2) r4 h4 fun z' H5 S5 d' I5 m5 r5 h5 => ?_
    exact hq _ H5 S5 ρ4 _ I5 ((((m1.trans m2).t0 m3).trans m4).t0 m5) (fun z => by
      have := Bool.and_eq_true_iff.mp z
      rw [c4 this.2, e2 this.1]) r5 h5
theorem e_chain {op op' : CmpOp} {r r' : R2} {g1 g2} {ce : Expr} {cc : Bool} {fc : FE} (ho : OpR X (compareOp op) r) (ho' : OpR X (compareOp op') r') (hs : R2s G X O r g1 .st) (hs' : R2s G X O r' g2 .st)
    (ha : PDe G X O a .st ca na fa) (hb : PDe G X O b .st cb nb fb) (hc : PDe G X O ce .st cc nc fc) (hm : lastMarks [op, op'] [b, ce] = false := by rfl) : PDe G X O (.Compare a [op, op'] [b, ce] pos) .st (ca && cb && cc) (na + nb + nc) (fChain g1 g2 fa fb fc) := by
  obtain ⟨ta, pa, qa⟩ := ha.run
  obtain ⟨tb, pb, qb⟩ := hb.run
  obtain ⟨tc, pc, qc⟩ := hc.run
  exact ⟨_, by first | exact pe_chain ho ho' pa pb pc | exact pe_chain ho ho' pa pb pc hm, chainT (ce := ce) (kc := .st) hs hs' qa qb qc⟩
theorem t_chain {op op' : CmpOp} {r r' : R2} {g1 g2} {ce : Expr} {cc : Bool} {fc : FE} (ho : OpR X (compareOp op) r) (ho' : OpR X (compareOp op') r') (hs : R2s G X O r g1 .st) (hs' : R2s G X O r' g2 .st)
    (ha : PDe G X O a .st ca na fa) (hb : PDe G X O b .st cb nb fb) (hc : PDe G X O ce .st cc nc fc) (hm : lastMarks [op, op'] [b, ce] = false := by rfl) : PDt G X O (.Compare a [op, op'] [b, ce] pos) (ca && cb && cc) (na + nb + nc) (fT (fChain g1 g2 fa fb fc)) := by
  obtain ⟨ta, pa, qa⟩ := ha.run
  obtain ⟨tb, pb, qb⟩ := hb.run
  obtain ⟨tc, pc, qc⟩ := hc.run
  exact ⟨_, by first | exact pt_chain ho ho' pa pb pc | exact pt_chain ho ho' pa pb pc hm, t_test (chainT (ce := ce) (kc := .st) hs hs' qa qb qc) fun _ _ _ h => h⟩

/-! ### and, or, not, if as values -/
def fAndV (fa fb : FE) : FE := fun ρ Kc => fa ρ fun ρ1 x => isB x fun b => if b = true then fb ρ1 Kc else Kc ρ1 (.bl false)
def fOrV (fa fb : FE) : FE := fun ρ Kc => fa ρ fun ρ1 x => isB x fun b => if b = true then Kc ρ1 (.bl true) else fb ρ1 Kc
def fNotV (fa : FE) : FE := fun ρ Kc => fa ρ fun ρ1 x => isB x fun b => Kc ρ1 (.bl !b)
theorem e_one {op} (h : PDe G X O a k c n f) : PDe G X O (.BoolOp op [a] pos) k c n f := by
  obtain ⟨t, p, q⟩ := h.run
  exact ⟨_, pe_one p, q⟩
theorem e_and (ha : PDe G X O a ka ca na fa) (hb : PDe G X O (.BoolOp .And (b :: rest) pos) .st cb nb fb) : PDe G X O (.BoolOp .And (a :: b :: rest) pos) .st (ca && cb) (na + nb) (fAndV fa fb) := by
  obtain ⟨ta, pa, qa⟩ := ha.run
  obtain ⟨tb, pb, qb⟩ := hb.run
  refine ⟨_, pe_and pa pb, fun B S H σ ρ Kc Q I hb hf hq => ?_⟩
  refine qa B S H σ ρ _ _ I (by omega) hf fun v H1 S1 ρ1 x I1 m1 c1 r1 h1 => ?_
  obtain ⟨b, rfl, h1'⟩ := isB_inv h1; replace h1 := h1'; clear h1'
  refine ⟨b, r1.bl I1, ?_⟩
  cases b with
  | true =>
    rw [if_pos rfl] at h1 ⊢
    exact qb B S1 H1 σ ρ1 _ _ I1 (by have := m1.lo; omega) h1 fun b H2 S2 ρ2 d I2 m2 c2 r2 h2 => hq b H2 S2 ρ2 d I2 (m1.trans m2) (fun z => by
      have := Bool.and_eq_true_iff.mp z
      rw [c2 this.2, c1 this.1]) r2 h2
  | false =>
    rw [if_neg (by decide)] at h1 ⊢
    exact hq _ H1 S1 ρ1 _ I1 (m1.up (Nat.le_add_right _ _)) (fun z => c1 (Bool.and_eq_true_iff.mp z).1) (Den.bl false) h1
theorem e_or (ha : PDe G X O a ka ca na fa) (hb : PDe G X O (.BoolOp .Or (b :: rest) pos) .st cb nb fb) : PDe G X O (.BoolOp .Or (a :: b :: rest) pos) .st (ca && cb) (na + nb) (fOrV fa fb) := by
  obtain ⟨ta, pa, qa⟩ := ha.run
  obtain ⟨tb, pb, qb⟩ := hb.run
  refine ⟨_, pe_or pa pb, fun B S H σ ρ Kc Q I hb hf hq => ?_⟩
  refine qa B S H σ ρ _ _ I (by omega) hf fun v H1 S1 ρ1 x I1 m1 c1 r1 h1 => ?_
  obtain ⟨b, rfl, h1'⟩ := isB_inv h1; replace h1 := h1'; clear h1'
  refine ⟨b, r1.bl I1, ?_⟩
  cases b with
  | false =>
    rw [if_neg (by decide)] at h1 ⊢
    exact qb B S1 H1 σ ρ1 _ _ I1 (by have := m1.lo; omega) h1 fun b H2 S2 ρ2 d I2 m2 c2 r2 h2 => hq b H2 S2 ρ2 d I2 (m1.trans m2) (fun z => by
      have := Bool.and_eq_true_iff.mp z
      rw [c2 this.2, c1 this.1]) r2 h2
  | true =>
    rw [if_pos rfl] at h1 ⊢
    exact hq _ H1 S1 ρ1 _ I1 (m1.up (Nat.le_add_right _ _)) (fun z => c1 (Bool.and_eq_true_iff.mp z).1) (Den.bl true) h1
theorem e_not (ha : PDe G X O a ka ca na fa) : PDe G X O (.UnaryOp .Not a pos) .st ca na (fNotV fa) := by
  obtain ⟨ta, pa, qa⟩ := ha.run
  refine ⟨_, pe_not pa, fun B S H σ ρ Kc Q I hb hf hq => ?_⟩
  refine qa B S H σ ρ _ _ I (by omega) hf fun v H1 S1 ρ1 x I1 m1 c1 r1 h1 => ?_
  obtain ⟨b, rfl, h1'⟩ := isB_inv h1; replace h1 := h1'; clear h1'
  exact ⟨b, r1.bl I1, hq _ H1 S1 ρ1 _ I1 m1 c1 (Den.bl _) h1⟩
def fIf (g : FT) (fa fb : FE) : FE := fun ρ Kc => g ρ fun ρ1 c => if c = true then fa ρ1 Kc else fb ρ1 Kc
theorem e_if {ce : Expr} {cc : Bool} (hc : PDt G X O ce cc nc g) (ha : PDe G X O a k ca na fa) (hb : PDe G X O b k cb nb fb) : PDe G X O (.IfExp ce a b pos) k (cc && (ca && cb)) (nc + max na nb) (fIf g fa fb) := by
  obtain ⟨tc, pc, qc⟩ := hc.run
  obtain ⟨ta, pa, qa⟩ := ha.run
  obtain ⟨tb, pb, qb⟩ := hb.run
  refine ⟨_, pe_ifExp pc pa pb, fun B S H σ ρ Kc Q I hb hf hq => ?_⟩
  refine qc B S H σ ρ _ _ I (by omega) hf fun c H1 S1 ρ1 I1 m1 c1 h1 => ?_
  have cc : ∀ {z : EnvD} {c'}, (cc && (ca && cb)) = true → (c' = true → z = ρ1) → c' = true → z = ρ := fun h hz hc' => by
    rw [hz hc', c1 (Bool.and_eq_true_iff.mp h).1]
  cases c with
  | true =>
    rw [if_pos rfl] at h1 ⊢
    exact qa B S1 H1 σ ρ1 _ _ I1 (by have := m1.lo; omega) h1 fun b H2 S2 ρ2 d I2 m2 c2 r2 h2 => hq b H2 S2 ρ2 d I2 ((m1.trans m2).up (by have := Nat.le_max_left na nb; omega)) (fun z => cc z c2 (Bool.and_eq_true_iff.mp (Bool.and_eq_true_iff.mp z).2).1) r2 h2
  | false =>
    rw [if_neg (by decide)] at h1 ⊢
    exact qb B S1 H1 σ ρ1 _ _ I1 (by have := m1.lo; omega) h1 fun b H2 S2 ρ2 d I2 m2 c2 r2 h2 => hq b H2 S2 ρ2 d I2 ((m1.trans m2).up (by have := Nat.le_max_right na nb; omega)) (fun z => cc z c2 (Bool.and_eq_true_iff.mp (Bool.and_eq_true_iff.mp z).2).2) r2 h2
end
end WL

/-! WD: statements, loops over data, list comprehensions. -/
namespace WL
open PySem PySem.Spec PyProof.Rows L2
structure EndsD where
  nx : EnvD → Prop
  rt : D → Prop
  bk : EnvD → Prop := fun _ => False
  ct : EnvD → Prop := fun _ => False
/-- how a def's answer lies -/
def RtOk (G : Glob) (K : PySem.W.Frag) (B : Bs) (S : Fz) (H : Hp) (v : V) (d : D) : Bool → Prop
  | false => Den G K S v d
  | true => ∃ a o, v = .ref a ∧ d = Own.d o ∧ o.con = true ∧ Own1 G K B S H a o
/-- the ends over data match those over values -/
structure EOk (G : Glob) (K : PySem.W.Frag) (O : XO) (rk : Bool) (n : Nat) (B : Bs) (S : Fz) (Ed : EndsD) (D : Ends) : Prop where
  nx : ∀ σ' H' S' ρ', Eok G K O B S' H' σ' ρ' → Sub n S S' → Ed.nx ρ' → D.nx σ' H'
  rt : ∀ v H' S' d, Sta G K B S' H' → Sub n S S' → RtOk G K B S' H' v d rk → Ed.rt d → D.rt v H'
  bk : ∀ σ' H' S' ρ', Eok G K O B S' H' σ' ρ' → Sub n S S' → Ed.bk ρ' → D.bk σ' H'
  ct : ∀ σ' H' S' ρ', Eok G K O B S' H' σ' ρ' → Sub n S S' → Ed.ct ρ' → D.ct σ' H'
theorem EOk.mono {G K O rk n m B S S' Ed D} (E : EOk G K O rk (n + m) B S Ed D) (h : Sub n S S') : EOk G K O rk m B S' Ed D :=
  ⟨fun σ' H' S2 ρ' I m2 => E.nx σ' H' S2 ρ' I (h.trans m2), fun v H' S2 d I m2 => E.rt v H' S2 d I (h.trans m2), fun σ' H' S2 ρ' I m2 => E.bk σ' H' S2 ρ' I (h.trans m2), fun σ' H' S2 ρ' I m2 => E.ct σ' H' S2 ρ' I (h.trans m2)⟩
theorem EOk.less {G K O rk n m B S Ed D} (E : EOk G K O rk m B S Ed D) (h : n ≤ m) : EOk G K O rk n B S Ed D :=
  ⟨fun σ' H' S2 ρ' I m2 => E.nx σ' H' S2 ρ' I (m2.up h), fun v H' S2 d I m2 => E.rt v H' S2 d I (m2.up h), fun σ' H' S2 ρ' I m2 => E.bk σ' H' S2 ρ' I (m2.up h), fun σ' H' S2 ρ' I m2 => E.ct σ' H' S2 ρ' I (m2.up h)⟩
theorem EOk.mono0 {G K O rk n B S S' Ed D} (E : EOk G K O rk n B S Ed D) (h : Sub 0 S S') : EOk G K O rk n B S' Ed D := EOk.mono (n := 0) (E.less (Nat.le_of_eq (Nat.zero_add n))) h
abbrev FS := EndsD → EnvD → Prop
structure PDs (G : Glob) (X : Cx) (O : XO) (rk : Bool) (st : Stmt) (n : Nat) (g : FS) : Prop where
  run : ∃ t : TS, PS X st t ∧ ∀ (B : Bs) (S : Fz) (H : Hp) (σ : L2.St) (ρ : EnvD) (Ed : EndsD) (D : Ends), Eok G X.K O B S H σ ρ → S.T + n ≤ limT → g Ed ρ → EOk G X.K O rk n B S Ed D → t D σ H
structure PDb (G : Glob) (X : Cx) (O : XO) (rk : Bool) (st : List Stmt) (n : Nat) (g : FS) : Prop where
  run : ∃ t : TS, PSs X st t ∧ ∀ (B : Bs) (S : Fz) (H : Hp) (σ : L2.St) (ρ : EnvD) (Ed : EndsD) (D : Ends), Eok G X.K O B S H σ ρ → S.T + n ≤ limT → g Ed ρ → EOk G X.K O rk n B S Ed D → t D σ H
section
variable {G : Glob} {X : Cx} {O : XO} {rk : Bool} {st : Stmt} {rest : List Stmt} {g g1 g2 : FS} {e : Expr} {k : Kd} {c : Bool} {n n1 n2 : Nat} {f : FE} {pos : Pos}
def fNext : FS := fun Ed ρ => Ed.nx ρ
def fSeq (g1 g2 : FS) : FS := fun Ed ρ => g1 { Ed with nx := g2 Ed } ρ
theorem b_nil : PDb G X O rk [] 0 fNext := ⟨_, pss_nil, fun B S H σ ρ Ed D I hb h E => E.nx _ _ _ _ I (Sub.refl _) h⟩
theorem b_cons (h1 : PDs G X O rk st n1 g1) (h2 : PDb G X O rk rest n2 g2) : PDb G X O rk (st :: rest) (n1 + n2) (fSeq g1 g2) := by
  obtain ⟨t1, p1, q1⟩ := h1.run
  obtain ⟨t2, p2, q2⟩ := h2.run
  refine ⟨_, pss_cons p1 p2, fun B S H σ ρ Ed D I hb h E => ?_⟩
  have E1 := E.less (Nat.le_add_right n1 n2)
  exact q1 B S H σ ρ _ _ I (by omega) h ⟨fun σ' H' S' ρ' I' m hh => q2 B S' H' σ' ρ' _ _ I' (by have := m.lo; omega) hh (E.mono m), E1.rt, E1.bk, E1.ct⟩
theorem b_one (h1 : PDs G X O rk st n g1) : PDb G X O rk [st] n g1 := by
  obtain ⟨t1, p1, q1⟩ := h1.run
  exact ⟨_, pss_one p1, q1⟩
theorem s_pass : PDs G X O rk (.Pass pos) 0 fNext := ⟨_, ps_pass, fun B S H σ ρ Ed D I hb h E => E.nx _ _ _ _ I (Sub.refl _) h⟩
def fBrk : FS := fun Ed ρ => Ed.bk ρ
def fCnt : FS := fun Ed ρ => Ed.ct ρ
theorem s_break : PDs G X O rk (.Break pos) 0 fBrk := ⟨_, ps_break, fun B S H σ ρ Ed D I hb h E => E.bk _ _ _ _ I (Sub.refl _) h⟩
theorem s_continue : PDs G X O rk (.Continue pos) 0 fCnt := ⟨_, ps_continue, fun B S H σ ρ Ed D I hb h E => E.ct _ _ _ _ I (Sub.refl _) h⟩
/-- the container of slot i is frozen from here on -/
def fStill (i : Nat) (g : FS) : FS := fun Ed ρ => ∃ o, ρ[i]? = some (some (.own o)) ∧ o.con = true ∧ g Ed (ρ.set i (some (.imm o.d)))
theorem b_still (i : Nat) (h : PDb G X O rk rest n g) : PDb G X O rk rest n (fStill i g) := by
  obtain ⟨t1, p1, q1⟩ := h.run
  refine ⟨_, p1, fun B S H σ ρ Ed D I hb h E => ?_⟩
  obtain ⟨o, e, hc, h⟩ := h
  obtain ⟨S', I', m⟩ := I.still (Own.con_full hc) e
  exact q1 B S' H σ _ _ _ I' (by have := m.lo; omega) h (E.mono0 m)
def fDrop (f : FE) : FS := fun Ed ρ => f ρ fun ρ' _ => Ed.nx ρ'
theorem s_expr (h : PDe G X O e k c n f) (hs : swapsWith e none pos.line X.env = pure false := by rfl) : PDs G X O rk (.Expr e pos) n (fDrop f) := by
  obtain ⟨t1, p1, q1⟩ := h.run
  refine ⟨_, ps_expr p1 hs, fun B S H σ ρ Ed D I hb h E => ?_⟩
  exact q1 B S H σ ρ _ _ I (by omega) h fun v H1 S1 ρ1 d I1 m1 c1 r1 h1 => E.nx _ _ _ _ I1 m1 h1
def fRet (f : FE) : FS := fun Ed ρ => f ρ fun _ d => Ed.rt d
theorem ROk.frozen {K : PySem.W.Frag} {B : Bs} {S : Fz} {H : Hp} {σ : L2.St} {ρ : EnvD} {v : V} {d : D} (I : Eok G K O B S H σ ρ) (r : ROk G K B S H σ ρ v d k) : ∃ S', Sta G K B S' H ∧ Sub 0 S S' ∧ Den G K S' v d := by
  cases k with
  | st => exact ⟨S, I.toSta, Sub.refl _, r⟩
  | fr =>
    obtain ⟨S', I', m, d'⟩ := r.freeze I
    exact ⟨S', I'.toSta, m, d'⟩
  | bo i =>
    obtain ⟨a, o, rfl, rfl, w, hc⟩ := r
    obtain ⟨w1, n⟩ := I.take w
    obtain ⟨S', I', m, d'⟩ := (I.forget (i := i)).freeze w1 (Own.con_full hc) n
    exact ⟨S', I'.toSta, m, d'⟩
theorem s_ret (h : PDe G X O e k c n f) : PDs G X O false (.Return (some e) pos) n (fRet f) := by
  obtain ⟨t1, p1, q1⟩ := h.run
  refine ⟨_, ps_ret p1, fun B S H σ ρ Ed D I hb h E => ?_⟩
  refine q1 B S H σ ρ _ _ I (by omega) h fun v H1 S1 ρ1 d I1 m1 c1 r1 h1 => ?_
  obtain ⟨S2, t2, m2, d2⟩ := r1.frozen I1
  exact E.rt _ _ _ _ t2 (m1.t0 m2) d2 h1
/-- .. where what is handed back is the caller's own -/
theorem s_retF (h : PDe G X O e k c n f) (hk : decide (k = .st) = false := by rfl) : PDs G X O true (.Return (some e) pos) n (fRet f) := by
  obtain ⟨t1, p1, q1⟩ := h.run
  refine ⟨_, ps_ret p1, fun B S H σ ρ Ed D I hb h E => ?_⟩
  refine q1 B S H σ ρ _ _ I (by omega) h fun v H1 S1 ρ1 d I1 m1 c1 r1 h1 => ?_
  refine E.rt _ _ _ _ I1.toSta m1 ?_ h1
  cases k with
  | st => exact absurd hk (by decide)
  | fr =>
    obtain ⟨a, o, e1, e2, w, hc, _⟩ := r1
    exact ⟨a, o, e1, e2, hc, w⟩
  | bo i =>
    obtain ⟨a, o, e1, e2, w, hc⟩ := r1
    exact ⟨a, o, e1, e2, hc, Owns.at I1 w⟩
def fRetN : FS := fun Ed _ => Ed.rt .non
theorem s_retN : PDs G X O false (.Return none pos) 0 fRetN := ⟨_, ps_retN, fun B S H σ ρ Ed D I hb h E => E.rt _ _ _ _ I.toSta (Sub.refl _) Den.non h⟩
def fIfS (t : FT) (g1 g2 : FS) : FS := fun Ed ρ => t ρ fun ρ1 b => if b = true then g1 Ed ρ1 else g2 Ed ρ1
theorem s_if {ce : Expr} {cc : Bool} {t : FT} {a b : List Stmt} (hc : PDt G X O ce cc n t) (h1 : PDb G X O rk a n1 g1) (h2 : PDb G X O rk b n2 g2) : PDs G X O rk (.If ce a b pos) (n + max n1 n2) (fIfS t g1 g2) := by
  obtain ⟨tc, pc, qc⟩ := hc.run
  obtain ⟨t1, p1, q1⟩ := h1.run
  obtain ⟨t2, p2, q2⟩ := h2.run
  refine ⟨_, ps_if pc p1 p2, fun B S H σ ρ Ed D I hb h E => ?_⟩
  refine qc B S H σ ρ _ _ I (by omega) h fun b H1 S1 ρ1 I1 m1 c1 h1 => ?_
  cases b with
  | true =>
    rw [if_pos rfl] at h1 ⊢
    exact q1 B S1 H1 σ ρ1 _ _ I1 (by have := m1.lo; omega) h1 ((E.mono m1).less (Nat.le_max_left _ _))
  | false =>
    rw [if_neg (by decide)] at h1 ⊢
    exact q2 B S1 H1 σ ρ1 _ _ I1 (by have := m1.lo; omega) h1 ((E.mono m1).less (Nat.le_max_right _ _))
/-- x = e, a frozen thing -/
def fSet (i : Nat) (f : FE) : FS := fun Ed ρ => f ρ fun ρ' d => Ed.nx (ρ'.set i (some (.imm d)))
theorem s_set (i : Nat) {x : Str} {pos' : Pos} (h : PDe G X O e .st c n f) (hN : X.N.Nodup) (hk : O.keep i = false := by rfl) (hi : X.N[i]? = some x := by rfl) (hx : Loc X.env.scope x := by first | exact Or.inl rfl | exact Or.inr rfl)
    (hs : swapsWith e (some (.Name x pos')) pos.line X.env = pure false := by rfl) (hf : X.fn x = true ∨ X.env.scope.names.lookup x = some .local := by first | exact .inl rfl | exact .inr rfl) : PDs G X O rk (.Assign [.Name x pos'] e pos) n (fSet i f) := by
  obtain ⟨t1, p1, q1⟩ := h.run
  refine ⟨_, ps_set hN hi hx p1 hs hf, fun B S H σ ρ Ed D I hb h E => ?_⟩
  exact q1 B S H σ ρ _ _ I (by omega) h fun v H1 S1 ρ1 d I1 m1 c1 r1 h1 => E.nx _ _ _ _ (I1.set hk r1) m1 h1
def ownOf (d : D) (P : Own → Prop) : Prop := match d with
  | .lst xs => P (.lst xs)
  | .dct ps => P (.dct ps)
  | _ => False
theorem ownOf_inv {d : D} {P : Own → Prop} (h : ownOf d P) : ∃ o : Own, d = o.d ∧ o.con = true ∧ P o := by
  cases d <;> first | exact ⟨.lst _, rfl, rfl, h⟩ | exact ⟨.dct _, rfl, rfl, h⟩ | exact h.elim
/-- x = e, a container of one's own -/
def fSetO (i : Nat) (f : FE) : FS := fun Ed ρ => f ρ fun ρ' d => ownOf d fun o => Ed.nx (ρ'.set i (some (.own o)))
theorem s_setO (i : Nat) {x : Str} {pos' : Pos} (h : PDe G X O e .fr c n f) (hN : X.N.Nodup) (hk : O.keep i = false := by rfl) (hi : X.N[i]? = some x := by rfl) (hx : Loc X.env.scope x := by first | exact Or.inl rfl | exact Or.inr rfl)
    (hs : swapsWith e (some (.Name x pos')) pos.line X.env = pure false := by rfl) (hf : X.fn x = true ∨ X.env.scope.names.lookup x = some .local := by first | exact .inl rfl | exact .inr rfl) : PDs G X O rk (.Assign [.Name x pos'] e pos) n (fSetO i f) := by
  obtain ⟨t1, p1, q1⟩ := h.run
  refine ⟨_, ps_set hN hi hx p1 hs hf, fun B S H σ ρ Ed D I hb h E => ?_⟩
  refine q1 B S H σ ρ _ _ I (by omega) h fun v H1 S1 ρ1 d I1 m1 c1 r1 h1 => ?_
  obtain ⟨o, rfl, hc, h2⟩ := ownOf_inv h1
  exact E.nx _ _ _ _ (I1.setO hk hc r1) m1 h2

/-! ### while -/
def fWhile (t : FT) (gb : FS) : FS := fun Ed ρ => ∃ W : Nat → EnvD → Prop, (∃ m, W m ρ) ∧ ∀ m ρ, W m ρ → t ρ fun ρ1 b =>
  if b = true then gb { nx := fun ρ2 => ∃ m', m' < m ∧ W m' ρ2, ct := fun ρ2 => ∃ m', m' < m ∧ W m' ρ2, bk := Ed.nx, rt := Ed.rt } ρ1 else Ed.nx ρ1
theorem s_while {ce : Expr} {cc : Bool} {t : FT} {body : List Stmt} (hp : PassesOwn (model X.prog X.w) X.A X.env X.xe) (hc : PDt G X O ce cc 0 t) (hb : PDb G X O rk body 0 g) : PDs G X O rk (.While ce body [] pos) 0 (fWhile t g) := by
  obtain ⟨tc, pc, qc⟩ := hc.run
  obtain ⟨t1, p1, q1⟩ := hb.run
  refine ⟨_, ps_while hp pc p1, fun B S H σ ρ Ed D I hb h E => ?_⟩
  obtain ⟨W, ⟨m, w0⟩, hW⟩ := h
  refine ⟨fun m σ' H' => ∃ S' ρ', Eok G X.K O B S' H' σ' ρ' ∧ Sub 0 S S' ∧ W m ρ', ⟨m, S, ρ, I, Sub.refl _, w0⟩, ?_⟩
  rintro m σ' H' ⟨S', ρ', I', m', w⟩
  refine qc B S' H' σ' ρ' _ _ I' (by have := m'.lo; omega) (hW m ρ' w) fun b H1 S1 ρ1 I1 m1 c1 h1 => ?_
  cases b with
  | false =>
    rw [if_neg (by decide)] at h1 ⊢
    exact E.nx _ _ _ _ I1 (m'.t0 m1) h1
  | true =>
    rw [if_pos rfl] at h1 ⊢
    refine ⟨fun σ2 H2 => ∃ m2, m2 < m ∧ ∃ S' ρ', Eok G X.K O B S' H2 σ2 ρ' ∧ Sub 0 S S' ∧ W m2 ρ', fun _ _ z => z, ?_⟩
    have E' := E.mono0 (m'.t0 m1)
    refine q1 B S1 H1 σ' ρ1 _ _ I1 (by have := m1.lo; have := m'.lo; omega) h1 ⟨fun σ2 H2 S2 ρ2 I2 m2 ⟨n, hn, w2⟩ => ⟨n, hn, S2, ρ2, I2, (m'.t0 m1).t0 m2, w2⟩, E'.rt, E'.nx, fun σ2 H2 S2 ρ2 I2 m2 ⟨n, hn, w2⟩ => ⟨n, hn, S2, ρ2, I2, (m'.t0 m1).t0 m2, w2⟩⟩
/-- .. of at most cap rounds, which draw -/
def fWhileN (cap : Nat) (t : FT) (gb : FS) : FS := fun Ed ρ => ∃ W : Nat → EnvD → Prop, (∃ m, m ≤ cap ∧ W m ρ) ∧ ∀ m ρ, W m ρ → t ρ fun ρ1 b =>
  if b = true then gb { nx := fun ρ2 => ∃ m', m' < m ∧ W m' ρ2, ct := fun ρ2 => ∃ m', m' < m ∧ W m' ρ2, bk := Ed.nx, rt := Ed.rt } ρ1 else Ed.nx ρ1
theorem s_whileN (cap : Nat) {ce : Expr} {cc : Bool} {t : FT} {body : List Stmt} (hp : PassesOwn (model X.prog X.w) X.A X.env X.xe) (hc : PDt G X O ce cc n1 t) (hb : PDb G X O rk body n2 g) : PDs G X O rk (.While ce body [] pos) ((cap + 1) * (n1 + n2)) (fWhileN cap t g) := by
  obtain ⟨tc, pc, qc⟩ := hc.run
  obtain ⟨t1, p1, q1⟩ := hb.run
  refine ⟨_, ps_while hp pc p1, fun B S H σ ρ Ed D I hb h E => ?_⟩
  obtain ⟨W, ⟨m, hm, w0⟩, hW⟩ := h
  refine ⟨fun m σ' H' => ∃ u S' ρ', Eok G X.K O B S' H' σ' ρ' ∧ Sub u S S' ∧ u + (m + 1) * (n1 + n2) ≤ (cap + 1) * (n1 + n2) ∧ W m ρ', ⟨m, 0, S, ρ, I, Sub.refl _, by rw [Nat.zero_add]; exact Nat.mul_le_mul_right _ (Nat.succ_le_succ hm), w0⟩, ?_⟩
  rintro m σ' H' ⟨u, S', ρ', I', m', hu, w⟩
  have hs : (m + 1) * (n1 + n2) = m * (n1 + n2) + (n1 + n2) := Nat.succ_mul _ _
  refine qc B S' H' σ' ρ' _ _ I' (by have := m'.lo; omega) (hW m ρ' w) fun b H1 S1 ρ1 I1 m1 c1 h1 => ?_
  cases b with
  | false =>
    rw [if_neg (by decide)] at h1 ⊢
    exact E.nx _ _ _ _ I1 ((m'.trans m1).up (by omega)) h1
  | true =>
    rw [if_pos rfl] at h1 ⊢
    refine ⟨fun σ2 H2 => ∃ m2, m2 < m ∧ ∃ u S' ρ', Eok G X.K O B S' H2 σ2 ρ' ∧ Sub u S S' ∧ u + (m2 + 1) * (n1 + n2) ≤ (cap + 1) * (n1 + n2) ∧ W m2 ρ', fun _ _ z => z, ?_⟩
    have lt : ∀ {m2 : Nat}, m2 < m → u + n1 + n2 + (m2 + 1) * (n1 + n2) ≤ (cap + 1) * (n1 + n2) := fun {m2} h => by
      have h2 : (m2 + 1) * (n1 + n2) ≤ m * (n1 + n2) := Nat.mul_le_mul_right _ h
      omega
    have go : ∀ σ2 H2 S2 ρ2, Eok G X.K O B S2 H2 σ2 ρ2 → Sub n2 S1 S2 → (∃ m', m' < m ∧ W m' ρ2) → ∃ m2, m2 < m ∧ ∃ u S' ρ', Eok G X.K O B S' H2 σ2 ρ' ∧ Sub u S S' ∧ u + (m2 + 1) * (n1 + n2) ≤ (cap + 1) * (n1 + n2) ∧ W m2 ρ' :=
      fun σ2 H2 S2 ρ2 I2 m2 ⟨j, hj, w2⟩ => ⟨j, hj, _, S2, ρ2, I2, (m'.trans m1).trans m2, lt hj, w2⟩
    have ls : u + n1 + n2 ≤ (cap + 1) * (n1 + n2) := by omega
    exact q1 B S1 H1 σ' ρ1 _ _ I1 (by have := m1.lo; have := m'.lo; omega) h1 ⟨go, fun v H2 S2 d I2 m2 r hr => E.rt _ _ _ _ I2 (((m'.trans m1).trans m2).up ls) r hr, fun σ2 H2 S2 ρ2 I2 m2 hb => E.nx _ _ _ _ I2 (((m'.trans m1).trans m2).up ls) hb, go⟩

/-! ### targets of loops -/
abbrev FG := D → EnvD → (EnvD → Prop) → Prop
/-- slots beside those at sl are as they were -/
def Off (sl : List Nat) (σ σ' : L2.St) (ρ ρ' : EnvD) : Prop := σ'.length = σ.length ∧ ∀ i, i ∉ sl → σ'[i]? = σ[i]? ∧ ρ'[i]? = ρ[i]?
structure PDg (G : Glob) (X : Cx) (O : XO) (tg : Expr) (sl : List Nat) (h : FG) : Prop where
  run : ∃ t : TG, PG X tg t ∧ ∀ (B : Bs) (S : Fz) (H : Hp) (σ : L2.St) (ρ : EnvD) (v : V) (d : D) (Kc : EnvD → Prop) (Q : L2.St → Hp → Prop), Eok G X.K O B S H σ ρ → Den G X.K S v d → h d ρ Kc →
    (∀ σ' ρ', Eok G X.K O B S H σ' ρ' → Off sl σ σ' ρ ρ' → Kc ρ' → Q σ' H) → t v σ H Q
structure PDgs (G : Glob) (X : Cx) (O : XO) (tgs : List Expr) (sl : List Nat) (h : List D → EnvD → (EnvD → Prop) → Prop) : Prop where
  run : ∃ t : TGs, PGs X tgs t ∧ ∀ (B : Bs) (S : Fz) (H : Hp) (σ : L2.St) (ρ : EnvD) (vs : List V) (ds : List D) (Kc : EnvD → Prop) (Q : L2.St → Hp → Prop), Eok G X.K O B S H σ ρ → DenL G X.K S vs ds → h ds ρ Kc →
    (∀ σ' ρ', Eok G X.K O B S H σ' ρ' → Off sl σ σ' ρ ρ' → Kc ρ' → Q σ' H) → t vs σ H Q
def hName (i : Nat) : FG := fun d ρ Kc => Kc (ρ.set i (some (.imm d)))
theorem g_name (i : Nat) {x : Str} (hN : X.N.Nodup) (hk : O.keep i = false := by rfl) (hi : X.N[i]? = some x := by rfl) (hx : Loc X.env.scope x := by first | exact Or.inl rfl | exact Or.inr rfl)
    (hf : X.fn x = true ∨ X.env.scope.names.lookup x = some .local := by first | exact .inl rfl | exact .inr rfl) : PDg G X O (.Name x pos) [i] (hName i) :=
  ⟨_, pg_name hN hi hx hf, fun B S H σ ρ v d Kc Q I r h hq => hq _ _ (I.set hk r) ⟨List.length_set, fun j hj => by
    have : i ≠ j := fun z => hj (by simp [z])
    rw [get_set, get_set, if_neg this, if_neg this]; exact ⟨rfl, rfl⟩⟩ h⟩
def hNil : List D → EnvD → (EnvD → Prop) → Prop := fun ds ρ Kc => match ds with
  | [] => Kc ρ
  | _ => False
def hCons (h : FG) (hr : List D → EnvD → (EnvD → Prop) → Prop) : List D → EnvD → (EnvD → Prop) → Prop := fun ds ρ Kc => match ds with
  | d :: r => h d ρ fun ρ' => hr r ρ' Kc
  | [] => False
theorem gs_nil : PDgs G X O [] [] hNil := ⟨_, pgs_nil, fun B S H σ ρ vs ds Kc Q I r h hq => by
  cases r with
  | nil => exact ⟨rfl, hq _ _ I ⟨rfl, fun _ _ => ⟨rfl, rfl⟩⟩ h⟩
  | cons _ _ => exact h.elim⟩
theorem gs_cons {tg : Expr} {tgs : List Expr} {s1 s2 : List Nat} {h : FG} {hr} (h1 : PDg G X O tg s1 h) (h2 : PDgs G X O tgs s2 hr) (hst : List.map (fun x => x.snd) (assignEach (tg :: tgs) X.env) = assign tg X.env :: List.map (fun x => x.snd) (assignEach tgs X.env) := by rfl) : PDgs G X O (tg :: tgs) (s1 ++ s2) (hCons h hr) := by
  obtain ⟨t1, p1, q1⟩ := h1.run
  obtain ⟨t2, p2, q2⟩ := h2.run
  refine ⟨_, pgs_cons p1 p2 hst, fun B S H σ ρ vs ds Kc Q I r h hq => ?_⟩
  cases r with
  | nil => exact h.elim
  | cons r1 r2 =>
    refine ⟨_, _, rfl, q1 B S H σ ρ _ _ _ _ I r1 h fun σ' ρ' I' of' h' => ?_⟩
    exact q2 B S H σ' ρ' _ _ _ _ I' r2 h' fun σ2 ρ2 I2 of2 h2 => hq σ2 ρ2 I2 ⟨of2.1.trans of'.1, fun i hi => by
      have a := of2.2 i fun z => hi (by simp [z])
      have b := of'.2 i fun z => hi (by simp [z])
      exact ⟨a.1.trans b.1, a.2.trans b.2⟩⟩ h2
def tupOf (n : Nat) (d : D) (P : List D → Prop) : Prop := match d with
  | .tup ds => ds.length = n ∧ P ds
  | _ => False
theorem tupOf_inv {n : Nat} {d : D} {P : List D → Prop} (h : tupOf n d P) : ∃ ds, d = .tup ds ∧ ds.length = n ∧ P ds := by
  cases d <;> first | exact ⟨_, rfl, h⟩ | exact h.elim
def hTup (n : Nat) (hr : List D → EnvD → (EnvD → Prop) → Prop) : FG := fun d ρ Kc => tupOf n d fun ds => hr ds ρ Kc
theorem g_tup {es : List Expr} {kk : Nat} {n : Nat} {sl : List Nat} {hr} (hc : X.calm = true) (h : PDgs G X O es sl hr) (hn : (assignEach es X.env).length = n := by rfl) (hst : (assignEach es X.env).findIdx? (·.1) = none := by rfl) :
    PDg G X O (.Tuple es kk pos) sl (hTup n hr) := by
  obtain ⟨t1, p1, q1⟩ := h.run
  refine ⟨_, pg_tup hc p1 hn hst, fun B S H σ ρ v d Kc Q I r h hq => ?_⟩
  obtain ⟨ds, rfl, hl, h⟩ := tupOf_inv h
  obtain ⟨a, vs, rfl, hs, rs⟩ := r.tup_inv
  exact ⟨a, vs, rfl, SqT.of (I.le _ _ hs), by rw [rs.length]; exact hl, q1 B S H σ ρ vs ds _ _ I rs h hq⟩
/-- a, b, .. = e -/
def fUnp (h : FG) (f : FE) : FS := fun Ed ρ => f ρ fun ρ' d => h d ρ' Ed.nx
theorem s_unp {tg : Expr} {sl : List Nat} {h : FG} (hg : PDg G X O tg sl h) (he : PDe G X O e .st c n f) (hs : swapsWithSole [tg] e pos.line X.env = pure false := by rfl) (hw : swappedStores [tg] e X.env = pure none := by rfl) (h1 : List.map (fun x => x.snd) (assignEach [tg] X.env) = [assign tg X.env] := by rfl) : PDs G X O rk (.Assign [tg] e pos) n (fUnp h f) := by
  obtain ⟨t1, p1, q1⟩ := he.run
  obtain ⟨t2, p2, q2⟩ := hg.run
  refine ⟨_, ps_asg p1 p2 hs hw h1, fun B S H σ ρ Ed D I hb h E => ?_⟩
  refine q1 B S H σ ρ _ _ I (by omega) h fun v H1 S1 ρ1 d I1 m1 c1 r1 h1 => ?_
  exact q2 B S1 H1 σ ρ1 v d _ _ I1 r1 h1 fun σ' ρ' I' _ h' => E.nx _ _ _ _ I' m1 h'

/-! ### what is walked -/
structure ItOk (G : Glob) (K : PySem.W.Frag) (S : Fz) (J : It) (xs : List D) : Prop where
  go : ∀ (m i : Nat) (S2 : Fz) (H : Hp), Sub m S S2 → (∀ a o, S2 a = some o → H a = some o) → G.J S2.T H → i < xs.length → J.go i H
  stop : ∀ (m : Nat) (S2 : Fz) (H : Hp), Sub m S S2 → (∀ a o, S2 a = some o → H a = some o) → G.J S2.T H → J.stop xs.length H
  yld : ∀ (O : XO) (m i : Nat) (B : Bs) (S2 : Fz) (H : Hp) (σ : L2.St) (ρ : EnvD) (x : V) (H' : Hp), Sub m S S2 → Eok G K O B S2 H σ ρ → i < xs.length → J.yld i H x H' → ∃ S3 d, xs[i]? = some d ∧ Eok G K O B S3 H' σ ρ ∧ Sub 0 S2 S3 ∧ Den G K S3 x d
abbrev FI := EnvD → (EnvD → List D → Prop) → Prop
structure PDi (G : Glob) (X : Cx) (O : XO) (tg iter : Expr) (n : Nat) (f : FI) : Prop where
  run : ∃ wi : TI, PI X tg iter wi ∧ ∀ (B : Bs) (S : Fz) (H : Hp) (σ : L2.St) (ρ : EnvD) (Kc : EnvD → List D → Prop) (R : It → Hp → Prop), Eok G X.K O B S H σ ρ → S.T + n ≤ limT → f ρ Kc →
    (∀ J H' S' ρ' xs, Eok G X.K O B S' H' σ ρ' → Sub n S S' → ItOk G X.K S' J xs → Kc ρ' xs → R J H') → wi σ H R
theorem ItOk.mono {n : Nat} {K : PySem.W.Frag} {S S' : Fz} {J : It} {xs : List D} (h : ItOk G K S J xs) (m : Sub n S S') : ItOk G K S' J xs :=
  ⟨fun k i S2 H m2 => h.go _ i S2 H (m.trans m2), fun k S2 H m2 => h.stop _ S2 H (m.trans m2), fun O k i B S2 H σ ρ x H' m2 => h.yld O _ i B S2 H σ ρ x H' (m.trans m2)⟩

def lstOf (d : D) (P : List D → Prop) : Prop := match d with
  | .lst ds => P ds
  | _ => False
theorem lstOf_inv {d : D} {P : List D → Prop} (h : lstOf d P) : ∃ ds, d = .lst ds ∧ P ds := by
  cases d <;> first | exact ⟨_, rfl, h⟩ | exact h.elim
def tupOf' (d : D) (P : List D → Prop) : Prop := match d with
  | .tup ds => P ds
  | _ => False
theorem tupOf'_inv {d : D} {P : List D → Prop} (h : tupOf' d P) : ∃ ds, d = .tup ds ∧ P ds := by
  cases d <;> first | exact ⟨_, rfl, h⟩ | exact h.elim
def strD (x : Str) : List D := x.cps.toList.map fun c => .str ⟨#[c]⟩
/-- what a list, a tuple, a text yields -/
def itOf (d : D) (P : List D → Prop) : Prop := match d with
  | .lst ds => P ds
  | .tup ds => P ds
  | .str x => P (strD x)
  | .wls ds => P ds
  | .wtp ds => P ds
  | _ => False
/-- a list, a tuple, a text, walked -/
theorem pi_any {tg l : Expr} {tl : TE} (hl : PE X l tl) : PI X tg l (fun σ H R => tl σ H fun x H1 => (∃ a, x = .ref a ∧ (∃ xs, SqL X.K H1 a xs) ∧ R (Itl X.K a) H1) ∨ (∃ a, x = .ref a ∧ (∃ xs, SqT X.K H1 a xs) ∧ R (Itt X.K a) H1) ∨ ∃ y, x = .str y ∧ R (Its y) H1) := by
  refine ⟨fun pins s σ H R I h => ?_⟩
  refine thn (hl.run pins s σ H _ I h) fun v s1 ⟨x, H1, I1, r1, q1⟩ => ?_
  rcases q1 with ⟨a, e, ⟨xs, hq⟩, q⟩ | ⟨a, e, ⟨xs, hq⟩, q⟩ | ⟨y, e, q⟩
  · subst e
    cases r1
    obtain ⟨its, rv, p, hz⟩ := I1.list hq
    refine wpAny_pyIter_list p.isList ?_
    refine ⟨s1.heap.objs.size, [s1.heap.objs.size], _, _, H1, rfl, I1.kept (t' := s1.toks) fun b o e => Heap.get?_push_of_some _ e, turn_list a _, ⟨_, Heap.get?_push_size _ rfl, rfl, rfl⟩, fun b hb => ?_, q⟩
    have e : b = s1.heap.objs.size := by simpa using hb
    subst e
    exact I1.fpOk (Nat.le_refl _) (I1.hok.fresh (Nat.le_refl _))
  · subst e
    cases r1
    obtain ⟨its, rv, p, hz⟩ := I1.tuple hq
    refine wpAny_pyIter_tuple (show s1.heap.IsTuple a its.toArray from p) ?_
    refine ⟨s1.heap.objs.size, [s1.heap.objs.size], _, _, H1, rfl, I1.kept (t' := s1.toks) fun b o e => Heap.get?_push_of_some _ e, turn_tuple a _, ⟨_, Heap.get?_push_size _ rfl, rfl, rfl⟩, fun b hb => ?_, q⟩
    have e : b = s1.heap.objs.size := by simpa using hb
    subst e
    exact I1.fpOk (Nat.le_refl _) (I1.hok.fresh (Nat.le_refl _))
  · subst e
    obtain ⟨t, rfl⟩ := r1
    cases ha : y.cps.all (· < 128)
    · exact wpAny_pyIter_wide ha (pi_one (tk := s1.toks) I1 _ (turn_str _ y t "str_iterator" (.inr rfl)) ⟨_, Heap.get?_push_size _ rfl, rfl, rfl⟩ q)
    · exact wpAny_pyIter_ascii ha (pi_one (tk := s1.toks) I1 _ (turn_str _ y t "str_ascii_iterator" (.inl rfl)) ⟨_, Heap.get?_push_size _ rfl, rfl, rfl⟩ q)
theorem paired_some {α β : Type} {F : α → β → Prop} {l₁ : List α} {l₂ : List β} (h : Paired F l₁ l₂) {i : Nat} (hi : i < l₂.length) : ∃ a b, l₁[i]? = some a ∧ l₂[i]? = some b ∧ F a b := by
  have e := h.length
  have h1 : l₁[i]? = some l₁[i] := List.getElem?_eq_getElem (by omega)
  have h2 : l₂[i]? = some l₂[i] := List.getElem?_eq_getElem hi
  exact ⟨_, _, h1, h2, paired_at h i _ _ h1 h2⟩
theorem itOk_list {K : PySem.W.Frag} {S : Fz} {a : Addr} {vs : List V} {xs : List D} (h : S a = some (.lst vs)) (r : DenL G K S vs xs) : ItOk G K S (Itl K a) xs where
  go := fun k i S2 H m l hj hi => by
    obtain ⟨x, d, e1, _, _⟩ := paired_some r hi
    exact ⟨vs, x, .of (l _ _ (m.ot _ _ rfl rfl h)), e1⟩
  stop := fun k S2 H m l hj => ⟨vs, .of (l _ _ (m.ot _ _ rfl rfl h)), Nat.le_of_eq r.length⟩
  yld := fun O k i B S2 H σ ρ x H' m I hi y => by
    obtain ⟨rfl, y⟩ := y
    obtain ⟨x', d, e1, e2, e3⟩ := paired_some r hi
    have := y vs (.of (I.le _ _ (m.ot _ _ rfl rfl h)))
    rw [e1] at this; cases this
    exact ⟨S2, d, e2, I, Sub.refl _, e3.mono m⟩
theorem itOk_tup {K : PySem.W.Frag} {S : Fz} {a : Addr} {vs : List V} {xs : List D} (h : S a = some (.tup vs)) (r : DenL G K S vs xs) : ItOk G K S (Itt K a) xs where
  go := fun k i S2 H m l hj hi => by
    obtain ⟨x, d, e1, _, _⟩ := paired_some r hi
    exact ⟨vs, x, SqT.of (l _ _ (m.ot _ _ rfl rfl h)), e1⟩
  stop := fun k S2 H m l hj => ⟨vs, SqT.of (l _ _ (m.ot _ _ rfl rfl h)), Nat.le_of_eq r.length⟩
  yld := fun O k i B S2 H σ ρ x H' m I hi y => by
    obtain ⟨rfl, y⟩ := y
    obtain ⟨x', d, e1, e2, e3⟩ := paired_some r hi
    have := y vs (SqT.of (I.le _ _ (m.ot _ _ rfl rfl h)))
    rw [e1] at this; cases this
    exact ⟨S2, d, e2, I, Sub.refl _, e3.mono m⟩
theorem itOk_str {K : PySem.W.Frag} {S : Fz} {z : Str} : ItOk G K S (Its z) (strD z) where
  go := fun k i S2 H m l hj hi => by
    show i < z.cps.size
    simpa [strD] using hi
  stop := fun k S2 H m l hj => by
    show z.cps.size ≤ (strD z).length
    simp [strD]
  yld := fun O k i B S2 H σ ρ x H' m I hi y => by
    obtain ⟨rfl, c, e, rfl⟩ := y
    refine ⟨S2, .str ⟨#[c]⟩, ?_, I, Sub.refl _, .str _⟩
    simp [strD, e]
theorem itOk_wls {K : PySem.W.Frag} {S : Fz} {a : Addr} {vs : List V} {xs : List D} (h : (∃ o, S a = some (.frz o (.lst vs))) ∨ ∀ H, SqL K H a vs) (r : DenL G K S vs xs) : ItOk G K S (Itl K a) xs := by
  have up : ∀ (k : Nat) (S2 : Fz) (H : Hp), Sub k S S2 → (∀ a o, S2 a = some o → H a = some o) → SqL K H a vs := fun k S2 H m l => by
    rcases h with ⟨o, h⟩ | h
    · exact .inl (.inr ⟨o, l _ _ (m.ot _ _ rfl rfl h)⟩)
    · exact h H
  refine ⟨fun k i S2 H m l hj hi => ?_, fun k S2 H m l hj => ⟨vs, up k S2 H m l, Nat.le_of_eq r.length⟩, fun O k i B S2 H σ ρ x H' m I hi y => ?_⟩
  · obtain ⟨x, d, e1, _, _⟩ := paired_some r hi
    exact ⟨vs, x, up k S2 H m l, e1⟩
  · obtain ⟨rfl, y⟩ := y
    obtain ⟨x', d, e1, e2, e3⟩ := paired_some r hi
    have := y vs (up k S2 _ m I.le)
    rw [e1] at this; cases this
    exact ⟨S2, d, e2, I, Sub.refl _, e3.mono m⟩
theorem itOk_wtp {K : PySem.W.Frag} {S : Fz} {a : Addr} {vs : List V} {xs : List D} (h : ∀ H, SqT K H a vs) (r : DenL G K S vs xs) : ItOk G K S (Itt K a) xs := by
  refine ⟨fun k i S2 H m l hj hi => ?_, fun k S2 H m l hj => ⟨vs, h H, Nat.le_of_eq r.length⟩, fun O k i B S2 H σ ρ x H' m I hi y => ?_⟩
  · obtain ⟨x, d, e1, _, _⟩ := paired_some r hi
    exact ⟨vs, x, h H, e1⟩
  · obtain ⟨rfl, y⟩ := y
    obtain ⟨x', d, e1, e2, e3⟩ := paired_some r hi
    have := y vs (h _)
    rw [e1] at this; cases this
    exact ⟨S2, d, e2, I, Sub.refl _, e3.mono m⟩
theorem i_any {tg : Expr} (h : PDe G X O e .st c n f) : PDi G X O tg e n (fun ρ Kc => f ρ fun ρ' d => itOf d (Kc ρ')) := by
  obtain ⟨t1, p1, q1⟩ := h.run
  refine ⟨_, pi_any p1, fun B S H σ ρ Kc R I hb hf hq => ?_⟩
  refine q1 B S H σ ρ _ _ I (by omega) hf fun v H1 S1 ρ1 d I1 m1 c1 r1 h1 => ?_
  cases d with
  | lst ds =>
    obtain ⟨a, vs, e1, e2, e3⟩ := Den.lst_inv r1
    exact .inl ⟨a, e1, ⟨vs, .of (I1.le _ _ e2)⟩, hq _ H1 S1 ρ1 ds I1 m1 (itOk_list e2 e3) h1⟩
  | tup ds =>
    obtain ⟨a, vs, e1, e2, e3⟩ := Den.tup_inv r1
    exact .inr (.inl ⟨a, e1, ⟨vs, SqT.of (I1.le _ _ e2)⟩, hq _ H1 S1 ρ1 ds I1 m1 (itOk_tup e2 e3) h1⟩)
  | str z => exact .inr (.inr ⟨z, Den.str_inv r1, hq _ H1 S1 ρ1 _ I1 m1 itOk_str h1⟩)
  | wls ds =>
    obtain ⟨a, vs, e1, e0, e2, e3⟩ := Den.wls_inv r1
    exact .inl ⟨a, e1, ⟨vs, e0 _ I1.le⟩, hq _ H1 S1 ρ1 ds I1 m1 (itOk_wls e2 e3) h1⟩
  | wtp ds =>
    cases r1 with
    | wtp e2 l r => exact .inr (.inl ⟨_, rfl, ⟨_, e2 _⟩, hq _ H1 S1 ρ1 ds I1 m1 (itOk_wtp e2 (paired_of l r)) h1⟩)
  | _ => exact h1.elim
/-- range(n) -/
def rngD (lo : Int) (n : Nat) : List D := (List.range n).map fun i : Nat => D.int (lo + (i : Int))
theorem itOk_rng {K : PySem.W.Frag} {S : Fz} {lo : Int} {n : Nat} : ItOk G K S (Itr lo n) (rngD lo n) where
  go := fun k i S2 H m l hj hi => by
    show i < n
    simpa [rngD] using hi
  stop := fun k S2 H m l hj => by
    show n ≤ (rngD lo n).length
    simp [rngD]
  yld := fun O k i B S2 H σ ρ x H' m I hi y => by
    obtain ⟨rfl, rfl⟩ := y
    have hi' : i < n := by simpa [rngD] using hi
    refine ⟨S2, .int (lo + (i : Int)), ?_, I, Sub.refl _, .int _⟩
    simp [rngD, hi']
def int1 (ds : List D) (P : Int → Prop) : Prop := match ds with
  | [.int i] => P i
  | _ => False
def int2 (ds : List D) (P : Int → Int → Prop) : Prop := match ds with
  | [.int i, .int j] => P i j
  | _ => False
theorem int1_inv {ds : List D} {P : Int → Prop} (h : int1 ds P) : ∃ i, ds = [.int i] ∧ P i := by
  unfold int1 at h
  split at h
  · exact ⟨_, rfl, h⟩
  · exact h.elim
theorem int2_inv {ds : List D} {P : Int → Int → Prop} (h : int2 ds P) : ∃ i j, ds = [.int i, .int j] ∧ P i j := by
  unfold int2 at h
  split at h
  · exact ⟨_, _, rfl, h⟩
  · exact h.elim
def fRng1 (fa : FA) : FI := fun ρ Kc => fa ρ fun ρ' ds => int1 ds fun j => (-(2 ^ 62) ≤ j ∧ j < 2 ^ 62) ∧ Kc ρ' (rngD 0 j.toNat)
def fRng2 (fa : FA) : FI := fun ρ Kc => fa ρ fun ρ' ds => int2 ds fun i j => (-(2 ^ 62) ≤ i ∧ i < 2 ^ 62 ∧ -(2 ^ 62) ≤ j ∧ j < 2 ^ 62) ∧ Kc ρ' (rngD i (j - i).toNat)
theorem i_rng1 {tg a : Expr} {fa : FA} {p : Pos} (ha : PDa G X O [a] c n fa) (hm : X.mg "range" = none) (hg : Gl X "range" := by rfl) (hs : starEach [a] X.env = [(false, eval a X.env)] := by rfl) : PDi G X O tg (.Call (.Name "range" p) [a] [] pos) n (fRng1 fa) := by
  obtain ⟨t1, p1, q1⟩ := ha.run
  refine ⟨_, pi_range1 hg hm p1 hs, fun B S H σ ρ Kc R I hb hf hq => ?_⟩
  refine q1 B S H σ ρ _ _ I (by omega) hf fun vs H1 S1 ρ1 ds I1 m1 c1 r1 h1 => ?_
  obtain ⟨j, rfl, ⟨b1, b2⟩, h2⟩ := int1_inv h1
  cases r1 with
  | cons r r' =>
    cases r'
    obtain rfl := r.int_inv
    exact ⟨j, rfl, b1, b2, hq _ H1 S1 ρ1 _ I1 m1 itOk_rng h2⟩
theorem i_rng2 {tg a b : Expr} {fa : FA} {p : Pos} (ha : PDa G X O [a, b] c n fa) (hm : X.mg "range" = none) (hg : Gl X "range" := by rfl) (hs : starEach [a, b] X.env = [(false, eval a X.env), (false, eval b X.env)] := by rfl) (hs2 : starEach [b] X.env = [(false, eval b X.env)] := by rfl) :
    PDi G X O tg (.Call (.Name "range" p) [a, b] [] pos) n (fRng2 fa) := by
  obtain ⟨t1, p1, q1⟩ := ha.run
  refine ⟨_, pi_range2 hg hm p1 hs hs2, fun B S H σ ρ Kc R I hb hf hq => ?_⟩
  refine q1 B S H σ ρ _ _ I (by omega) hf fun vs H1 S1 ρ1 ds I1 m1 c1 r1 h1 => ?_
  obtain ⟨i, j, rfl, b, h2⟩ := int2_inv h1
  cases r1 with
  | cons r r' =>
    cases r' with
    | cons r2 r'' =>
      cases r''
      obtain rfl := r.int_inv
      obtain rfl := r2.int_inv
      exact ⟨i, j, rfl, b, hq _ H1 S1 ρ1 _ I1 m1 itOk_rng h2⟩

/-! ### for -/
def forL (h : FG) (gb : FS) (Ed : EndsD) : List D → EnvD → Prop
  | [], ρ => Ed.nx ρ
  | x :: r, ρ => h x ρ fun ρ1 => gb { nx := forL h gb Ed r, ct := forL h gb Ed r, bk := Ed.nx, rt := Ed.rt } ρ1
def fFor (fi : FI) (h : FG) (gb : FS) : FS := fun Ed ρ => fi ρ fun ρ1 xs => forL h gb Ed xs ρ1
/-- the loop's reading: c rounds at most, or rounds that do not draw -/
def fForN (cap : Nat) (fi : FI) (h : FG) (gb : FS) : FS := fun Ed ρ => fi ρ fun ρ1 xs => xs.length ≤ cap ∧ forL h gb Ed xs ρ1
theorem s_forR (cap : Nat) (R : List D → Prop → Prop) (hR : ∀ xs P, R xs P → (n2 = 0 ∨ xs.length ≤ cap) ∧ P) {tg iter : Expr} {body : List Stmt} {fi : FI} {h : FG} {sl : List Nat} (hp : PassesOwn (model X.prog X.w) X.A X.env X.xe) (hc : X.calm = true) (hi : PDi G X O tg iter n1 fi) (hg : PDg G X O tg sl h) (hb : PDb G X O rk body n2 g) (hfs : ∀ x, foldedSetIterable iter X.env x = pure x := by intro _; rfl) :
    PDs G X O rk (.For tg iter body [] pos) (n1 + cap * n2) (fun Ed ρ => fi ρ fun ρ1 xs => R xs (forL h g Ed xs ρ1)) := by
  obtain ⟨wi, pi, qi⟩ := hi.run
  obtain ⟨tg', pg, qg⟩ := hg.run
  obtain ⟨tb, pb, qb⟩ := hb.run
  refine ⟨_, ps_for hp hc pi pg pb (hs := hfs), fun B S H σ ρ Ed D I hb hf E => ?_⟩
  refine qi B S H σ ρ _ _ I (by omega) hf fun J H1 S1 ρ1 xs I1 m1 J1 h1 => ?_
  obtain ⟨hcap, h1⟩ := hR _ _ h1
  have E1 := E.mono m1
  have tot : xs.length * n2 ≤ cap * n2 := by
    rcases hcap with e | e
    · rw [e]; exact Nat.le_refl _
    · exact Nat.mul_le_mul_right _ e
  refine ⟨fun i m σ' H' => ∃ S' ρ', Eok G X.K O B S' H' σ' ρ' ∧ Sub (i * n2) S1 S' ∧ i ≤ xs.length ∧ m = xs.length - i ∧ forL h g Ed (xs.drop i) ρ', ⟨_, S1, ρ1, I1, Sub.refl _, Nat.zero_le _, rfl, h1⟩, ?_⟩
  rintro i m σ' H' ⟨S', ρ', I', m', hi, rfl, hl⟩
  have ti : i * n2 ≤ cap * n2 := Nat.le_trans (Nat.mul_le_mul_right _ hi) tot
  by_cases hlt : i < xs.length
  · have ts : i * n2 + n2 ≤ cap * n2 := by
      rw [← Nat.succ_mul]; exact Nat.le_trans (Nat.mul_le_mul_right _ hlt) tot
    refine .inr ⟨J1.go _ i S' H' m' I'.le I'.j hlt, fun σ2 H2 => ∃ S2 ρ2, Eok G X.K O B S2 H2 σ2 ρ2 ∧ Sub ((i + 1) * n2) S1 S2 ∧ forL h g Ed (xs.drop (i + 1)) ρ2, fun σ2 H2 ⟨S2, ρ2, I2, m2, h2⟩ => ⟨_, by omega, S2, ρ2, I2, m2, hlt, rfl, h2⟩, fun x H2 y => ?_⟩
    obtain ⟨S3, d, e1, I3, m3, dn⟩ := J1.yld O _ i B S' H' σ' ρ' x H2 m' I' hlt y
    have ed : xs.drop i = d :: xs.drop (i + 1) := by
      rw [List.drop_eq_getElem_cons hlt]
      rw [List.getElem?_eq_getElem hlt] at e1
      cases e1; rfl
    rw [ed] at hl
    refine qg B S3 H2 σ' ρ' x d _ _ I3 dn hl fun σ4 ρ4 I4 _ h4 => ?_
    have m4 := m'.t0 m3
    have m5 : ∀ {S5 : Fz}, Sub n2 S3 S5 → Sub ((i + 1) * n2) S1 S5 := fun z => (m4.trans z).up (by rw [Nat.succ_mul]; exact Nat.le_refl _)
    have m6 : ∀ {S5 : Fz}, Sub n2 S3 S5 → Sub (cap * n2) S1 S5 := fun z => (m4.trans z).up ts
    exact qb B S3 H2 σ4 ρ4 _ _ I4 (by have := m1.lo; have := m'.lo; have := m3.lo; omega) h4 ⟨fun σ5 H5 S5 ρ5 I5 z h5 => ⟨S5, ρ5, I5, m5 z, h5⟩, fun v H5 S5 d I5 z r hr => E1.rt _ _ _ _ I5 (m6 z) r hr, fun σ5 H5 S5 ρ5 I5 z hb => E1.nx _ _ _ _ I5 (m6 z) hb, fun σ5 H5 S5 ρ5 I5 z h5 => ⟨S5, ρ5, I5, m5 z, h5⟩⟩
  · have e : i = xs.length := by omega
    subst e
    rw [List.drop_length] at hl
    exact .inl ⟨J1.stop _ S' H' m' I'.le I'.j, E1.nx _ _ _ _ I' (m'.up tot) hl⟩
theorem s_forN (cap : Nat) {tg iter : Expr} {body : List Stmt} {fi : FI} {h : FG} {sl : List Nat} (hp : PassesOwn (model X.prog X.w) X.A X.env X.xe) (hc : X.calm = true) (hi : PDi G X O tg iter n1 fi) (hg : PDg G X O tg sl h) (hb : PDb G X O rk body n2 g) (hfs : ∀ x, foldedSetIterable iter X.env x = pure x := by intro _; rfl) :
    PDs G X O rk (.For tg iter body [] pos) (n1 + cap * n2) (fForN cap fi h g) := s_forR cap (fun xs P => xs.length ≤ cap ∧ P) (fun _ _ h => ⟨.inr h.1, h.2⟩) hp hc hi hg hb hfs
/-- rounds that do not draw -/
theorem s_for {tg iter : Expr} {body : List Stmt} {fi : FI} {h : FG} {sl : List Nat} (hp : PassesOwn (model X.prog X.w) X.A X.env X.xe) (hc : X.calm = true) (hi : PDi G X O tg iter n1 fi) (hg : PDg G X O tg sl h) (hb : PDb G X O rk body 0 g) (hfs : ∀ x, foldedSetIterable iter X.env x = pure x := by intro _; rfl) :
    PDs G X O rk (.For tg iter body [] pos) (n1 + 0 * 0) (fFor fi h g) := s_forR 0 (fun xs P => P) (fun _ _ h => ⟨.inl rfl, h⟩) hp hc hi hg hb hfs
end
end WL

/-! WE: list comprehensions over data. -/
namespace WL
open PySem PySem.Spec PyProof.Rows L2
/-- nothing is let out -/
def XO.none (O : XO) : XO := { W := O.W, xd := fun _ => False, keep := fun _ => false, t0 := 0 }
section
variable {G : Glob} {K : PySem.W.Frag} {O : XO} {B : Bs} {S S' : Fz} {H H' : Hp} {σ : L2.St} {ρ : EnvD}
theorem Eok.calm {O' : XO} (I : Eok G K O B S H σ ρ) (h : ∀ x, ¬ O'.xd x) : Eok G K O' B S H σ ρ :=
  ⟨I.toSta, .inr h, fun _ cls dx S' H' σ' x _ _ _ _ _ z => absurd z (h x), I.im, I.ow, I.ap, I.tm, I.ta, I.tt, I.len, I.sf⟩
/-- another wish about exceptions -/
theorem Eok.wish {O' : XO} (I : Eok G K O B S H σ ρ) (ht : S.T ≤ O'.t0 ∨ ∀ x, ¬ O'.xd x) (h : ∀ n cls dx S' H' σ' x, Sta G K B S' H' → S'.T ≤ O'.t0 → Sub n S S' → (∀ i, O'.keep i = true → σ'[i]? = σ[i]?) → DX G K S' H' cls dx x → O'.xd x → O'.W cls dx σ' H') : Eok G K O' B S H σ ρ :=
  ⟨I.toSta, ht, h, I.im, I.ow, I.ap, I.tm, I.ta, I.tt, I.len, I.sf⟩
def wipeD (ρ : EnvD) : List Nat → EnvD
  | [] => ρ
  | v :: vs => (wipeD ρ vs).set v Option.none
theorem wipeD_length (ρ : EnvD) : ∀ vs : List Nat, (wipeD ρ vs).length = ρ.length
  | [] => rfl
  | v :: vs => by unfold wipeD; rw [List.length_set, wipeD_length ρ vs]
theorem wipe_at (σ : L2.St) (i : Nat) : ∀ vs : List Nat, (wipe σ vs)[i]? = if i ∈ vs then (if i < σ.length then some Option.none else Option.none) else σ[i]?
  | [] => by simp [wipe]
  | v :: vs => by
    unfold wipe
    rw [get_set, wipe_length, wipe_at σ i vs]
    by_cases e : v = i
    · subst e; simp
    · simp [e, Ne.symm e]
theorem wipeD_at (ρ : EnvD) (i : Nat) : ∀ vs : List Nat, (wipeD ρ vs)[i]? = if i ∈ vs then (if i < ρ.length then some Option.none else Option.none) else ρ[i]?
  | [] => by simp [wipeD]
  | v :: vs => by
    unfold wipeD
    rw [get_set, wipeD_length, wipeD_at ρ i vs]
    by_cases e : v = i
    · subst e; simp
    · simp [e, Ne.symm e]
theorem Off.wipe {vs : List Nat} {σ σ' : L2.St} {ρ ρ' : EnvD} (h : Off vs σ σ' ρ ρ') : L2.wipe σ' vs = L2.wipe σ vs := by
  apply List.ext_getElem?
  intro i
  rw [wipe_at, wipe_at, h.1]
  by_cases e : i ∈ vs
  · rw [if_pos e, if_pos e]
  · rw [if_neg e, if_neg e, (h.2 i e).1]
theorem Off.wipeD {vs : List Nat} {σ σ' : L2.St} {ρ ρ' : EnvD} (h : Off vs σ σ' ρ ρ') (hl : ρ'.length = ρ.length) : wipeD ρ' vs = wipeD ρ vs := by
  apply List.ext_getElem?
  intro i
  rw [wipeD_at, wipeD_at, hl]
  by_cases e : i ∈ vs
  · rw [if_pos e, if_pos e]
  · rw [if_neg e, if_neg e, (h.2 i e).2]
theorem wipe_wipe (σ : L2.St) (vs : List Nat) : wipe (wipe σ vs) vs = wipe σ vs := by
  apply List.ext_getElem?
  intro i
  rw [wipe_at, wipe_length]
  by_cases e : i ∈ vs
  · rw [if_pos e, wipe_at, if_pos e]
  · rw [if_neg e]
theorem wipeD_wipe (σ : EnvD) (vs : List Nat) : wipeD (wipeD σ vs) vs = wipeD σ vs := by
  apply List.ext_getElem?
  intro i
  rw [wipeD_at, wipeD_length]
  by_cases e : i ∈ vs
  · rw [if_pos e, wipeD_at, if_pos e]
  · rw [if_neg e]
/-- slots are forgotten on both sides -/
theorem Eok.wipe (I : Eok G K O B S H σ ρ) (vs : List Nat) (hk : ∀ i, O.keep i = false) : Eok G K O B S H (L2.wipe σ vs) (wipeD ρ vs) := by
  have ei : ∀ (i : Nat) (s : Slot), (wipeD ρ vs)[i]? = some (some s) → (L2.wipe σ vs)[i]? = σ[i]? ∧ ρ[i]? = some (some s) := fun i s h => by
    rw [wipeD_at] at h
    by_cases e : i ∈ vs
    · rw [if_pos e] at h; split at h <;> simp at h
    · rw [if_neg e] at h; rw [wipe_at, if_neg e]; exact ⟨rfl, h⟩
  have ow : ∀ i a o, Owns (L2.wipe σ vs) (wipeD ρ vs) i a o → Owns σ ρ i a o := fun i a o h => by
    obtain ⟨e1, e2⟩ := ei i _ h.1
    exact ⟨e2, by rw [← e1]; exact h.2⟩
  refine ⟨I.toSta, I.tz, fun n2 cls dx S2 H2 σ2 x t2 l2 m2 k2 d2 => I.xr n2 cls dx S2 H2 σ2 x t2 l2 m2 (fun i z => by rw [hk i] at z; cases z) d2, fun i d h => ?_, fun i o h => ?_, fun i j a o o' h1 h2 => I.ap i j a o o' (ow _ _ _ h1) (ow _ _ _ h2), I.tm, fun i j a o o' h1 h2 => I.ta i j a o o' (ow _ _ _ h1) h2, I.tt, by rw [wipe_length, wipeD_length]; exact I.len, fun i c fs h => by
    obtain ⟨e1, e2⟩ := ei i _ h
    rw [e1]; exact I.sf i c fs e2⟩
  · obtain ⟨e1, e2⟩ := ei i _ h
    rw [e1]; exact I.im i d e2
  · obtain ⟨e1, e2⟩ := ei i _ h
    rw [e1]; exact I.ow i o e2
/-- no container of one's own in these slots -/
def noOwn (ρ : EnvD) (vs : List Nat) : Prop := ∀ i ∈ vs, ∀ o, ρ[i]? ≠ some (some (Slot.own o))
/-- .. and remembered again -/
theorem Eok.unwipe {O' : XO} {vs : List Nat} {B' : Bs} {S0 : Fz} {H0 : Hp} {n : Nat} (I0 : Eok G K O B S0 H0 σ ρ) (I : Eok G K O' B S H (L2.wipe σ vs) (wipeD ρ vs)) (m : Sub n S0 S) (hx : n = 0 ∨ ∀ x, ¬ O.xd x) (hn : noOwn ρ vs) : Eok G K O B S H σ ρ := by
  have eo : ∀ (i : Nat) (o : Own), ρ[i]? = some (some (.own o)) → (L2.wipe σ vs)[i]? = σ[i]? ∧ (wipeD ρ vs)[i]? = some (some (.own o)) := fun i o h => by
    have e : i ∉ vs := fun z => hn i z o h
    rw [wipe_at, wipeD_at, if_neg e, if_neg e]; exact ⟨rfl, h⟩
  have ow : ∀ i a o, Owns σ ρ i a o → Owns (L2.wipe σ vs) (wipeD ρ vs) i a o := fun i a o h => by
    obtain ⟨e1, e2⟩ := eo i o h.1
    exact ⟨e2, by rw [e1]; exact h.2⟩
  refine ⟨I.toSta, ?_, fun n2 cls dx S2 H2 σ2 x t2 l2 m2 k2 d2 => I0.xr _ cls dx S2 H2 σ2 x t2 l2 (m.trans m2) k2 d2, fun i d h => ?_, fun i o h => ?_, fun i j a o o' h1 h2 => I.ap i j a o o' (ow _ _ _ h1) (ow _ _ _ h2), I.tm, fun i j a o o' h1 h2 => I.ta i j a o o' (ow _ _ _ h1) h2, I.tt, I0.len, fun i c fs h => by
    obtain ⟨e1, e2⟩ := eo i _ h
    rw [← e1]; exact I.sf i c fs e2⟩
  · rcases hx with e | e
    · rcases I0.tz with z | z
      · exact .inl (by have := m.lo; omega)
      · exact .inr z
    · exact .inr e
  · obtain ⟨v, e1, e2⟩ := I0.im i d h
    exact ⟨v, e1, e2.mono m⟩
  · obtain ⟨e1, e2⟩ := eo i o h
    rw [← e1]; exact I.ow i o e2
/-- a container held aside -/
abbrev Bs.aside (B : Bs) (a : Addr) (o : Own) : Bs := { B with tmp := (a, o) :: B.tmp }
theorem Sta.tmp {t : List (Addr × Own)} (I : Sta G K B S H) : Sta G K { B with tmp := t } S H := ⟨I.le, I.sm, I.j, I.dom, I.sn, I.kept⟩
theorem Sta.untmp {t : List (Addr × Own)} (I : Sta G K { B with tmp := t } S H) : Sta G K B S H := ⟨I.le, I.sm, I.j, I.dom, I.sn, I.kept⟩
theorem Own1.tmp {t : List (Addr × Own)} {a : Addr} {o : Own} (h : Own1 G K B S H a o) : Own1 G K { B with tmp := t } S H a o := ⟨h.s, h.m, h.h0, h.at_⟩
theorem Own1.untmp {t : List (Addr × Own)} {a : Addr} {o : Own} (h : Own1 G K { B with tmp := t } S H a o) : Own1 G K B S H a o := ⟨h.s, h.m, h.h0, h.at_⟩
theorem Eok.aside {a : Addr} {o : Own} (I : Eok G K O B S H σ ρ) (h : Own1 G K B S H a o) (n : Nob B σ ρ a) : Eok G K O (B.aside a o) S H σ ρ := by
  refine ⟨I.toSta.tmp, I.tz, fun n2 cls dx S2 H2 σ2 x t2 l2 m2 k2 d2 => I.xr n2 cls dx S2 H2 σ2 x t2.untmp l2 m2 k2 d2, I.im, fun i o e => ?_, I.ap, fun j b o' e => ?_, fun i j b o1 o2 w e => ?_, fun i j b o1 o2 e1 e2 => ?_, I.len, I.sf⟩
  · obtain ⟨b, e1, e2⟩ := I.ow i o e; exact ⟨b, e1, e2.tmp⟩
  · cases j with
    | zero => simp at e; obtain ⟨rfl, rfl⟩ := e; exact h.tmp
    | succ j => exact (I.tm j b o' (by simpa using e)).tmp
  · cases j with
    | zero => simp at e; obtain ⟨rfl, rfl⟩ := e; exact n.no i o1 w
    | succ j => exact I.ta i j b o1 o2 w (by simpa using e)
  · cases i <;> cases j
    · rfl
    · simp at e1 e2; obtain ⟨rfl, rfl⟩ := e1; exact (n.nt _ _ e2).elim
    · simp at e1 e2; obtain ⟨rfl, rfl⟩ := e2; exact (n.nt _ _ e1).elim
    · rename_i i j; exact congrArg (· + 1) (I.tt i j b o1 o2 (by simpa using e1) (by simpa using e2))
theorem Eok.back {a : Addr} {o : Own} (I : Eok G K O (B.aside a o) S H σ ρ) : Eok G K O B S H σ ρ ∧ Own1 G K B S H a o ∧ Nob B σ ρ a := by
  refine ⟨⟨I.toSta.untmp, I.tz, fun n2 cls dx S2 H2 σ2 x t2 l2 m2 k2 d2 => I.xr n2 cls dx S2 H2 σ2 x t2.tmp l2 m2 k2 d2, I.im, fun i o e => ?_, I.ap, fun j b o' e => (I.tm (j + 1) b o' (by simpa using e)).untmp, fun i j b o1 o2 w e => I.ta i (j + 1) b o1 o2 w (by simpa using e), fun i j b o1 o2 e1 e2 => ?_, I.len, I.sf⟩, (I.tm 0 a o rfl).untmp, fun i o' w => I.ta i 0 a o' o w rfl, fun j o' e => ?_⟩
  · obtain ⟨b, e1, e2⟩ := I.ow i o e; exact ⟨b, e1, e2.untmp⟩
  · have := I.tt (i + 1) (j + 1) b o1 o2 (by simpa using e1) (by simpa using e2)
    omega
  · have := I.tt 0 (j + 1) a o o' rfl (by simpa using e)
    omega
/-- what is at a nobody's place is changed -/
theorem Sta.chg {a : Addr} {u : HO} (I : Sta G K B S H) (hs : S a = none) (hm : ¬ G.M a) (h0 : B.H0 a = none) (hx : ∀ p, H a ≠ some (.ext p)) : Sta G K B S (upd H a u) := by
  refine ⟨fun b o e => ?_, I.sm, ?_, fun b e => ?_, I.sn, fun b o e m n => ?_⟩
  · rw [upd_ne (ne_of_none e hs)]; exact I.le b o e
  · refine G.jlaw S.T H _ I.j fun b o e z => ?_
    have hb : b ≠ a := by
      rintro rfl
      rcases z with z | ⟨p, rfl⟩
      · exact hm z
      · exact hx p e
    rw [upd_ne hb]; exact e
  · by_cases hb : b = a
    · rw [hb, upd_same]; exact fun z => nomatch z
    · rw [upd_ne hb]; exact I.dom b e
  · rw [upd_ne (ne_of_none e h0)]; exact I.kept b o e m n
theorem Own1.chg {a : Addr} {o o' : Own} {u : HO} (h : Own1 G K B S H a o) (I : Sta G K B S H) (w : OwnAt G K S (upd H a u) a o') : Sta G K B S (upd H a u) ∧ Own1 G K B S (upd H a u) a o' := by
  obtain ⟨x, hx, _, _, he, _⟩ := h.at_.there
  exact ⟨I.chg h.s h.m h.h0 fun p z => by rw [hx] at z; cases z; exact he p rfl, h.s, h.m, h.h0, w⟩
/-- the container aside is changed -/
theorem Eok.chgAside {a : Addr} {o o' : Own} {u : HO} (I : Eok G K O (B.aside a o) S H σ ρ) (w : OwnAt G K S (upd H a u) a o') : Eok G K O (B.aside a o') S (upd H a u) σ ρ := by
  obtain ⟨I1, h, n⟩ := I.back
  obtain ⟨t, h'⟩ := h.chg I1.toSta w
  exact (I1.step t rfl (Sub.refl _) n (fun _ _ => rfl) (fun b hb => upd_ne hb)).aside h' n
end

/-! ### the canonical readings of the parts -/
section
variable {G : Glob} {X : Cx} {O : XO} {e : Expr} {k : Kd} {c : Bool} {n ni nt ne : Nat} {f : FE} {g : FT} {h : FG} {tg : Expr} {sl : List Nat}
def tCan (G : Glob) (K : PySem.W.Frag) (O : XO) (k : Kd) (c : Bool) (n : Nat) (f : FE) : TE := fun σ H Q => ∃ (B : Bs) (S : Fz) (ρ : EnvD) (Kc : EnvD → D → Prop), Eok G K O B S H σ ρ ∧ S.T + n ≤ limT ∧ f ρ Kc ∧
  ∀ v H' S' ρ' d, Eok G K O B S' H' σ ρ' → Sub n S S' → (c = true → ρ' = ρ) → ROk G K B S' H' σ ρ' v d k → Kc ρ' d → Q v H'
theorem PDe.can (p : PDe G X O e k c n f) : PE X e (tCan G X.K O k c n f) := by
  obtain ⟨t, pt, q⟩ := p.run
  exact ⟨fun pins s σ H Q I ⟨B, S, ρ, Kc, I', hb, hf, hq⟩ => pt.run pins s σ H Q I (q B S H σ ρ Kc Q I' hb hf hq)⟩
def ttCan (G : Glob) (K : PySem.W.Frag) (O : XO) (c : Bool) (n : Nat) (f : FT) : TT := fun σ H Q => ∃ (B : Bs) (S : Fz) (ρ : EnvD) (Kc : EnvD → Bool → Prop), Eok G K O B S H σ ρ ∧ S.T + n ≤ limT ∧ f ρ Kc ∧
  ∀ b H' S' ρ', Eok G K O B S' H' σ ρ' → Sub n S S' → (c = true → ρ' = ρ) → Kc ρ' b → Q b H'
theorem PDt.can (p : PDt G X O e c n g) : PT X e (ttCan G X.K O c n g) := by
  obtain ⟨t, pt, q⟩ := p.run
  exact ⟨fun pins s σ H Q I ⟨B, S, ρ, Kc, I', hb, hf, hq⟩ => pt.run pins s σ H Q I (q B S H σ ρ Kc Q I' hb hf hq)⟩
def tgCan (G : Glob) (K : PySem.W.Frag) (O : XO) (sl : List Nat) (h : FG) : TG := fun v σ H Q => ∃ (B : Bs) (S : Fz) (ρ : EnvD) (d : D) (Kc : EnvD → Prop), Eok G K O B S H σ ρ ∧ Den G K S v d ∧ h d ρ Kc ∧
  ∀ σ' ρ', Eok G K O B S H σ' ρ' → Off sl σ σ' ρ ρ' → Kc ρ' → Q σ' H
theorem PDg.can (p : PDg G X O tg sl h) : PG X tg (tgCan G X.K O sl h) := by
  obtain ⟨t, pt, q⟩ := p.run
  exact ⟨fun pins s σ H v u Q I r ⟨B, S, ρ, d, Kc, I', dn, hf, hq⟩ => pt.run pins s σ H v u Q I r (q B S H σ ρ v d Kc Q I' dn hf hq)⟩
/-- the tests of a comprehension -/
structure PDts (G : Glob) (X : Cx) (O : XO) (ifs : List Expr) (c : Bool) (n : Nat) (f : FT) : Prop where
  run : PTs X ifs (ttCan G X.K O c n f)
def fYes : FT := fun ρ Kc => Kc ρ true
theorem ts_nil : PDts G X O [] true 0 fYes := ⟨⟨fun pins s σ H Q I ⟨B, S, ρ, Kc, I', hb, hf, hq⟩ => pts_nil.run pins s σ H Q I (hq _ H S ρ I' (Sub.refl _) (fun _ => rfl) hf)⟩⟩
theorem ts_one (p : PDt G X O e c n g) : PDts G X O [e] c n g := ⟨pts_one p.can⟩

/-! ### [e for x in xs if t] -/
def lcL (h : FG) (ft : FT) (fe : FE) (P : List D → Prop) : List D → List D → EnvD → Prop
  | [], acc, _ => P acc
  | x :: r, acc, ρ => h x ρ fun ρ1 => ft ρ1 fun ρ2 b => if b = true then fe ρ2 fun _ y => lcL h ft fe P r (acc ++ [y]) ρ else lcL h ft fe P r acc ρ
def fLc (fi : FI) (h : FG) (ft : FT) (fe : FE) (vs : List Nat) : FE := fun ρ Kc => fi ρ fun ρ1 xs => noOwn ρ1 vs ∧ xs.length ≤ sizeLine ∧ lcL h ft fe (fun ys => Kc ρ1 (.lst ys)) xs [] (wipeD ρ1 vs)
theorem lcL_len {h : FG} {ft : FT} {fe : FE} {P : List D → Prop} : True := trivial

theorem lc_read {K : PySem.W.Frag} {B : Bs} {S : Fz} {H : Hp} {σ : L2.St} {ρ : EnvD} {J : It} {xs : List D} {ft : FT} {fe : FE} {Kc : D → Prop} {Q : VK}
    (I : Eok G K O B S H σ ρ) (hb : S.T + sizeLine * (nt + ne) ≤ limT) (J1 : ItOk G K S J xs) (hn : noOwn ρ sl) (hz : xs.length ≤ sizeLine) (hl : lcL h ft fe (fun ys => Kc (.lst ys)) xs [] (wipeD ρ sl))
    (hx : sizeLine * (nt + ne) = 0 ∨ ∀ x, ¬ O.xd x) (hq : ∀ v H' S' d, Eok G K O B S' H' σ ρ → Sub (sizeLine * (nt + ne)) S S' → ROk G K B S' H' σ ρ v d .fr → Kc d → Q v H') :
    ∀ Dd, H Dd = none → ∃ W : Nat → Nat → Hp → Prop, (∃ m, W 0 m (upd H Dd (.lst []))) ∧ ∀ i m H, W i m H →
      (J.stop i H ∧ Q (.ref Dd) H) ∨ (J.go i H ∧ ∃ Nx : Hp → Prop, (∀ H', Nx H' → ∃ m', m' < m ∧ W (i + 1) m' H') ∧ ∀ x H', J.yld i H x H' → tgCan G K O.none sl h x (wipe σ sl) H' fun σ2 H2 => wipe σ2 sl = wipe σ sl ∧ ttCan G K O.none true nt ft σ2 H2 fun b H3 =>
        if b = true then tCan G K O.none .st true ne fe σ2 H3 fun y H4 => ∃ acc, H4 Dd = some (.lst acc) ∧ acc.length < sizeLine ∧ Nx (upd H4 Dd (.lst (acc ++ [y]))) else Nx H3) := by
  intro Dd hD
  have I0 : Eok G K O.none B S H (wipe σ sl) (wipeD ρ sl) := (I.calm (O' := O.none) fun _ z => z).wipe sl fun _ => rfl
  obtain ⟨hs, hm, h0⟩ := I0.toSta.new hD
  have st : ∀ (i m : Nat) (H' : Hp), True := fun _ _ _ => trivial
  refine ⟨fun i m H' => ∃ S' acc, Eok G K O.none (B.aside Dd (.lst acc)) S' H' (wipe σ sl) (wipeD ρ sl) ∧ Sub (i * (nt + ne)) S S' ∧ i ≤ xs.length ∧ m = xs.length - i ∧ acc.length ≤ i ∧ lcL h ft fe (fun ys => Kc (.lst ys)) (xs.drop i) acc (wipeD ρ sl), ⟨_, S, [], ?_, Sub.refl _, Nat.zero_le _, rfl, Nat.le_refl _, hl⟩, ?_⟩
  · exact (I0.laid hD).aside ⟨hs, hm, h0, ⟨[], upd_same, .nil⟩⟩ (I0.nob hD)
  rintro i m H' ⟨S', acc, I', m', hi, rfl, ha, hl⟩
  have hsm : (i + 1) * (nt + ne) = i * (nt + ne) + (nt + ne) := Nat.succ_mul _ _
  by_cases hlt : i < xs.length
  · have hcap : (i + 1) * (nt + ne) ≤ sizeLine * (nt + ne) := Nat.mul_le_mul_right _ (Nat.le_trans hlt hz)
    refine .inr ⟨J1.go _ i S' H' m' I'.le I'.j hlt, fun H2 => ∃ S2 acc, Eok G K O.none (B.aside Dd (.lst acc)) S2 H2 (wipe σ sl) (wipeD ρ sl) ∧ Sub ((i + 1) * (nt + ne)) S S2 ∧ acc.length ≤ i + 1 ∧ lcL h ft fe (fun ys => Kc (.lst ys)) (xs.drop (i + 1)) acc (wipeD ρ sl),
      fun H2 ⟨S2, acc, I2, m2, ha2, h2⟩ => ⟨_, by omega, S2, acc, I2, m2, hlt, rfl, ha2, h2⟩, fun x H2 y => ?_⟩
    obtain ⟨S3, d, e1, I3, m3, dn⟩ := J1.yld O.none _ i _ S' H' _ _ x H2 m' I' hlt y
    have ed : xs.drop i = d :: xs.drop (i + 1) := by
      rw [List.drop_eq_getElem_cons hlt]
      rw [List.getElem?_eq_getElem hlt] at e1
      cases e1; rfl
    rw [ed] at hl
    refine ⟨_, S3, _, d, _, I3, dn, hl, fun σ4 ρ4 I4 of4 h4 => ⟨of4.wipe.trans (wipe_wipe _ _), ?_⟩⟩
    have el : ρ4.length = (wipeD ρ sl).length := by rw [← I4.len, of4.1, I3.len]
    refine ⟨_, S3, ρ4, _, I4, (by have := m'.lo; have := m3.lo; omega), h4, fun b H5 S5 ρ5 I5 m5 c5 h5 => ?_⟩
    have e5 : ρ5 = ρ4 := c5 rfl
    subst e5
    have back : ∀ {S6 H6} {acc' : List D}, Eok G K O.none (B.aside Dd (.lst acc')) S6 H6 σ4 ρ5 → Eok G K O.none (B.aside Dd (.lst acc')) S6 H6 (wipe σ sl) (wipeD ρ sl) := fun I6 => by
      have := I6.wipe sl fun _ => rfl
      rw [of4.wipe, of4.wipeD el, wipe_wipe, wipeD_wipe] at this
      exact this
    dsimp only
    cases b with
    | false =>
      rw [if_neg (by decide)] at h5 ⊢
      exact ⟨S5, acc, back I5, ((m'.t0 m3).trans m5).up (by omega), by omega, h5⟩
    | true =>
      rw [if_pos rfl] at h5 ⊢
      refine ⟨_, S5, ρ5, _, I5, (by have := m'.lo; have := m3.lo; have := m5.lo; omega), h5, fun v H6 S6 ρ6 y I6 m6 c6 r6 h6 => ?_⟩
      have e6 : ρ6 = ρ5 := c6 rfl
      subst e6
      obtain ⟨_, w, _⟩ := I6.back
      obtain ⟨vs, hv, dl⟩ := w.at_
      refine ⟨vs, hv, by rw [dl.length]; omega, S6, acc ++ [y], back (I6.chgAside (o' := .lst (acc ++ [y])) ⟨_, upd_same, dl.snoc r6⟩), (((m'.t0 m3).trans m5).trans m6).up (by omega), by simp; omega, h6⟩
  · have e : i = xs.length := by omega
    subst e
    rw [List.drop_length] at hl
    obtain ⟨I6, w, n⟩ := I'.back
    have m' : Sub (sizeLine * (nt + ne)) S S' := m'.up (Nat.mul_le_mul_right _ hz)
    have I7 := I.unwipe (B' := B) I6 m' hx hn
    refine .inl ⟨J1.stop _ S' H' m' I'.le I'.j, hq _ H' S' _ I7 m' ⟨Dd, .lst acc, rfl, rfl, w, rfl, fun i o z => ?_, n.nt⟩ hl⟩
    by_cases hi : i ∈ sl
    · exact hn i hi o z.1
    · exact n.no i o ⟨by rw [wipeD_at, if_neg hi]; exact z.1, by rw [wipe_at, if_neg hi]; exact z.2⟩
theorem e_lc {elt iter : Expr} {ifs : List Expr} {scope : Scope} {own : List (Str × Nat)} {pos : Pos} {fi : FI} {ft : FT} {fe : FE} (hc : X.calm = true) (hN : X.N.Nodup) (hi : PDi G X O tg iter ni fi) (ok : BlkOk X.N X.env.scope scope own)
    (hg : ∀ (s : Shared) (H : Hp) (C : Addr) (cl : List (Str × Addr)) (fp : List Addr), PDg G (X.blk s H scope (compEnvC scope cl C X.env) fp) O.none tg (own.map (·.2)) h)
    (ht : ∀ (s : Shared) (H : Hp) (C : Addr) (cl : List (Str × Addr)) (fp : List Addr), PDts G (X.blk s H scope (compEnvC scope cl C X.env) fp) O.none ifs true nt ft)
    (he : ∀ (s : Shared) (H : Hp) (C : Addr) (cl : List (Str × Addr)) (fp : List Addr), PDe G (X.blk s H scope (compEnvC scope cl C X.env) fp) O.none elt .st true ne fe)
    (hx : sizeLine * (nt + ne) = 0 ∨ ∀ x, ¬ O.xd x := by first | exact .inl rfl | exact .inr fun _ z => z) (hs : ∀ x, foldedSetIterable iter X.env x = pure x := by intro _; rfl) : PDe G X O (.ListComp elt [⟨tg, iter, ifs, 0⟩] scope pos) .fr false (ni + sizeLine * (nt + ne)) (fLc fi h ft fe (own.map (·.2))) := by
  obtain ⟨wi, pi, qi⟩ := hi.run
  refine ⟨_, pe_lc (g := tgCan G X.K O.none (own.map (·.2)) h) (tt := ttCan G X.K O.none true nt ft) (te := tCan G X.K O.none .st true ne fe) hc hN pi ok (fun s H C cl fp => (hg s H C cl fp).can) (fun s H C cl fp => (ht s H C cl fp).run) (fun s H C cl fp => (he s H C cl fp).can) hs, fun B S H σ ρ Kc Q I hb hf hq => ?_⟩
  refine qi B S H σ ρ _ _ I (by omega) hf fun J H1 S1 ρ1 xs I1 m1 J1 h1 => ?_
  exact lc_read I1 (by have := m1.lo; omega) J1 h1.1 h1.2.1 h1.2.2 hx fun v H' S' d I' m' r' k' => hq v H' S' ρ1 d I' (m1.trans m') (fun z => nomatch z) r' k'
end
end WL

/-! WG: what a def promises where no repr is under way (guards told): the def's rule, its call. -/
namespace WL
open PySem PySem.Spec PyProof.Rows L2
/-- a def's promise, called where no repr is under way -/
structure FnG (P : Program) (w : World) (K : PySem.W.Frag) (mg : Str → Option Value) (base : Heap) (k : Nat) (f : Addr) (fd : FuncData) (ps : List Str) (sp : Sp) : Prop where
  len : ∀ vs H Q E, sp vs H Q E → vs.length = ps.length
  run : ∀ (A : Around) (fr : List Env) (s : Shared) (H : Hp) (args : Args) (us : List Value) (vs : List V) (Q : VK) (E : XK), Room k A → A.guards = some [] → Env0 P w K mg base A fr s H → BindsTo s fd args (ps.zip us) → Vals vs us →
    sp vs H Q E → codeAny (model P w) A (.call (.ref f) args) (CR (L2.CX P w) fr P w H s Q E) s
theorem FnG.mono {P w K mg base j k f fd ps sp} (F : FnG P w K mg base j f fd ps sp) (h : j ≤ k) : FnG P w K mg base k f fd ps sp :=
  ⟨F.len, fun A fr s H args us vs Q E hr => F.run A fr s H args us vs Q E (hr.mono h)⟩
theorem FnG.of {P w K mg base k f fd ps sp} (F : FnOk P w K mg base (L2.CX P w) k f fd ps sp) : FnG P w K mg base k f fd ps sp :=
  ⟨F.len, fun A fr s H args us vs Q E hr _ => F.run A fr s H args us vs Q E hr⟩
theorem FnG.imp {P w K mg base k f fd ps sp sp'} (F : FnG P w K mg base k f fd ps sp) (h : ∀ vs H Q E, sp' vs H Q E → sp vs H Q E) : FnG P w K mg base k f fd ps sp' :=
  ⟨fun vs H Q E q => F.len vs H Q E (h _ _ _ _ q), fun A fr s H args us vs Q E hr g he hb hv hs => F.run A fr s H args us vs Q E hr g he hb hv (h _ _ _ _ hs)⟩
/-- the rule, by the body's reading -/
theorem FunD.okG {P : Program} {w : World} {K : PySem.W.Frag} {mg : Str → Option Value} {base : Heap} {x qual : Str} {params : Arguments} {body : List Stmt} {scope : Scope} {dvs : List V} {kws : List (Str × V)} {f : Addr} {fd : FuncData} {N ps : List Str} {k : Nat} {sp : Sp}
    (F : FunD K x qual params body scope dvs kws f fd) (Sc : FnScope N ps scope) (hlen : ∀ vs H Q E, sp vs H Q E → vs.length = ps.length)
    (hbody : ∀ (cdv : Value) (A : Around) (fr : List Env) (s : Shared) (H : Hp) (vs : List V) (Q : VK) (E : XK), Room k (A.deeper (envOfC qual scope s.heap.objs.size f cdv)) → A.guards = some [] → sp vs H Q E →
      ∃ t, PSs (cxOf (L2.CX P w) P w K mg base N qual scope f cdv A fr s H E) body t ∧ t { nx := fun _ H' => Q .non H', rt := Q } (L2.start N vs) H) : FnG P w K mg base (k + 1) f fd ps sp := by
  obtain ⟨oc, od, dV, kV, doc, pm, an, cdv, ct, osl, rfl, hlook, hcode, _, _⟩ := F.ex
  refine ⟨hlen, fun A fr s H args us vs Q E room gd en bnd rv hs => ?_⟩
  have nv := hlen _ _ _ _ hs
  have keepB : ∀ b o, base.get? b = some o → s.heap.get? b = some o := fun b o e => (en.bs b o e).1
  have KIn : K.In s.heap := en.mod.kin.keeps keepB
  have noLim : s.heap.NoLimit := en.mod.nolimit.keeps keepB
  have kinds : ∀ y ∈ ps.zip us, scope.names.lookup y.1 = some .local ∨ (scope.names.lookup y.1 = some .cell ∧ ((cellsFrom (s.heap.objs.size + 1) scope.names []).lookup y.1).isSome = true) := by
    rintro ⟨n, z⟩ hy
    have hpar := Sc.par n (List.of_mem_zip hy).1
    exact hpar.elim (fun q => .inl q) fun q => .inr ⟨q, PySem.W.cellsFrom_some _ _ _ (.inl q)⟩
  refine codeAny_call_function room.depth (KIn _ _ hlook) rfl Sc.co Sc.gen rfl (PySem.W.codeRec_of KIn hcode) (bnd _ _ _ _ ?_)
  refine wpAny_newFunctionEnv_cells Sc.kind kinds fun env henv s1 inC => ?_
  subst henv
  refine ⟨noLim.keeps inC.toInCall.keep, codeAny_func ?_⟩
  obtain ⟨t, pt, rd⟩ := hbody cdv A fr s H vs Q E (room.deeper _) gd hs
  have I0 := inv_start (CX := L2.CX P w) (E := E) Sc room.hd en nv rv inC
  refine wpAny_mono (pt.run [] s1 (L2.start N vs) H _ I0 rd) (fun fl s2 got => ?_) fun e s2 got => got
  have out : ∀ {σ2 : L2.St} {H2 : Hp} {v : V} {u : Value}, Inv (cxOf (L2.CX P w) P w K mg base N qual scope f cdv A fr s H E) [] σ2 H2 s2 → RelV v u → Q v H2 → CE fr P w H s Q u s2 :=
    fun {σ2 H2 v u} J a b => ⟨v, H2, J.os, J.bare, J.base, J.hok, a, b⟩
  match fl, got with
  | .ret u, ⟨v, σ2, H2, J, a, b⟩ => exact out J a b
  | .next, ⟨σ2, H2, J, b⟩ => exact out (v := V.non) (u := Value.none) J rfl b
  | .brk, ⟨_, _, _, z⟩ => exact z.elim
  | .cont, ⟨_, _, _, z⟩ => exact z.elim
section
variable {X : Cx} {k : Nat} {f : Addr} {fd : FuncData} {ps : List Str} {sp : Sp} {dvs : List V} {ds : List Value} {E : L2.St → XK} {x : Str} {p pos : Pos} {e : Expr} {es : List Expr} {t : TA}
/-- the callee runs, its arguments bound -/
theorem run_G {pins : List (Addr × Obj)} {σ : L2.St} {H : Hp} {s : Shared} {Q : VK} {args : Args} {us : List Value} {vs : List V} (F : FnG X.prog X.w X.K X.mg X.base k f fd ps sp) (hr : Room k X.A) (hgd : X.A.guards = some []) (hx : PassesAt (L2.CX X.prog X.w) X σ (E σ))
    (I : Inv X pins σ H s) (hb : BindsTo s fd args (ps.zip us)) (r : Vals vs us) (h : sp vs H Q (E σ)) : codeAny (model X.prog X.w) X.A (.call (.ref f) args) (fun r s' => match r with
      | .ok (.ret u) => EP X pins σ Q u s'
      | .ok _ => False
      | .error e => X.xe e s') s := by
  refine codeAny_mono (F.run X.A X.stack s H args us vs Q (E σ) hr hgd I.env0 hb r h) fun r s' hq => ?_
  match r, hq with
  | .error e, hq => exact hx pins H s e s' I hq
  | .ok (.ret u), hq => exact I.after hq
  | .ok .next, hq => exact hq.elim
  | .ok .brk, hq => exact hq.elim
  | .ok .cont, hq => exact hq.elim
theorem run_Gp {pins : List (Addr × Obj)} {σ : L2.St} {H : Hp} {s : Shared} {Q : VK} {us : List Value} {vs : List V} (F : FnG X.prog X.w X.K X.mg X.base k f fd ps sp) (hr : Room k X.A) (hgd : X.A.guards = some []) (hb : Binds X.K fd ps ds) (hd : Vals dvs ds) (hx : PassesAt (L2.CX X.prog X.w) X σ (E σ))
    (I : Inv X pins σ H s) (r : Vals vs us) (h : sp (vs ++ dvs) H Q (E σ)) : wpAny (model X.prog X.w) X.A (call (.ref f) us) (EP X pins σ Q) X.xe s := by
  have r2 := r.append hd
  refine wpAny_call (codeAny_mono (run_G (args := ⟨us, []⟩) F hr hgd hx I (hb s us I.kIn (by rw [← r2.length]; exact F.len _ _ _ _ h)) r2 h) fun r s' hq => ?_)
  match r, hq with
  | .error e, hq => exact hq
  | .ok (.ret u), hq => exact hq
  | .ok .next, hq => exact hq.elim
  | .ok .brk, hq => exact hq.elim
  | .ok .cont, hq => exact hq.elim
theorem pe_callG (F : FnG X.prog X.w X.K X.mg X.base k f fd ps sp) (hr : Room k X.A) (hgd : X.A.guards = some []) (hg : Gl X x) (hm : X.mg x = some (.ref f)) (hk : PySem.W.keepIn X.K (.ref f) = true) (hb : Binds X.K fd ps ds) (hd : Vals dvs ds) (hx : ∀ σ, PassesAt (L2.CX X.prog X.w) X σ (E σ))
    (ha : PA X (e :: es) t) (hdb : (x == ("__debug__" : Str)) = false) (he : starEach (e :: es) X.env = (false, eval e X.env) :: starEach es X.env) (hpl : (backTo pos (starEach es X.env)).any (·.1) = false) :
    PE X (.Call (.Name x p) (e :: es) [] pos) (tCallSD sp dvs E t) := by
  constructor
  intro pins s σ H Q I h
  apply wpAny_Call_Name_kw
  refine ld_glob I hg hm ?_ hdb
  refine PySem.W.callWith_K (h₀ := X.base) I.ok.mod.kin hk ?_ he hpl
  refine thn (ha.run pos pins s σ H _ I h) ?_
  rintro us s1 ⟨vs, H1, I1, r, q⟩
  exact ⟨I1.kIn, run_Gp F hr hgd hb hd (hx σ) I1 r q⟩
theorem pe_callG0 (F : FnG X.prog X.w X.K X.mg X.base k f fd ps sp) (hr : Room k X.A) (hgd : X.A.guards = some []) (hg : Gl X x) (hm : X.mg x = some (.ref f)) (hk : PySem.W.keepIn X.K (.ref f) = true) (hb : Binds X.K fd ps ds) (hd : Vals dvs ds) (hx : ∀ σ, PassesAt (L2.CX X.prog X.w) X σ (E σ))
    (hdb : (x == ("__debug__" : Str)) = false) : PE X (.Call (.Name x p) [] [] pos) (tCallSD sp dvs E tNil) := by
  constructor
  intro pins s σ H Q I h
  apply wpAny_Call_Name_kw
  refine ld_glob I hg hm ?_ hdb
  exact PySem.W.callWith_K0 I.kIn hk (run_Gp (us := []) F hr hgd hb hd (hx σ) I .nil h)
end
end WL

/-! WF: what a def promises over data; calls of defs; assignments of comprehensions. -/
namespace WL
open PySem PySem.Spec PyProof.Rows L2
/-- what is asked of the arguments; which answers, which exceptions may come -/
structure Spc where
  ar : Nat
  pre : List D → Prop
  post : List D → D → Prop
  exc : List D → D → Prop := fun _ _ => False
  cost : Nat := 0
abbrev Bs.at (H : Hp) (S : Fz) : Bs := { H0 := H, S0 := S.h, tmp := [] }
def spD (G : Glob) (K : PySem.W.Frag) (rk : Bool) (n : Nat) (m : Spc) : Sp := fun vs H Q E => ∃ S ds, vs.length = n ∧ Sta G K (Bs.at H S) S H ∧ S.T + m.cost ≤ limT ∧ DenL G K S vs ds ∧ m.pre ds ∧
  (∀ v H' S' d, Sta G K (Bs.at H S) S' H' → Sub m.cost S S' → RtOk G K (Bs.at H S) S' H' v d rk → m.post ds d → Q v H') ∧
  (∀ n cls dx S' H' x, Sta G K (Bs.at H S) S' H' → S'.T ≤ S.T → Sub n S S' → DX G K S' H' cls dx x → m.exc ds x → E cls dx H')
section
variable {G : Glob} {K : PySem.W.Frag} {O : XO} {B : Bs} {S S' : Fz} {H H' : Hp} {σ : L2.St} {ρ : EnvD}
theorem Sta.enter (I : Sta G K B S H) : Sta G K (Bs.at H S) S H := ⟨I.le, I.sm, I.j, fun _ z => z, fun _ z => .inl z, fun _ _ e _ _ => e⟩
theorem Sta.call (I : Sta G K B S H) (J : Sta G K (Bs.at H S) S' H') : Sta G K B S' H' := by
  refine ⟨J.le, J.sm, J.j, fun a z => J.dom a (I.dom a z), fun a z => ?_, fun a o e m n => J.kept a o (I.kept a o e m n) m n⟩
  rcases J.sn a z with z | z
  · exact I.sn a z
  · refine .inr ?_
    cases e : B.H0 a with
    | none => rfl
    | some o => exact absurd z (I.dom a (by rw [e]; exact fun z => nomatch z))
theorem Own1.call {n : Nat} {a : Addr} {o : Own} (I : Own1 G K B S H a o) (J : Sta G K (Bs.at H S) S' H') (m : Sub n S S') : Own1 G K B S' H' a o := by
  obtain ⟨u, e, _, _, _, nt⟩ := I.at_.there
  have eh : H' a = H a := by rw [e]; exact J.kept a u e I.m nt
  refine ⟨?_, I.m, I.h0, I.at_.mono m eh⟩
  cases q : S' a with
  | none => rfl
  | some o' =>
    rcases J.sn a (by rw [q]; exact fun z => nomatch z) with z | z
    · exact absurd I.s z
    · have z : H a = none := z
      rw [e] at z; cases z
theorem Eok.call {n : Nat} (I : Eok G K O B S H σ ρ) (J : Sta G K (Bs.at H S) S' H') (hx : n = 0 ∨ ∀ x, ¬ O.xd x) (m : Sub n S S') : Eok G K O B S' H' σ ρ := by
  refine ⟨I.toSta.call J, ?_, fun n2 cls dx S2 H2 σ2 x t2 l2 m2 k2 d2 => I.xr _ cls dx S2 H2 σ2 x t2 l2 (m.trans m2) k2 d2, fun i d e => ?_, fun i o e => ?_, I.ap, fun j a o e => (I.tm j a o e).call J m, I.ta, I.tt, I.len, I.sf⟩
  · rcases hx with e | e
    · rcases I.tz with z | z
      · exact .inl (by have := m.lo; omega)
      · exact .inr z
    · exact .inr e
  · obtain ⟨v, e1, e2⟩ := I.im i d e; exact ⟨v, e1, e2.mono m⟩
  · obtain ⟨a, e1, e2⟩ := I.ow i o e; exact ⟨a, e1, e2.call J m⟩
def rkK : Bool → Kd
  | false => .st
  | true => .fr
/-- a callee's answer -/
theorem Eok.answer {n : Nat} {rk : Bool} {v : V} {d : D} (I : Eok G K O B S H σ ρ) (J : Sta G K (Bs.at H S) S' H') (m : Sub n S S') (r : RtOk G K (Bs.at H S) S' H' v d rk) : ROk G K B S' H' σ ρ v d (rkK rk) := by
  cases rk with
  | false => exact r
  | true =>
    obtain ⟨a, o, rfl, rfl, hc, w⟩ := r
    have hn : H a = none := w.h0
    have h0 : B.H0 a = none := by
      cases e : B.H0 a with
      | none => rfl
      | some o => exact absurd hn (I.dom a (by rw [e]; exact fun z => nomatch z))
    exact ⟨a, o, rfl, rfl, ⟨w.s, w.m, h0, w.at_⟩, hc, I.nob hn⟩
end

/-! ### a def keeps its promise -/
def startD (n : Nat) (ds : List D) : EnvD := ds.map (fun d => some (Slot.imm d)) ++ List.replicate (n - ds.length) none
theorem start_im {G : Glob} {K : PySem.W.Frag} {S : Fz} {N : List Str} {vs : List V} {ds : List D} (r : DenL G K S vs ds) (i : Nat) (d : D) (h : (startD N.length ds)[i]? = some (some (.imm d))) : ∃ v : V, (L2.start N vs)[i]? = some (some v) ∧ Den G K S v d := by
  have hl := r.length
  unfold startD at h
  unfold L2.start
  by_cases hi : i < ds.length
  · rw [List.getElem?_append_left (by simpa using hi)] at h
    rw [List.getElem?_append_left (by simpa [hl] using hi)]
    obtain ⟨v, d', e1, e2, q⟩ := paired_some r hi
    rw [List.getElem?_map, e2] at h
    simp at h
    subst h
    exact ⟨v, by rw [List.getElem?_map, e1]; rfl, q⟩
  · rw [List.getElem?_append_right (by simpa using hi), List.getElem?_replicate] at h
    split at h <;> simp at h
theorem start_ow {n : Nat} {ds : List D} {i : Nat} {o : Own} (h : (startD n ds)[i]? = some (some (.own o))) : False := by
  unfold startD at h
  by_cases hi : i < ds.length
  · rw [List.getElem?_append_left (by simpa using hi), List.getElem?_map] at h
    cases e : ds[i]? with
    | none => rw [e] at h; simp at h
    | some d => rw [e] at h; simp at h
  · rw [List.getElem?_append_right (by simpa using hi), List.getElem?_replicate] at h
    split at h <;> simp at h
/-- the context's wish of a def's body -/
def defO (E : XK) (xd : D → Prop) (t0 : Nat) : XO := { W := fun cls d _ H => E cls d H, xd := xd, keep := fun _ => false, t0 := t0 }
def endsD (rk : Bool) (P : D → Prop) : EndsD := { nx := fun _ => rk = false ∧ P .non, rt := P }
theorem fn_D {G : Glob} {P : Program} {w : World} {K : PySem.W.Frag} {mg : Str → Option Value} {base : Heap} {x qual : Str} {params : Arguments} {body : List Stmt} {scope : Scope} {dvs : List V} {kws : List (Str × V)} {f : Addr} {fd : FuncData} {N ps : List Str} {k : Nat} {rk : Bool} {m : Spc}
    (F : FunD K x qual params body scope dvs kws f fd) (Sc : FnScope N ps scope)
    (hb : ∀ (cdv : Value) (A : Around) (outer : List Env) (s : Shared) (H : Hp) (E : XK) (t0 : Nat) (ds : List D), Room k (A.deeper (envOfC qual scope s.heap.objs.size f cdv)) → A.guards = some [] → m.pre ds → ds.length = ps.length →
      Takes (cxOf (L2.CX P w) P w K mg base N qual scope f cdv A outer s H E) (defO E (m.exc ds) t0).W →
      ∃ n g, PDb G (cxOf (L2.CX P w) P w K mg base N qual scope f cdv A outer s H E) (defO E (m.exc ds) t0) rk body n g ∧ n ≤ m.cost ∧ g (endsD rk (m.post ds)) (startD N.length ds)) :
    FnG P w K mg base (k + 1) f fd ps (spD G K rk ps.length m) := by
  refine FunD.okG F Sc (fun vs H Q E h => ?_) (fun cdv A outer s H vs Q E hr gd h => ?_)
  · obtain ⟨S, ds, hl, _⟩ := h
    exact hl
  · obtain ⟨S, ds, hl, I, hb0, r, hp, hq, he⟩ := h
    have hl' : ds.length = ps.length := by rw [← r.length]; exact hl
    obtain ⟨n, g, pb, hn, hg⟩ := hb cdv A outer s H E S.T ds hr gd hp hl' (takes_of rfl rfl rfl rfl)
    obtain ⟨t, pt, q⟩ := pb.run
    have lN : (L2.start N vs).length = (startD N.length ds).length := by
      unfold L2.start startD
      rw [List.length_append, List.length_append, List.length_map, List.length_map, List.length_replicate, List.length_replicate, r.length]
    have I0 : Eok G K (defO E (m.exc ds) S.T) (Bs.at H S) S H (L2.start N vs) (startD N.length ds) :=
      ⟨I, .inl (Nat.le_refl _), fun n2 cls dx S' H' σ' x t l2 m2 _ d z => he n2 cls dx S' H' x t l2 m2 d z, fun i d e => start_im r i d e, fun i o e => (start_ow e).elim, fun i j a o o' h1 _ => (start_ow h1.1).elim, fun j a o e => by simp at e, fun i j a o o' h1 _ => (start_ow h1.1).elim, fun i j a o o' e _ => by simp at e, lN, fun i c fs e => (start_ow e).elim⟩
    refine ⟨t, pt, q (Bs.at H S) S H _ _ (endsD rk (m.post ds)) _ I0 (by omega) hg ⟨fun σ' H' S' ρ' I' m' h => ?_, fun v H' S' d I' m' r' h => hq v H' S' d I' (m'.up hn) r' h, fun _ _ _ _ _ _ z => z.elim, fun _ _ _ _ _ _ z => z.elim⟩⟩
    obtain ⟨rfl, h⟩ := h
    exact hq .non H' S' .non I'.toSta (m'.up hn) .non h

/-! ### calls -/
/-- the def x of the module, called with the last parameters at their defaults -/
structure Fn (G : Glob) (P : Program) (w : World) (K : PySem.W.Frag) (mg : Str → Option Value) (base : Heap) (x : Str) (k : Nat) (rk : Bool) (m : Spc) (dds : List D) : Prop where
  ex : ∃ (f : Addr) (fd : FuncData) (ps : List Str) (ds : List Value) (dvs : List V), FnG P w K mg base k f fd ps (spD G K rk ps.length m) ∧ mg x = some (.ref f) ∧ PySem.W.keepIn K (.ref f) = true ∧ Binds K fd ps ds ∧ Vals dvs ds ∧ (∀ S, DenL G K S dvs dds) ∧ ps.length = m.ar
def fCall (xd : D → Prop) (m : Spc) (dds : List D) (fa : FA) : FE := fun ρ Kc => fa ρ fun ρ1 ds => ds.length + dds.length = m.ar ∧ m.pre (ds ++ dds) ∧ (∀ d, m.post (ds ++ dds) d → Kc ρ1 d) ∧ ∀ x, m.exc (ds ++ dds) x → xd x
theorem paired_append {α β : Type} {F : α → β → Prop} {l₁ m₁ : List α} {l₂ m₂ : List β} (h : Paired F l₁ l₂) (h' : Paired F m₁ m₂) : Paired F (l₁ ++ m₁) (l₂ ++ m₂) := by
  induction h with
  | nil => exact h'
  | cons r _ ih => exact .cons r ih
/-- what a callee lets out is wanted here -/
structure Lets (X : Cx) (O : XO) : Prop where
  ex : ∃ E : L2.St → XK, (∀ σ, PassesAt (L2.CX X.prog X.w) X σ (E σ)) ∧ ∀ σ cls dx H x, O.xd x → O.W cls dx σ H → E σ cls dx H
theorem lets {X : Cx} {O : XO} (tk : Takes X O.W) : Lets X O := ⟨WE O.W, fun σ => passAt tk σ, fun _ _ _ _ _ _ h => h⟩
theorem lets0 {X : Cx} {O : XO} (h : ∀ x, ¬ O.xd x) : Lets X O := ⟨fun _ _ _ _ => False, fun σ => fun pins H s e s' I c => by
  obtain ⟨a, B, H', cls, d, _, _, _, _, _, _, _, z⟩ := c
  exact z.elim, fun _ _ _ _ x z _ => absurd z (h x)⟩
section
variable {G : Glob} {X : Cx} {O : XO} {rk : Bool} {x : Str} {p pos : Pos} {e : Expr} {es : List Expr} {k j : Nat} {m : Spc} {dds : List D} {c : Bool} {na : Nat} {fa : FA}
theorem e_call (F : Fn G X.prog X.w X.K X.mg X.base x k rk m dds) (hr : Room j X.A) (hgd : X.A.guards = some []) (hk : k ≤ j) (tk : Lets X O) (ha : PDa G X O (e :: es) c na fa) (hx0 : m.cost = 0 ∨ ∀ x, ¬ O.xd x := by first | exact .inl rfl | exact .inr fun _ z => z) (hg : Gl X x := by rfl) (hdb : (x == ("__debug__" : Str)) = false := by decide)
    (he : starEach (e :: es) X.env = (false, eval e X.env) :: starEach es X.env := by rfl) (hpl : (backTo pos (starEach es X.env)).any (·.1) = false := by rfl) : PDe G X O (.Call (.Name x p) (e :: es) [] pos) (rkK rk) c (na + m.cost) (fCall O.xd m dds fa) := by
  obtain ⟨f, fd, ps, ds, dvs, F, hm, hkp, hb, hv, hd, hlen⟩ := F.ex
  obtain ⟨t, pa, q⟩ := ha.run
  obtain ⟨E, hE, hW⟩ := tk.ex
  refine ⟨_, pe_callG F (hr.mono hk) hgd hg hm hkp hb hv hE pa hdb he hpl, fun B S H σ ρ Kc Q I hb hf hq => ?_⟩
  refine q B S H σ ρ _ _ I (by omega) hf fun vs H1 S1 ρ1 xs I1 m1 c1 r1 h1 => ?_
  obtain ⟨har, hp, hpost, hx⟩ := h1
  have r2 : DenL G X.K S1 (vs ++ dvs) (xs ++ dds) := paired_append r1 (hd S1)
  refine ⟨S1, xs ++ dds, ?_, I1.toSta.enter, (by have := m1.lo; omega), r2, hp, fun v H' S' d J m' r' hpo => ?_, fun n2 cls dx S' H' x' J l2 m' dd hxe => ?_⟩
  · rw [r2.length, List.length_append, har, hlen]
  · exact hq v H' S' ρ1 d (I1.call J hx0 m') (m1.trans m') c1 (I1.answer J m' r') (hpost d hpo)
  · rcases I1.tz with z | z
    · exact hW _ _ _ _ x' (hx x' hxe) (I1.xr n2 cls dx S' H' σ x' (I1.toSta.call J) (Nat.le_trans l2 z) m' (fun _ _ => rfl) dd (hx x' hxe))
    · exact absurd (hx x' hxe) (z x')
end

/-! ### name = [..] -/
section
variable {G : Glob} {X : Cx} {O : XO} {rk : Bool} {h : FG} {tg elt iter : Expr} {ifs : List Expr} {scope : Scope} {own : List (Str × Nat)} {pos spos py : Pos} {y : Str} {fi : FI} {ft : FT} {fe : FE} {ni nt ne : Nat}
theorem setLcT (i : Nat) {B : Bs} {S : Fz} {H : Hp} {σ : L2.St} {ρ : EnvD} {Ed : EndsD} {D : Ends} {wi : TI} (hk : O.keep i = false)
    (qi : ∀ (B : Bs) (S : Fz) (H : Hp) (σ : L2.St) (ρ : EnvD) (Kc : EnvD → List WL.D → Prop) (R : It → Hp → Prop), Eok G X.K O B S H σ ρ → S.T + ni ≤ limT → fi ρ Kc → (∀ J H' S' ρ' xs, Eok G X.K O B S' H' σ ρ' → Sub ni S S' → ItOk G X.K S' J xs → Kc ρ' xs → R J H') → wi σ H R)
    (I : Eok G X.K O B S H σ ρ) (hb : S.T + (ni + sizeLine * (nt + ne)) ≤ limT) (hf : fSetO i (fLc fi h ft fe (own.map (·.2))) Ed ρ) (hx : sizeLine * (nt + ne) = 0 ∨ ∀ x, ¬ O.xd x) (E : EOk G X.K O rk (ni + sizeLine * (nt + ne)) B S Ed D) :
    tAsg (tLc wi (tgCan G X.K O.none (own.map (·.2)) h) (ttCan G X.K O.none true nt ft) (tCan G X.K O.none .st true ne fe) (own.map (·.2))) (gName i) D σ H := by
  refine qi B S H σ ρ _ _ I (by omega) hf fun J H1 S1 ρ1 xs I1 m1 J1 h1 => ?_
  refine lc_read (Q := fun x H1 => gName i x σ H1 D.nx) (Kc := fun d => ownOf d fun o => Ed.nx (ρ1.set i (some (.own o)))) I1 (by have := m1.lo; omega) J1 h1.1 h1.2.1 h1.2.2 hx fun v H' S' d I' m' r' k' => ?_
  obtain ⟨o, rfl, hc, h2⟩ := ownOf_inv k'
  exact E.nx _ _ _ _ (I'.setO hk hc r') (m1.trans m') h2
theorem s_setOLc (i : Nat) (hc : X.calm = true) (hN : X.N.Nodup) (hi : PDi G X O tg iter ni fi) (ok : BlkOk X.N X.env.scope scope own)
    (hg : ∀ (s : Shared) (H : Hp) (C : Addr) (cl : List (Str × Addr)) (fp : List Addr), PDg G (X.blk s H scope (compEnvC scope cl C X.env) fp) O.none tg (own.map (·.2)) h)
    (ht : ∀ (s : Shared) (H : Hp) (C : Addr) (cl : List (Str × Addr)) (fp : List Addr), PDts G (X.blk s H scope (compEnvC scope cl C X.env) fp) O.none ifs true nt ft)
    (he : ∀ (s : Shared) (H : Hp) (C : Addr) (cl : List (Str × Addr)) (fp : List Addr), PDe G (X.blk s H scope (compEnvC scope cl C X.env) fp) O.none elt .st true ne fe)
    (hk : O.keep i = false := by rfl) (hy : X.N[i]? = some y := by rfl) (hyl : X.env.scope.names.lookup y = some .local := by rfl) (hl : (py.line == pos.line) = true := by rfl) (hkd : X.env.scope.kind = .function := by rfl) (hno : (scope.names.any fun (n, k) => n == y && (k == .local || k == .cell)) = false := by decide +kernel)
    (hx : sizeLine * (nt + ne) = 0 ∨ ∀ x, ¬ O.xd x := by first | exact .inl rfl | exact .inr fun _ z => z) (hs : ∀ x, foldedSetIterable iter X.env x = pure x := by intro _; rfl) : PDs G X O rk (.Assign [.Name y py] (.ListComp elt [⟨tg, iter, ifs, 0⟩] scope pos) spos) (ni + sizeLine * (nt + ne)) (fSetO i (fLc fi h ft fe (own.map (·.2)))) := by
  obtain ⟨wi, pi, qi⟩ := hi.run
  refine ⟨_, ps_setLc (g := tgCan G X.K O.none (own.map (·.2)) h) (tt := ttCan G X.K O.none true nt ft) (te := tCan G X.K O.none .st true ne fe) hc hN hy hyl (by first | exact sw_true hkd hyl hl hno | exact sw_true hkd hyl hl) pi ok (fun s H C cl fp => (hg s H C cl fp).can) (fun s H C cl fp => (ht s H C cl fp).run) (fun s H C cl fp => (he s H C cl fp).can) hs, fun B S H σ ρ Ed D I hb hf E => setLcT i hk qi I hb hf hx E⟩
end
end WL

/-! WH: operators over data. -/
namespace WL
open PySem PySem.Spec PyProof.Rows L2
section
variable {G : Glob} {X : Cx} {O : XO}
/-! ### arithmetic -/
def opAdd (x y : D) (P : D → Prop) : Prop := match x, y with
  | .int i, .int j => P (.int (i + j))
  | .str a, .str b => a.length + b.length ≤ sizeLine ∧ P (.str (a ++ b))
  | .lst a, .lst b => a.length + b.length ≤ sizeLine ∧ P (.lst (a ++ b))
  | .tup a, .tup b => a.length + b.length ≤ sizeLine ∧ P (.tup (a ++ b))
  | _, _ => False
abbrev rAddA (K : PySem.W.Frag) : R2 := fun x y H Q => (∃ i j, x = .int i ∧ y = .int j ∧ Q (.int (i + j)) H) ∨ (∃ i j, x = .str i ∧ y = .str j ∧ i.length + j.length ≤ sizeLine ∧ Q (.str (i ++ j)) H) ∨ rCat x y H Q ∨ rCatA K x y H Q
theorem op_addA : OpR X (binaryOp .Add) (rAddA X.K) := op_add.or (op_add_str.or (op_cat.or op_catA))
theorem s_addA : R2s G X O (rAddA X.K) opAdd .st := by
  intro B S H σ ρ ka kb v w x y Kc Q I r1 r2 h hq
  unfold opAdd at h
  split at h
  · obtain rfl := r1.int I
    obtain rfl := r2.int I
    exact .inl ⟨_, _, rfl, rfl, hq _ H S _ I (Sub.refl _) (Den.int _) h⟩
  · obtain rfl := r1.str I
    obtain rfl := r2.str I
    exact .inr (.inl ⟨_, _, rfl, rfl, h.1, hq _ H S _ I (Sub.refl _) (Den.str _) h.2⟩)
  · obtain ⟨a, vs, rfl, ha, la⟩ := r1.lst I
    obtain ⟨b, ws, rfl, hb, lb⟩ := r2.lst I
    refine .inr (.inr (.inl ⟨a, b, vs, ws, rfl, rfl, ha, hb, by rw [la.length, lb.length]; exact h.1, fun p hp => ?_⟩))
    obtain ⟨I', m⟩ := I.laysF (u := .lst (vs ++ ws)) hp
    exact hq _ _ _ _ I' m (den_lst Fz.put_same (DenL.mono m (paired_append la lb))) h.2
  · obtain ⟨a, vs, rfl, ha, la⟩ := r1.tup I
    obtain ⟨b, ws, rfl, hb, lb⟩ := r2.tup I
    have ra := r1.flat I fun o z => by cases o <;> cases z
    have rb := r2.flat I fun o z => by cases o <;> cases z
    refine .inr (.inr (.inr ⟨a, b, vs, ws, rfl, rfl, SqT.of ha, SqT.of hb, by rw [la.length, lb.length]; exact h.1, fun e => ?_, fun _ e => ?_, fun _ _ p hp => ?_⟩))
    · subst e; cases la
      exact hq _ H S _ I (Sub.refl _) rb h.2
    · subst e; cases lb
      refine hq _ H S _ I (Sub.refl _) ?_ h.2
      rw [List.append_nil]; exact ra
    · obtain ⟨I', m⟩ := I.laysF (u := .tup (vs ++ ws)) hp
      exact hq _ _ _ _ I' m (den_tup Fz.put_same (DenL.mono m (paired_append la lb))) h.2
  · exact h.elim
/-- lists, the result one's own -/
def opCat (x y : D) (P : D → Prop) : Prop := match x, y with
  | .lst a, .lst b => a.length + b.length ≤ sizeLine ∧ P (.lst (a ++ b))
  | _, _ => False
theorem s_cat : R2s G X O rCat opCat .fr := by
  intro B S H σ ρ ka kb v w x y Kc Q I r1 r2 h hq
  unfold opCat at h
  split at h
  · obtain ⟨a, vs, rfl, ha, la⟩ := r1.lst I
    obtain ⟨b, ws, rfl, hb, lb⟩ := r2.lst I
    refine ⟨a, b, vs, ws, rfl, rfl, ha, hb, by rw [la.length, lb.length]; exact h.1, fun p hp => ?_⟩
    obtain ⟨I', r⟩ := I.lays (u := .lst (vs ++ ws)) (o := .lst _) hp ⟨_, upd_same, paired_append la lb⟩
    exact hq _ _ _ _ I' (Sub.refl _) r h.2
  · exact h.elim
def opI (C : Int → Int → Prop) (f : Int → Int → D) (x y : D) (P : D → Prop) : Prop := match x, y with
  | .int i, .int j => C i j ∧ P (f i j)
  | _, _ => False
def opI0 (f : Int → Int → D) (x y : D) (P : D → Prop) : Prop := match x, y with
  | .int i, .int j => P (f i j)
  | _, _ => False
theorem s_int {C : Int → Int → Prop} {f : Int → Int → V} {f' : Int → Int → D} (hf : ∀ S i j, Den G X.K S (f i j) (f' i j)) : R2s G X O (rI C f) (opI C f') .st := by
  intro B S H σ ρ ka kb v w x y Kc Q I r1 r2 h hq
  unfold opI at h
  split at h
  · obtain rfl := r1.int I
    obtain rfl := r2.int I
    exact ⟨_, _, rfl, rfl, h.1, hq _ H S _ I (Sub.refl _) (hf S _ _) h.2⟩
  · exact h.elim
theorem s_int0 {f : Int → Int → V} {f' : Int → Int → D} (hf : ∀ S i j, Den G X.K S (f i j) (f' i j)) : R2s G X O (rI0 f) (opI0 f') .st := by
  intro B S H σ ρ ka kb v w x y Kc Q I r1 r2 h hq
  unfold opI0 at h
  split at h
  · obtain rfl := r1.int I
    obtain rfl := r2.int I
    exact ⟨_, _, rfl, rfl, hq _ H S _ I (Sub.refl _) (hf S _ _) h⟩
  · exact h.elim
abbrev opSub := opI0 fun i j => .int (i - j)
abbrev opMul := opI CMul fun i j => .int (i * j)
abbrev opDiv := opI CDivW fun i j => .int (i / j)
abbrev opMod := opI (fun _ j => 0 < j) fun i j => .int (i % j)
/-- a power of not too many bits -/
def CPowW (i j : Int) : Prop := 0 ≤ j ∧ j ≤ 1000 ∧ i.natAbs.log2 < 100000
theorem op_powW : OpR X (binaryOp .Pow) (rI CPowW fun i j => .int (i ^ j.toNat)) := L2.opI fun i j _ _ _ _ _ hc q => PyProof.Rows.pow_int hc.1 (by
  have h1 : Builtin.Int.intBits i ≤ i.natAbs.log2 + 1 := by
    unfold Builtin.Int.intBits
    split <;> omega
  have h2 : (Builtin.Int.intBits i : Int) ≤ 100000 := by have := hc.2.2; omega
  have h3 : (Builtin.Int.intBits i : Int) * j ≤ 100000 * 1000 := Int.mul_le_mul h2 hc.2.1 hc.1 (by decide)
  exact Int.le_trans h3 (by decide)) q
abbrev opPow := opI CPowW fun i j => .int (i ^ j.toNat)
theorem s_sub : R2s G X O (rI0 fun i j => .int (i - j)) opSub .st := s_int0 fun _ _ _ => .int _
theorem s_mul : R2s G X O (rI CMul fun i j => .int (i * j)) opMul .st := s_int fun _ _ _ => .int _
theorem s_div : R2s G X O (rI CDivW fun i j => .int (i / j)) opDiv .st := s_int fun _ _ _ => .int _
theorem s_mod : R2s G X O (rI (fun _ j => 0 < j) fun i j => .int (i % j)) opMod .st := s_int fun _ _ _ => .int _
theorem s_pow : R2s G X O (rI CPowW fun i j => .int (i ^ j.toNat)) opPow .st := s_int fun _ _ _ => .int _
abbrev opLt := opI0 fun i j => .bl (decide (i < j))
abbrev opLe := opI0 fun i j => .bl (decide (i ≤ j))
abbrev opGt := opI0 fun i j => .bl (decide (j < i))
abbrev opGe := opI0 fun i j => .bl (decide (j ≤ i))
theorem s_lt : R2s G X O (rI0 fun i j => .bl (decide (i < j))) opLt .st := s_int0 fun _ _ _ => .bl _
theorem s_le : R2s G X O (rI0 fun i j => .bl (decide (i ≤ j))) opLe .st := s_int0 fun _ _ _ => .bl _
theorem s_gt : R2s G X O (rI0 fun i j => .bl (decide (j < i))) opGt .st := s_int0 fun _ _ _ => .bl _
theorem s_ge : R2s G X O (rI0 fun i j => .bl (decide (j ≤ i))) opGe .st := s_int0 fun _ _ _ => .bl _
/-- [x] * n -/
def opRep (x y : D) (P : D → Prop) : Prop := match x, y with
  | .lst a, .int k => (-(2 ^ 63) ≤ k ∧ k < 2 ^ 63 ∧ a.length * k.toNat ≤ sizeLine) ∧ P (.lst (List.replicate k.toNat a).flatten)
  | _, _ => False
theorem paired_rep {α β : Type} {F : α → β → Prop} {l : List α} {m : List β} (h : Paired F l m) : ∀ k : Nat, Paired F (List.replicate k l).flatten (List.replicate k m).flatten
  | 0 => .nil
  | k + 1 => by rw [List.replicate_succ, List.replicate_succ, List.flatten_cons, List.flatten_cons]; exact paired_append h (paired_rep h k)
theorem s_rep : R2s G X O rRep opRep .fr := by
  intro B S H σ ρ ka kb v w x y Kc Q I r1 r2 h hq
  unfold opRep at h
  split at h
  · obtain ⟨a, vs, rfl, ha, la⟩ := r1.lst I
    obtain rfl := r2.int I
    obtain ⟨⟨h1, h2, h3⟩, h4⟩ := h
    refine ⟨a, _, vs, rfl, rfl, ha, h1, h2, by rw [la.length]; exact h3, fun p hp => ?_⟩
    obtain ⟨I', r⟩ := I.lays (o := .lst _) (u := .lst (List.replicate _ vs).flatten) hp ⟨_, upd_same, paired_rep la _⟩
    exact hq _ _ _ _ I' (Sub.refl _) r h4
  · exact h.elim
def uInt (f : Int → D) (x : D) (P : D → Prop) : Prop := match x with
  | .int i => P (f i)
  | _ => False
theorem s_neg : R1s G X O (rU fun i => .int (-i)) (uInt fun i => .int (-i)) .st := by
  intro B S H σ ρ ka v x Kc Q I r1 h hq
  unfold uInt at h
  split at h
  · obtain rfl := r1.int I
    exact ⟨_, rfl, hq _ H S _ I (Sub.refl _) (Den.int _) h⟩
  · exact h.elim

/-! ### plain data: ==, !=, in -/
mutual
def toPy : D → PyData
  | .bl b => .bool b
  | .int i => .int i
  | .str x => .str x
  | .tup xs => .tuple (toPys xs)
  | .lst xs => .list (toPys xs)
  | .wtp xs => .tuple (toPys xs)
  | _ => .none
def toPys : List D → List PyData
  | [] => []
  | x :: xs => toPy x :: toPys xs
end
mutual
/-- nothing but None, bools, ints, texts, tuples, lists -/
def plain : D → Bool
  | .non => true
  | .bl _ => true
  | .int _ => true
  | .str x => PyData.strOk x
  | .tup xs => plains xs
  | .lst xs => plains xs
  | .wtp xs => plains xs
  | _ => false
def plains : List D → Bool
  | [] => true
  | x :: xs => plain x && plains xs
end
mutual
def deep : D → Nat
  | .tup xs => deeps xs + 1
  | .lst xs => deeps xs + 1
  | .wtp xs => deeps xs + 1
  | _ => 0
def deeps : List D → Nat
  | [] => 0
  | x :: xs => max (deep x) (deeps xs)
end
mutual
theorem toPy_depth : ∀ d : D, (toPy d).depth = deep d
  | .non => by simp [toPy, deep, PyData.depth]
  | .bl _ => by simp [toPy, deep, PyData.depth]
  | .int _ => by simp [toPy, deep, PyData.depth]
  | .str _ => by simp [toPy, deep, PyData.depth]
  | .tup xs => by simp [toPy, deep, PyData.depth, toPys_depth xs]
  | .lst xs => by simp [toPy, deep, PyData.depth, toPys_depth xs]
  | .wtp xs => by simp [toPy, deep, PyData.depth, toPys_depth xs]
  | .dct _ => by simp [toPy, deep, PyData.depth]
  | .ins _ _ => by simp [toPy, deep, PyData.depth]
  | .exc _ _ => by simp [toPy, deep, PyData.depth]
  | .cls _ => by simp [toPy, deep, PyData.depth]
  | .tok _ => by simp [toPy, deep, PyData.depth]
  | .wls _ => by simp [toPy, deep, PyData.depth]
theorem toPys_depth : ∀ ds : List D, PyData.depthAll (toPys ds) = deeps ds
  | [] => by simp [toPys, deeps, PyData.depthAll]
  | x :: xs => by simp [toPys, deeps, PyData.depthAll, toPy_depth x, toPys_depth xs]
end
mutual
theorem toPy_lay : ∀ d : D, plain d = true → (toPy d).canLay0 = true
  | .non, _ => by simp [toPy, PyData.canLay0]
  | .bl _, _ => by simp [toPy, PyData.canLay0]
  | .int _, _ => by simp [toPy, PyData.canLay0]
  | .str x, h => by simpa [toPy, PyData.canLay0, plain] using h
  | .tup xs, h => by simp only [toPy, PyData.canLay0]; exact toPys_lay xs (by simpa [plain] using h)
  | .lst xs, h => by simp only [toPy, PyData.canLay0]; exact toPys_lay xs (by simpa [plain] using h)
  | .wtp xs, h => by simp only [toPy, PyData.canLay0]; exact toPys_lay xs (by simpa [plain] using h)
  | .dct _, h => by simp [plain] at h
  | .ins _ _, h => by simp [plain] at h
  | .exc _ _, h => by simp [plain] at h
  | .cls _, h => by simp [plain] at h
  | .tok _, h => by simp [plain] at h
  | .wls _, h => by simp [plain] at h
theorem toPys_lay : ∀ ds : List D, plains ds = true → PyData.canLayAll0 (toPys ds) = true
  | [], _ => by simp [toPys, PyData.canLayAll0]
  | x :: xs, h => by
    simp only [plains, Bool.and_eq_true] at h
    simp only [toPys, PyData.canLayAll0, Bool.and_eq_true]
    exact ⟨toPy_lay x h.1, toPys_lay xs h.2⟩
end
def pyEq (x y : D) : Bool := PyData.eqv (toPy x) (toPy y)
theorem dpAll_of {K : PySem.W.Frag} {H : Hp} : ∀ {ds : List D} {vs : List V}, vs.length = ds.length → (∀ (i : Nat) v d, vs[i]? = some v → ds[i]? = some d → Dp K H v (toPy d)) → DpAll K H vs (toPys ds)
  | [], [], _, _ => by simp only [toPys]; exact .nil
  | d :: ds, v :: vs, hl, h => by
    simp only [toPys]
    exact .cons (h 0 v d rfl rfl) (dpAll_of (by simpa using hl) fun i x y h1 h2 => h (i + 1) x y (by simpa using h1) (by simpa using h2))
  | [], _ :: _, hl, _ => by simp at hl
  | _ :: _, [], hl, _ => by simp at hl
theorem plains_at : ∀ {ds : List D}, plains ds = true → ∀ (i : Nat) d, ds[i]? = some d → plain d = true
  | [], _, i, d, e => by simp at e
  | x :: xs, h, i, d, e => by
    simp only [plains, Bool.and_eq_true] at h
    cases i with
    | zero => simp at e; subst e; exact h.1
    | succ i => exact plains_at h.2 i d (by simpa using e)
theorem Den.dp {K : PySem.W.Frag} {S : Fz} {H : Hp} {v : V} {d : D} (h : Den G K S v d) (le : ∀ a o, S a = some o → H a = some o) (hp : plain d = true) : Dp K H v (toPy d) := by
  induction h with
  | non => simp only [toPy]; exact .non
  | bl b => simp only [toPy]; exact .bl b
  | int i => simp only [toPy]; exact .int i
  | str x => simp only [toPy]; exact .str x
  | @tup a vs ds h l r ih =>
    simp only [toPy]
    have hp' : plains ds = true := by simpa only [plain] using hp
    exact .tup (SqT.of (le _ _ h)) (dpAll_of l fun i v d h1 h2 => ih i v d h1 h2 (plains_at hp' i d h2))
  | @lst a vs ds h l r ih =>
    simp only [toPy]
    have hp' : plains ds = true := by simpa only [plain] using hp
    exact .lst (SqL.of (le _ _ h)) (dpAll_of l fun i v d h1 h2 => ih i v d h1 h2 (plains_at hp' i d h2))
  | @wtp a vs ds h l r ih =>
    simp only [toPy]
    have hp' : plains ds = true := by simpa only [plain] using hp
    exact .tup (h H) (dpAll_of l fun i v d h1 h2 => ih i v d h1 h2 (plains_at hp' i d h2))
  | dK => simp [plain] at hp
  | dT => simp [plain] at hp
  | ins => simp [plain] at hp
  | cls => simp [plain] at hp
  | tok => simp [plain] at hp
  | wls => simp [plain] at hp
  | exc0 => simp [plain] at hp
  | exc1 => simp [plain] at hp
theorem ROk.dp {B : Bs} {S : Fz} {H : Hp} {σ : L2.St} {ρ : EnvD} {k : Kd} {v : V} {d : D} (I : Eok G X.K O B S H σ ρ) (r : ROk G X.K B S H σ ρ v d k) (hp : plain d = true) : Dp X.K H v (toPy d) := by
  rcases r.own I with r | ⟨a, o, rfl, rfl, w⟩
  · exact r.dp I.le hp
  · cases o with
    | dct ps => simp [Own.d, plain] at hp
    | ins c fs => simp [Own.d, plain] at hp
    | lst xs =>
      obtain ⟨vs, h, l⟩ := w
      have hp' : plains xs = true := by simpa only [Own.d, plain] using hp
      simp only [Own.d, toPy]
      exact .lst (SqL.of h) (dpAll_of l.length fun i v d h1 h2 => (paired_at l i v d h1 h2).dp I.le (plains_at hp' i d h2))
def opEq (x y : D) (P : D → Prop) : Prop := (plain x = true ∧ plain y = true ∧ deep x ≤ 64 ∧ deep y ≤ 64) ∧ P (.bl (pyEq x y))
def opNe (x y : D) (P : D → Prop) : Prop := (plain x = true ∧ plain y = true ∧ deep x ≤ 64 ∧ deep y ≤ 64) ∧ P (.bl (!pyEq x y))
theorem shaped_of {d : D} (h : plain d = true) (hd : deep d ≤ 64) : SeqAt.shaped (toPy d) = true := by
  unfold SeqAt.shaped
  rw [toPy_lay d h, toPy_depth]
  simpa using hd
theorem s_eq : R2s G X O (rEqD X.K) opEq .st := by
  intro B S H σ ρ ka kb v w x y Kc Q I r1 r2 h hq
  obtain ⟨⟨p1, p2, d1, d2⟩, h⟩ := h
  exact ⟨_, _, r1.dp I p1, r2.dp I p2, shaped_of p1 d1, shaped_of p2 d2, hq _ H S _ I (Sub.refl _) (Den.bl _) h⟩
theorem s_ne : R2s G X O (rNeD X.K) opNe .st := by
  intro B S H σ ρ ka kb v w x y Kc Q I r1 r2 h hq
  obtain ⟨⟨p1, p2, d1, d2⟩, h⟩ := h
  exact ⟨_, _, r1.dp I p1, r2.dp I p2, shaped_of p1 d1, shaped_of p2 d2, hq _ H S _ I (Sub.refl _) (Den.bl _) h⟩
/-- is None -/
def isN : D → Bool
  | .non => true
  | _ => false
def opIsN (x y : D) (P : D → Prop) : Prop := isN y = true ∧ P (.bl (isN x))
def opNotN (x y : D) (P : D → Prop) : Prop := isN y = true ∧ P (.bl (!isN x))
theorem isN_rel {B : Bs} {S : Fz} {H : Hp} {σ : L2.St} {ρ : EnvD} {k : Kd} {v : V} {d : D} (I : Eok G X.K O B S H σ ρ) (r : ROk G X.K B S H σ ρ v d k) : decide (v = .non) = isN d := by
  rcases r.own I with r | ⟨a, o, rfl, rfl, w⟩
  · cases r <;> rfl
  · cases o <;> rfl
theorem s_isN : R2s G X O (fun x y H Q => y = .non ∧ Q (.bl (decide (x = .non))) H) opIsN .st := by
  intro B S H σ ρ ka kb v w x y Kc Q I r1 r2 h hq
  obtain ⟨h1, h⟩ := h
  have e := isN_rel I r2
  rw [h1] at e
  refine ⟨of_decide_eq_true e, ?_⟩
  rw [isN_rel I r1]
  exact hq _ H S _ I (Sub.refl _) (Den.bl _) h
theorem s_notN : R2s G X O (fun x y H Q => y = .non ∧ Q (.bl (!decide (x = .non))) H) opNotN .st := by
  intro B S H σ ρ ka kb v w x y Kc Q I r1 r2 h hq
  obtain ⟨h1, h⟩ := h
  have e := isN_rel I r2
  rw [h1] at e
  refine ⟨of_decide_eq_true e, ?_⟩
  rw [isN_rel I r1]
  exact hq _ H S _ I (Sub.refl _) (Den.bl _) h
end
end WL

/-! WI: items, slices, membership, dicts over data. -/
namespace WL
open PySem PySem.Spec PyProof.Rows L2
/-! ### keys -/
def key1 : D → Option Key
  | .int i => some (.inl i)
  | .str x => some (.inr x)
  | _ => none
def keys1 : List D → Option (List Key)
  | [] => some []
  | d :: ds => (key1 d).bind fun k => (keys1 ds).map (k :: ·)
/-- the key that a datum is -/
def keyOf : D → Option (Key ⊕ List Key)
  | .tup xs => (keys1 xs).map .inr
  | d => (key1 d).map .inl
theorem key1_D (k : Key) : key1 (keyD k) = some k := by cases k <;> rfl
theorem keys1_D : ∀ ks : List Key, keys1 (ks.map keyD) = some ks
  | [] => rfl
  | k :: ks => by simp [keys1, key1_D, keys1_D ks]
theorem key1_inv {d : D} {k : Key} (h : key1 d = some k) : d = keyD k := by
  cases d <;> simp [key1] at h <;> subst h <;> rfl
theorem keys1_inv : ∀ {ds : List D} {ks : List Key}, keys1 ds = some ks → ds = ks.map keyD
  | [], ks, h => by simp [keys1] at h; subst h; rfl
  | d :: ds, ks, h => by
    unfold keys1 at h
    cases e : key1 d with
    | none => rw [e] at h; simp at h
    | some k =>
      rw [e] at h
      cases e2 : keys1 ds with
      | none => rw [e2] at h; simp at h
      | some l =>
        rw [e2] at h
        simp at h
        subst h
        rw [key1_inv e, keys1_inv e2]; rfl
theorem keyOf_k (k : Key) : keyOf (keyD k) = some (.inl k) := by cases k <;> rfl
theorem keyOf_t (ks : List Key) : keyOf (.tup (ks.map keyD)) = some (.inr ks) := by simp [keyOf, keys1_D]
theorem keyOf_inl {d : D} {k : Key} (h : keyOf d = some (.inl k)) : d = keyD k := by
  unfold keyOf at h
  split at h
  · simp at h
  · cases e : key1 d with
    | none => rw [e] at h; simp at h
    | some k' => rw [e] at h; simp at h; subst h; exact key1_inv e
theorem keyOf_inr {d : D} {ks : List Key} (h : keyOf d = some (.inr ks)) : d = .tup (ks.map keyD) := by
  unfold keyOf at h
  split at h
  · rename_i xs
    cases e : keys1 xs with
    | none => rw [e] at h; simp at h
    | some l => rw [e] at h; simp at h; subst h; rw [keys1_inv e]
  · cases e : key1 d with
    | none => rw [e] at h; simp at h
    | some k' => rw [e] at h; simp at h
/-- what a dict holds at a key -/
def lookD (ps : List (D × D)) (k : D) : Option D := (ps.find? fun p => decide (keyOf p.1 = keyOf k)).map (·.2)
/-- d[k] = y -/
def putD (ps : List (D × D)) (k y : D) : List (D × D) := if (ps.any fun p => decide (keyOf p.1 = keyOf k)) = true then ps.map fun p => if keyOf p.1 = keyOf k then (p.1, y) else p else ps ++ [(k, y)]
def RelOD (G : Glob) (K : PySem.W.Frag) (S : Fz) : Option V → Option D → Prop
  | some v, some d => Den G K S v d
  | none, none => True
  | _, _ => False
section
variable {G : Glob} {K : PySem.W.Frag} {S : Fz}
theorem DenK.look {kvs : List (Key × V)} {ps : List (D × D)} (h : DenK G K S kvs ps) (k : Key) : RelOD G K S (valV kvs k) (lookD ps (keyD k)) := by
  induction h with
  | nil => exact trivial
  | @cons a b l₁ l₂ r _ ih =>
    by_cases e : a.1 = k
    · rw [valV_pos e]
      have : keyOf b.1 = keyOf (keyD k) := by rw [r.1, e]
      simp only [lookD, List.find?_cons, this, decide_true]
      exact r.2
    · rw [valV_neg e]
      have : ¬ keyOf b.1 = keyOf (keyD k) := by
        rw [r.1, keyOf_k, keyOf_k]
        intro z; exact e (by simpa using z)
      simp only [lookD, List.find?_cons, this, decide_false]
      exact ih
theorem DenT.look {kvs : List (List Key × V)} {ps : List (D × D)} (h : DenT G K S kvs ps) (k : List Key) : RelOD G K S (valV kvs k) (lookD ps (.tup (k.map keyD))) := by
  induction h with
  | nil => exact trivial
  | @cons a b l₁ l₂ r _ ih =>
    by_cases e : a.1 = k
    · rw [valV_pos e]
      have : keyOf b.1 = keyOf (.tup (k.map keyD)) := by rw [r.1, e]
      simp only [lookD, List.find?_cons, this, decide_true]
      exact r.2
    · rw [valV_neg e]
      have : ¬ keyOf b.1 = keyOf (.tup (k.map keyD)) := by
        rw [r.1, keyOf_t, keyOf_t]
        intro z; exact e (by simpa using z)
      simp only [lookD, List.find?_cons, this, decide_false]
      exact ih
theorem paired_map {α β α' β' : Type} {F : α → β → Prop} {F' : α' → β' → Prop} {f : α → α'} {g : β → β'} (hf : ∀ a b, F a b → F' (f a) (g b)) {l : List α} {m : List β} (h : Paired F l m) : Paired F' (l.map f) (m.map g) := by
  induction h with
  | nil => exact .nil
  | cons r _ ih => exact .cons (hf _ _ r) ih
theorem DenK.anyk {kvs : List (Key × V)} {ps : List (D × D)} (h : DenK G K S kvs ps) (k : Key) : (ps.any fun p => decide (keyOf p.1 = keyOf (keyD k))) = kvs.any fun kv => decide (kv.1 = k) := by
  induction h with
  | nil => rfl
  | @cons a b l₁ l₂ r _ ih =>
    simp only [List.any_cons, ih]
    congr 1
    rw [r.1, keyOf_k, keyOf_k]
    simp
theorem DenT.anyk {kvs : List (List Key × V)} {ps : List (D × D)} (h : DenT G K S kvs ps) (k : List Key) : (ps.any fun p => decide (keyOf p.1 = keyOf (.tup (k.map keyD)))) = kvs.any fun kv => decide (kv.1 = k) := by
  induction h with
  | nil => rfl
  | @cons a b l₁ l₂ r _ ih =>
    simp only [List.any_cons, ih]
    congr 1
    rw [r.1, keyOf_t, keyOf_t]
    simp
theorem DenK.put {kvs : List (Key × V)} {ps : List (D × D)} (h : DenK G K S kvs ps) (k : Key) {v : V} {y : D} (r : Den G K S v y) : DenK G K S (putK kvs k v) (putD ps (keyD k) y) := by
  unfold putK putD
  rw [h.anyk k]
  split
  · refine paired_map (fun a b r' => ?_) h
    by_cases e : a.1 = k
    · have : keyOf b.1 = keyOf (keyD k) := by rw [r'.1, e]
      rw [if_pos e, if_pos this]; exact ⟨r'.1, r⟩
    · have : ¬ keyOf b.1 = keyOf (keyD k) := by
        rw [r'.1, keyOf_k, keyOf_k]
        intro z; exact e (by simpa using z)
      rw [if_neg e, if_neg this]; exact r'
  · exact h.snoc ⟨rfl, r⟩
theorem DenT.put {kvs : List (List Key × V)} {ps : List (D × D)} (h : DenT G K S kvs ps) (k : List Key) {v : V} {y : D} (r : Den G K S v y) : DenT G K S (putK kvs k v) (putD ps (.tup (k.map keyD)) y) := by
  unfold putK putD
  rw [h.anyk k]
  split
  · refine paired_map (fun a b r' => ?_) h
    by_cases e : a.1 = k
    · have : keyOf b.1 = keyOf (.tup (k.map keyD)) := by rw [r'.1, e]
      rw [if_pos e, if_pos this]; exact ⟨r'.1, r⟩
    · have : ¬ keyOf b.1 = keyOf (.tup (k.map keyD)) := by
        rw [r'.1, keyOf_t, keyOf_t]
        intro z; exact e (by simpa using z)
      rw [if_neg e, if_neg this]; exact r'
  · exact h.snoc ⟨rfl, r⟩
end
/-- is the key of the dict's kind (a tuple, or a number or text)? -/
def isT : D → Bool
  | .tup _ => true
  | _ => false
def fits (ps : List (D × D)) (k : D) : Bool := (keyOf k).isSome && match ps with
  | [] => !isT k
  | p :: _ => isT p.1 == isT k
theorem fits_inl {ps : List (D × D)} {k : D} (h : fits ps k = true) : (∃ k', k = keyD k' ∧ ∀ p ps', ps = p :: ps' → isT p.1 = false) ∨ ∃ ks p ps', k = D.tup (List.map keyD ks) ∧ ps = p :: ps' ∧ isT p.1 = true := by
  unfold fits at h
  simp only [Bool.and_eq_true] at h
  obtain ⟨h1, h2⟩ := h
  obtain ⟨q, hq⟩ := Option.isSome_iff_exists.mp h1
  cases q with
  | inl k' =>
    have e := keyOf_inl hq
    have ht : isT k = false := by rw [e]; cases k' <;> rfl
    refine .inl ⟨k', e, fun p ps' ep => ?_⟩
    rw [ep, ht] at h2
    simpa using h2
  | inr ks =>
    have e := keyOf_inr hq
    have ht : isT k = true := by rw [e]; rfl
    cases ps with
    | nil => rw [ht] at h2; simp at h2
    | cons p ps' =>
      rw [ht] at h2
      exact .inr ⟨ks, p, ps', e, rfl, by simpa using h2⟩
section
variable {G : Glob} {X : Cx} {O : XO} {B : Bs} {S : Fz} {H : Hp} {σ : L2.St} {ρ : EnvD} {k ka : Kd} {v : V}
theorem keyD_notT (k : Key) : isT (keyD k) = false := by cases k <;> rfl
theorem den_key {K : PySem.W.Frag} {w : V} {k : Key} (r : Den G K S w (keyD k)) : w = kV k := by
  cases k <;> cases r <;> rfl
theorem den_keys {K : PySem.W.Frag} : ∀ {ks : List Key} {ws : List V}, DenL G K S ws (ks.map keyD) → ws = ks.map kV
  | [], _, h => by cases h; rfl
  | k :: ks, _, h => by
    cases h with
    | cons r t => rw [den_key r, den_keys t]; rfl
/-- what the dict tells at a key -/
theorem ROk.dget {ps : List (D × D)} {w : V} {y : D} (I : Eok G X.K O B S H σ ρ) (r : ROk G X.K B S H σ ρ v (.dct ps) k) (ry : Den G X.K S w y) (h : fits ps y = true) : ∃ a o, v = .ref a ∧ DGet H a w o ∧ RelOD G X.K S o (lookD ps y) := by
  obtain ⟨a, rfl, hd⟩ := r.dct I
  rcases fits_inl h with ⟨k', rfl, hn⟩ | ⟨ks, p, ps', rfl, rfl, ht⟩
  · obtain rfl := den_key ry
    rcases hd with ⟨kvs, hr, dk⟩ | ⟨kvs, hr, nn, dt⟩
    · exact ⟨a, _, rfl, .inl ⟨kvs, k', hr, rfl, rfl⟩, dk.look k'⟩
    · cases dt with
      | nil => exact absurd rfl nn
      | cons q _ =>
        have := hn _ _ rfl
        rw [q.1] at this
        simp [isT] at this
  · obtain ⟨b, ws, rfl, hb, lb⟩ := ry.tup_inv
    obtain rfl := den_keys lb
    rcases hd with ⟨kvs, hr, dk⟩ | ⟨kvs, hr, nn, dt⟩
    · cases dk with
      | cons q _ => rw [q.1, keyD_notT] at ht; cases ht
    · exact ⟨a, _, rfl, .inr ⟨kvs, ks, b, hr, rfl, I.le _ _ hb, rfl⟩, dt.look ks⟩
/-- d[k], xs[i], t[i], text[i] -/
abbrev rIxD : R2 := fun x y H Q => ∃ a v, x = .ref a ∧ DGet H a y (some v) ∧ Q v H
theorem ix_dict (hu : X.A.units + 1 < cLine) : IxR X rIxD := by
  intro value slice pins s σ H x y v u Q I rx ry h hs
  obtain ⟨a, w, rfl, g, q⟩ := h
  obtain rfl : v = Value.ref a := rx
  exact tail_any (dict_typeIs I g) PySem.F.slot_dict_getitem.lookup (d_getItem hu I g ry fun w' s3 I3 rw' => ⟨w, H, I3, rw', q⟩) hs
def opIx (x y : D) (P : D → Prop) : Prop := match x, y with
  | .lst xs, .int i => match atI xs i with | some d => P d | none => False
  | .tup xs, .int i => match atI xs i with | some d => P d | none => False
  | .str z, .int i => z.length ≤ sizeLine ∧ match atI z.cps.toList i with | some c => P (.str ⟨#[c]⟩) | none => False
  | .dct ps, k => fits ps k = true ∧ match lookD ps k with | some d => P d | none => False
  | _, _ => False
abbrev rIxA (K : PySem.W.Frag) : R2 := fun x y H Q => rIx K x y H Q ∨ rIxD x y H Q
theorem atI_paired {K : PySem.W.Frag} {vs : List V} {ds : List D} {i : Int} {d : D} (r : DenL G K S vs ds) (h : atI ds i = some d) : ∃ v, atI vs i = some v ∧ Den G K S v d := by
  unfold atI at h ⊢
  rw [r.length]
  cases e : ixN ds.length i with
  | none => rw [e] at h; simp at h
  | some j =>
    rw [e] at h
    have hj := (ixN_seq e).2.1
    obtain ⟨v, d', e1, e2, q⟩ := paired_some r hj
    have h : ds[j]? = some d := h
    rw [e2] at h; cases h
    exact ⟨v, e1, q⟩
theorem s_ix : R2s G X O (rIxA X.K) opIx .st := by
  intro B S H σ ρ ka kb v w x y Kc Q I r1 r2 h hq
  unfold opIx at h
  split at h
  · split at h
    · rename_i e
      obtain ⟨a, vs, rfl, ha, la⟩ := r1.lst I
      obtain rfl := r2.int I
      obtain ⟨z, ez, dz⟩ := atI_paired la e
      exact .inl (.inl ⟨a, vs, _, z, rfl, rfl, SqL.of ha, ez, hq _ H S _ I (Sub.refl _) dz h⟩)
    · exact h.elim
  · split at h
    · rename_i e
      obtain ⟨a, vs, rfl, ha, la⟩ := r1.tup I
      obtain rfl := r2.int I
      obtain ⟨z, ez, dz⟩ := atI_paired la e
      exact .inl (.inr (.inl ⟨a, vs, _, z, rfl, rfl, SqT.of ha, ez, hq _ H S _ I (Sub.refl _) dz h⟩))
    · exact h.elim
  · obtain ⟨hz, h⟩ := h
    split at h
    · rename_i e
      obtain rfl := r1.str I
      obtain rfl := r2.int I
      exact .inl (.inr (.inr ⟨_, _, _, rfl, rfl, hz, e, hq _ H S _ I (Sub.refl _) (Den.str _) h⟩))
    · exact h.elim
  · obtain ⟨hf, h⟩ := h
    have rw' : Den G X.K S w y := r2.flat I fun o z => by
      rw [z] at hf
      cases o <;> simp [fits, Own.d, keyOf, key1] at hf
    obtain ⟨a, o, rfl, g, ro⟩ := r1.dget I rw' hf
    split at h
    · rename_i e
      rw [e] at ro
      cases o with
      | none => exact ro.elim
      | some z => exact .inr ⟨a, z, rfl, g, hq _ H S _ I (Sub.refl _) ro h⟩
    · exact h.elim
  · exact h.elim
theorem e_ix {a b : Expr} {ca cb : Bool} {na nb : Nat} {fa fb : FE} {kb : Kd} {pos : Pos} (hu : X.A.units + 1 < cLine) (ha : PDe G X O a ka ca na fa) (hb : PDe G X O b kb cb nb fb) (hk : okK ka cb = true := by rfl) (hs : PlainIx b := by exact fun _ _ => rfl) :
    PDe G X O (.Subscript a b pos) .st (ca && cb) (na + nb) (fOp opIx fa fb) := by
  obtain ⟨ta, pa, qa⟩ := ha.run
  obtain ⟨tb, pb, qb⟩ := hb.run
  exact ⟨_, pe_ix (ix_seq.or (ix_dict hu)) pa pb hs, e_opT s_ix hk qa qb⟩

/-! ### in, not in -/
/-- one text within another -/
def subS (a b : Str) : Bool := !(Builtin.Str.occurrences b a 0 b.length 1).isEmpty
def flatD : D → Bool
  | .non => true
  | .bl _ => true
  | .int _ => true
  | .str _ => true
  | _ => false
def eqF : D → D → Bool
  | .non, .non => true
  | .bl a, .bl b => a == b
  | .bl a, .int b => (if a then 1 else 0) == b
  | .int a, .bl b => a == (if b then 1 else 0)
  | .int a, .int b => a == b
  | .str a, .str b => a == b
  | _, _ => false
def memF (x : D) (xs : List D) : Bool := xs.any fun y => eqF y x
def isIn (x y : D) (P : Bool → Prop) : Prop := match y with
  | .str b => match x with | .str a => P (subS a b) | _ => False
  | .lst xs => (flatD x = true ∧ xs.all flatD = true) ∧ P (memF x xs)
  | .tup xs => (flatD x = true ∧ xs.all flatD = true) ∧ P (memF x xs)
  | .wtp xs => (flatD x = true ∧ xs.all flatD = true) ∧ P (memF x xs)
  | .dct ps => fits ps x = true ∧ P (lookD ps x).isSome
  | _ => False
theorem flat_den {K : PySem.W.Frag} {d : D} (r : Den G K S v d) (h : flatD d = true) : flatV v = true := by
  cases r <;> simp [flatD] at h <;> rfl
theorem eqF_den {K : PySem.W.Frag} {w : V} {d e : D} (r : Den G K S v d) (q : Den G K S w e) (h : flatD d = true) (h' : flatD e = true) : eqV v w = eqF d e := by
  cases r <;> simp [flatD] at h <;> cases q <;> simp [flatD] at h' <;> rfl
theorem flats_den {K : PySem.W.Frag} {vs : List V} {ds : List D} (r : DenL G K S vs ds) (h : ds.all flatD = true) : vs.all flatV = true := by
  induction r with
  | nil => rfl
  | cons q _ ih =>
    simp only [List.all_cons, Bool.and_eq_true] at h ⊢
    exact ⟨flat_den q h.1, ih h.2⟩
theorem memF_den {K : PySem.W.Frag} {x : D} {vs : List V} {ds : List D} (r : DenL G K S vs ds) (q : Den G K S v x) (hx : flatD x = true) (h : ds.all flatD = true) : inV v vs = memF x ds := by
  unfold inV memF
  induction r with
  | nil => rfl
  | cons q' _ ih =>
    simp only [List.all_cons, Bool.and_eq_true] at h
    simp only [List.any_cons, eqF_den q' q h.1 hx, ih h.2]
abbrev rInA (K : PySem.W.Frag) (neg : Bool) : R2 := fun x y H Q => rIn K neg x y H Q ∨ (∃ i j, x = .str i ∧ y = .str j ∧ Q (.bl (if neg then !subS i j else subS i j)) H) ∨ ∃ a o, y = .ref a ∧ DGet H a x o ∧ Q (.bl (if neg then !o.isSome else o.isSome)) H
theorem op_inA (hu : X.A.units + 1 < cLine) : OpR X (compareOp .In) (rInA X.K false) := by
  refine op_in_seq.or (OpR.or (fun pins s σ H x y v u Q I rx ry h => ?_) fun pins s σ H x y v u Q I rx ry h => ?_)
  · exact op_in_str pins s σ H x y v u Q I rx ry h
  · obtain ⟨a, o, rfl, g, q⟩ := h
    obtain rfl : u = Value.ref a := ry
    exact d_in hu I g rx fun s3 I3 => ⟨.bl o.isSome, H, I3, rfl, q⟩
theorem op_notInA (hu : X.A.units + 1 < cLine) : OpR X (compareOp .NotIn) (rInA X.K true) := by
  refine op_notIn_seq.or (OpR.or (fun pins s σ H x y v u Q I rx ry h => ?_) fun pins s σ H x y v u Q I rx ry h => ?_)
  · exact op_notIn_str pins s σ H x y v u Q I rx ry h
  · obtain ⟨a, o, rfl, g, q⟩ := h
    obtain rfl : u = Value.ref a := ry
    exact d_notIn hu I g rx fun s3 I3 => ⟨.bl (!o.isSome), H, I3, rfl, q⟩
def opIn (neg : Bool) (x y : D) (P : D → Prop) : Prop := isIn x y fun b => P (.bl (if neg then !b else b))
theorem s_in {neg : Bool} : R2s G X O (rInA X.K neg) (opIn neg) .st := by
  intro B S H σ ρ ka kb v w x y Kc Q I r1 r2 h hq
  unfold opIn isIn at h
  have fx : ∀ {P : Prop}, (flatD x = true → Den G X.K S v x → P) → flatD x = true → P := fun f hx => f hx (r1.flat I fun o z => by rw [z] at hx; cases o <;> simp [flatD, Own.d] at hx)
  have fin : ∀ {b : Bool}, Kc (.bl (if neg then !b else b)) → Q (.bl (if neg then !b else b)) H := fun h => hq _ H S _ I (Sub.refl _) (Den.bl _) h
  split at h
  · split at h
    · obtain rfl := r1.str I
      obtain rfl := r2.str I
      exact .inr (.inl ⟨_, _, rfl, rfl, fin h⟩)
    · exact h.elim
  · obtain ⟨⟨hx, hs⟩, h⟩ := h
    obtain ⟨b, ws, rfl, hb, lb⟩ := r2.lst I
    refine fx (fun _ rx => .inl ⟨b, ws, rfl, .inl (SqL.of hb), flat_den rx hx, flats_den lb hs, ?_⟩) hx
    rw [memF_den lb rx hx hs]; cases neg <;> exact fin h
  · obtain ⟨⟨hx, hs⟩, h⟩ := h
    obtain ⟨b, ws, rfl, hb, lb⟩ := r2.tup I
    refine fx (fun _ rx => .inl ⟨b, ws, rfl, .inr (SqT.of hb), flat_den rx hx, flats_den lb hs, ?_⟩) hx
    rw [memF_den lb rx hx hs]; cases neg <;> exact fin h
  · obtain ⟨⟨hx, hs⟩, h⟩ := h
    have r2' := r2.flat I fun o z => by cases o <;> cases z
    cases r2' with
    | @wtp b ws ds hb hl hr =>
      have lb : DenL G X.K S ws _ := paired_of hl hr
      refine fx (fun _ rx => .inl ⟨b, ws, rfl, .inr (hb H), flat_den rx hx, flats_den lb hs, ?_⟩) hx
      rw [memF_den lb rx hx hs]; cases neg <;> exact fin h
  · rename_i ps
    obtain ⟨hf, h⟩ := h
    have rx : Den G X.K S v x := r1.flat I fun o z => by
      rw [z] at hf
      cases o <;> simp [fits, Own.d, keyOf, key1] at hf
    obtain ⟨a, o, rfl, g, ro⟩ := r2.dget I rx hf
    have e : o.isSome = (lookD ps x).isSome := by
      cases o <;> cases hl : lookD ps x <;> rw [hl] at ro <;> first | rfl | exact ro.elim
    refine .inr (.inr ⟨a, o, rfl, g, ?_⟩)
    rw [e]; exact fin h
  · exact h.elim
end
end WL

/-! WJ: slices, built-in functions and methods over data, keywords. -/
namespace WL
open PySem PySem.Spec PyProof.Rows L2
section
variable {G : Glob} {X : Cx} {O : XO} {k ka kb : Kd} {c ca cb : Bool} {n na nb : Nat} {e a b : Expr} {f fa fb : FE} {pos p p2 : Pos} {x : Str}
/-! ### slices -/
abbrev FO := EnvD → (EnvD → Option Int → Prop) → Prop
structure PDo (G : Glob) (X : Cx) (O : XO) (e : Option Expr) (c : Bool) (n : Nat) (f : FO) : Prop where
  run : ∃ t, PO X e t ∧ ∀ (B : Bs) (S : Fz) (H : Hp) (σ : L2.St) (ρ : EnvD) (Kc : EnvD → Option Int → Prop) (Q : Option Int → Hp → Prop), Eok G X.K O B S H σ ρ → S.T + n ≤ limT → f ρ Kc →
    (∀ i H' S' ρ', Eok G X.K O B S' H' σ ρ' → Sub n S S' → (c = true → ρ' = ρ) → Kc ρ' i → Q i H') → t σ H Q
def fNoO : FO := fun ρ Kc => Kc ρ none
def intOf (d : D) (P : Int → Prop) : Prop := match d with
  | .int i => P i
  | _ => False
theorem intOf_inv {d : D} {P : Int → Prop} (h : intOf d P) : ∃ i, d = .int i ∧ P i := by
  cases d <;> first | exact ⟨_, rfl, h⟩ | exact h.elim
def fSomeO (f : FE) : FO := fun ρ Kc => f ρ fun ρ' d => intOf d fun i => Kc ρ' (some i)
theorem o_none : PDo G X O none true 0 fNoO := ⟨_, po_none, fun B S H σ ρ Kc Q I hb hf hq => hq _ H S ρ I (Sub.refl _) (fun _ => rfl) hf⟩
theorem o_some (h : PDe G X O e k c n f) : PDo G X O (some e) c n (fSomeO f) := by
  obtain ⟨t, pt, q⟩ := h.run
  refine ⟨_, po_some pt, fun B S H σ ρ Kc Q I hb hf hq => ?_⟩
  refine q B S H σ ρ _ _ I (by omega) hf fun v H1 S1 ρ1 d I1 m1 c1 r1 h1 => ?_
  obtain ⟨i, rfl, h2⟩ := intOf_inv h1
  exact ⟨i, r1.int I1, hq _ H1 S1 ρ1 I1 m1 c1 h2⟩
def cutL {α : Type} (xs : List α) (lo hi : Option Int) : List α := (xs.drop (HT.sIx xs.length 0 lo)).take (HT.sIx xs.length xs.length hi - HT.sIx xs.length 0 lo)
theorem paired_drop {α β : Type} {F : α → β → Prop} {l : List α} {m : List β} (h : Paired F l m) : ∀ n, Paired F (l.drop n) (m.drop n) := by
  induction h with
  | nil => intro n; simp; exact .nil
  | cons r t ih =>
    intro n
    cases n with
    | zero => exact .cons r t
    | succ n => exact ih n
theorem paired_take {α β : Type} {F : α → β → Prop} {l : List α} {m : List β} (h : Paired F l m) : ∀ n, Paired F (l.take n) (m.take n) := by
  induction h with
  | nil => intro n; simp; exact .nil
  | cons r t ih =>
    intro n
    cases n with
    | zero => exact .nil
    | succ n => exact .cons r (ih n)
theorem cut_paired {K : PySem.W.Frag} {S : Fz} {vs : List V} {ds : List D} (r : DenL G K S vs ds) (lo hi : Option Int) : DenL G K S (cutV vs lo hi) (cutL ds lo hi) := by
  unfold cutV cutL
  rw [r.length]
  exact paired_take (paired_drop r _) _
abbrev rSlA' (K : PySem.W.Frag) : V → Option Int → Option Int → Hp → VK → Prop := fun x lo hi H Q => rSlL K x lo hi H Q ∨ rSlA K x lo hi H Q ∨ rSlS x lo hi H Q
def opSl (x : D) (lo hi : Option Int) (P : D → Prop) : Prop := match x with
  | .lst xs => P (.lst (cutL xs lo hi))
  | .tup xs => P (.tup (cutL xs lo hi))
  | .str z => z.length ≤ sizeLine ∧ P (.str (cutS z lo hi))
  | _ => False
def fSl (g : D → Option Int → Option Int → (D → Prop) → Prop) (fa : FE) (fl fh : FO) : FE := fun ρ Kc => fa ρ fun ρ1 x => fl ρ1 fun ρ2 l => fh ρ2 fun ρ3 u => g x l u (Kc ρ3)
theorem e_slT {lo hi : Option Expr} {cl ch : Bool} {nl nh : Nat} {fl fh : FO} {r : V → Option Int → Option Int → Hp → VK → Prop} {g} (hr : SlR X r)
    (hs : ∀ (B : Bs) (S : Fz) (H : Hp) (σ : L2.St) (ρ : EnvD) (v : V) (x : D) (l u : Option Int) (Kc : D → Prop) (Q : VK), Eok G X.K O B S H σ ρ → ROk G X.K B S H σ ρ v x ka → g x l u Kc → (∀ z H' S' d, Eok G X.K O B S' H' σ ρ → Sub 0 S S' → ROk G X.K B S' H' σ ρ z d k → Kc d → Q z H') → r v l u H Q)
    (ha : PDe G X O a ka ca na fa) (hl : PDo G X O lo cl nl fl) (hh : PDo G X O hi ch nh fh) (hk : okK ka (cl && ch) = true) : PDe G X O (.Subscript a (.Slice lo hi none p2) pos) k (ca && (cl && ch)) (na + (nl + nh)) (fSl g fa fl fh) := by
  obtain ⟨ta, pa, qa⟩ := ha.run
  obtain ⟨tl, pl, ql⟩ := hl.run
  obtain ⟨th, ph, qh⟩ := hh.run
  refine ⟨_, pe_slice hr pa pl ph, fun B S H σ ρ Kc Q I hb hf hq => ?_⟩
  refine qa B S H σ ρ _ _ I (by omega) hf fun v H1 S1 ρ1 x I1 m1 c1 r1 h1 => ?_
  refine ql B S1 H1 σ ρ1 _ _ I1 (by have := m1.lo; omega) h1 fun l H2 S2 ρ2 I2 m2 c2 h2 => ?_
  refine qh B S2 H2 σ ρ2 _ _ I2 (by have := m1.lo; have := m2.lo; omega) h2 fun u H3 S3 ρ3 I3 m3 c3 h3 => ?_
  have cc : (cl && ch) = true → ρ3 = ρ1 := fun z => by
    have := Bool.and_eq_true_iff.mp z
    rw [c3 this.2, c2 this.1]
  have r3 := ROk.later (S' := S3) (H' := H3) r1 (m2.trans m3) (okK_use hk cc)
  refine hs B S3 H3 σ ρ3 v x l u _ Q I3 r3 h3 fun z H4 S4 d I4 m4 r4 h4 => ?_
  exact hq z H4 S4 ρ3 d I4 ((m1.trans (m2.trans m3)).t0 m4) (fun z => by
    have := Bool.and_eq_true_iff.mp z
    rw [cc this.2, c1 this.1]) r4 h4
theorem e_sl {lo hi : Option Expr} {cl ch : Bool} {nl nh : Nat} {fl fh : FO} (ha : PDe G X O a ka ca na fa) (hl : PDo G X O lo cl nl fl) (hh : PDo G X O hi ch nh fh) (hk : okK ka (cl && ch) = true := by rfl) :
    PDe G X O (.Subscript a (.Slice lo hi none p2) pos) .st (ca && (cl && ch)) (na + (nl + nh)) (fSl opSl fa fl fh) := by
  refine e_slT (sl_list.or (sl_tupA.or sl_str)) (fun B S H σ ρ v x l u Kc Q I r h hq => ?_) ha hl hh hk
  unfold opSl at h
  split at h
  · obtain ⟨a, vs, rfl, ha, la⟩ := r.lst I
    refine .inl ⟨a, vs, rfl, SqL.of ha, fun p hp => ?_⟩
    obtain ⟨I', m⟩ := I.laysF (u := .lst (cutV vs l u)) hp
    exact hq _ _ _ _ I' m (den_lst Fz.put_same (DenL.mono m (cut_paired la l u))) h
  · rename_i xs
    obtain ⟨a, vs, rfl, ha, la⟩ := r.tup I
    have ra := r.flat I fun o z => by cases o <;> cases z
    refine .inr (.inl ⟨a, vs, rfl, SqT.of ha, fun e => ?_, fun _ p hp => ?_⟩)
    · have : cutL xs l u = xs := by
        unfold cutL
        rw [la.length] at e
        rw [e.1, e.2]; simp
      rw [this] at h
      exact hq _ _ _ _ I (Sub.refl _) ra h
    · obtain ⟨I', m⟩ := I.laysF (u := .tup (cutV vs l u)) hp
      exact hq _ _ _ _ I' m (den_tup Fz.put_same (DenL.mono m (cut_paired la l u))) h
  · obtain rfl := r.str I
    exact .inr (.inr ⟨_, rfl, h.1, hq _ _ _ _ I (Sub.refl _) (Den.str _) h.2⟩)
  · exact h.elim
/-- a list's part, one's own -/
def opSlL (x : D) (lo hi : Option Int) (P : D → Prop) : Prop := match x with
  | .lst xs => P (.lst (cutL xs lo hi))
  | _ => False
theorem e_slL {lo hi : Option Expr} {cl ch : Bool} {nl nh : Nat} {fl fh : FO} (ha : PDe G X O a ka ca na fa) (hl : PDo G X O lo cl nl fl) (hh : PDo G X O hi ch nh fh) (hk : okK ka (cl && ch) = true := by rfl) :
    PDe G X O (.Subscript a (.Slice lo hi none p2) pos) .fr (ca && (cl && ch)) (na + (nl + nh)) (fSl opSlL fa fl fh) := by
  refine e_slT sl_list (fun B S H σ ρ v x l u Kc Q I r h hq => ?_) ha hl hh hk
  unfold opSlL at h
  split at h
  · obtain ⟨a, vs, rfl, ha, la⟩ := r.lst I
    refine ⟨a, vs, rfl, SqL.of ha, fun p hp => ?_⟩
    obtain ⟨I', r'⟩ := I.lays (u := .lst (cutV vs l u)) (o := .lst _) hp ⟨_, upd_same, cut_paired la l u⟩
    exact hq _ _ _ _ I' (Sub.refl _) r' h
  · exact h.elim

/-! ### len -/
def lenD (x : D) (P : D → Prop) : Prop := match x with
  | .lst xs => P (.int (xs.length : Nat))
  | .tup xs => P (.int (xs.length : Nat))
  | .wtp xs => P (.int (xs.length : Nat))
  | .str z => z.length ≤ sizeLine ∧ P (.int (z.length : Nat))
  | .dct ps => P (.int (ps.length : Nat))
  | .wls xs => P (.int (xs.length : Nat))
  | _ => False
abbrev rLenA (K : PySem.W.Frag) : V → Hp → VK → Prop := fun x H Q => (∃ n, LenV K x H n ∧ Q (.int (n : Nat)) H) ∨ (∃ a kvs, x = .ref a ∧ Rd H a (.dK kvs) ∧ Q (.int (kvs.length : Nat)) H) ∨ ∃ a kvs, x = .ref a ∧ Rd H a (.dT kvs) ∧ Q (.int (kvs.length : Nat)) H
theorem call_lenA : CallR X (.builtin "len") (fun xs H Q => ∃ x, xs = [x] ∧ rLenA X.K x H Q) := by
  intro pins s σ H xs us Q I r h
  obtain ⟨x, rfl, h | ⟨a, kvs, rfl, hr, q⟩ | ⟨a, kvs, rfl, hr, q⟩⟩ := h
  · obtain ⟨n, hl, q⟩ := h
    exact call_len pins s σ H _ us Q I r ⟨x, n, rfl, hl, q⟩
  · obtain ⟨u, rfl, rx⟩ := vals1 r
    obtain rfl : u = Value.ref a := rx
    exact d_len I hr fun t s' I' => ⟨.int (kvs.length : Nat), H, I', ⟨t, rfl⟩, q⟩
  · obtain ⟨u, rfl, rx⟩ := vals1 r
    obtain rfl : u = Value.ref a := rx
    obtain ⟨z, hd, ys, rel, dd⟩ := dt_rd I.hok hr
    have hl : kvs.length = ys.length := Paired.length rel
    refine call_len_dictH hd dd (by rw [← hl]; rw [sizeLine_eq] at z; omega) ?_
    rw [← hl]
    exact ⟨.int ((kvs.length : Nat) : Int), H, I.tok _, ⟨_, rfl⟩, q⟩
theorem s_len : R1s G X O (rLenA X.K) lenD .st := by
  intro B S H σ ρ ka v x Kc Q I r h hq
  unfold lenD at h
  split at h
  · obtain ⟨a, vs, rfl, ha, la⟩ := r.lst I
    refine .inl ⟨_, .inl ⟨vs, SqL.of ha, rfl⟩, ?_⟩
    rw [la.length]; exact hq _ H S _ I (Sub.refl _) (Den.int _) h
  · obtain ⟨a, vs, rfl, ha, la⟩ := r.tup I
    refine .inl ⟨_, .inr ⟨vs, SqT.of ha, rfl⟩, ?_⟩
    rw [la.length]; exact hq _ H S _ I (Sub.refl _) (Den.int _) h
  · have r' := r.flat I fun o z => by cases o <;> cases z
    cases r' with
    | @wtp a vs ds ha hl hr =>
      refine .inl ⟨_, .inr ⟨vs, ha H, rfl⟩, ?_⟩
      rw [hl]; exact hq _ H S _ I (Sub.refl _) (Den.int _) h
  · obtain rfl := r.str I
    exact .inl ⟨_, ⟨h.1, rfl⟩, hq _ H S _ I (Sub.refl _) (Den.int _) h.2⟩
  · obtain ⟨a, rfl, ⟨kvs, hr, l⟩ | ⟨kvs, hr, n, l⟩⟩ := r.dct I
    · refine .inr (.inl ⟨a, kvs, rfl, hr, ?_⟩)
      rw [l.length]; exact hq _ H S _ I (Sub.refl _) (Den.int _) h
    · refine .inr (.inr ⟨a, kvs, rfl, hr, ?_⟩)
      rw [l.length]; exact hq _ H S _ I (Sub.refl _) (Den.int _) h
  · have r' := r.flat I fun o z => by cases o <;> cases z
    obtain ⟨a, vs, rfl, e0, _, l⟩ := r'.wls_inv
    refine .inl ⟨_, .inl ⟨vs, e0 _ I.le, rfl⟩, ?_⟩
    rw [l.length]; exact hq _ H S _ I (Sub.refl _) (Den.int _) h
  · exact h.elim
theorem e_len (ha : PDe G X O e ka ca na fa) (hm : X.mg "len" = none) (hg : Gl X "len" := by rfl) (he : starEach [e] X.env = (false, eval e X.env) :: starEach [] X.env := by rfl) : PDe G X O (.Call (.Name "len" p) [e] [] pos) .st ca na (fUn lenD fa) :=
  e_callB1 call_lenA (fun v H Q h => ⟨v, rfl, h⟩) s_len ha hm hg PySem.boot_len (by decide) (by decide) he

/-! ### all, any, sum -/
def boolsL : List D → Option (List Bool)
  | [] => some []
  | .bl b :: r => (boolsL r).map (b :: ·)
  | _ :: _ => none
def intsL : List D → Option (List Int)
  | [] => some []
  | .int i :: r => (intsL r).map (i :: ·)
  | _ :: _ => none
theorem boolsL_inv {K : PySem.W.Frag} {S : Fz} : ∀ {ds : List D} {bs : List Bool} {vs : List V}, boolsL ds = some bs → DenL G K S vs ds → vs = bs.map V.bl
  | [], bs, vs, h, r => by cases r; simp [boolsL] at h; subst h; rfl
  | d :: ds, bs, vs, h, r => by
    cases r with
    | cons r1 r2 =>
      cases d <;> simp [boolsL] at h
      obtain ⟨l, e1, rfl⟩ := h
      rw [Den.bl_inv r1, boolsL_inv e1 r2]; rfl
theorem intsL_inv {K : PySem.W.Frag} {S : Fz} : ∀ {ds : List D} {bs : List Int} {vs : List V}, intsL ds = some bs → DenL G K S vs ds → vs = bs.map V.int
  | [], bs, vs, h, r => by cases r; simp [intsL] at h; subst h; rfl
  | d :: ds, bs, vs, h, r => by
    cases r with
    | cons r1 r2 =>
      cases d <;> simp [intsL] at h
      obtain ⟨l, e1, rfl⟩ := h
      rw [Den.int_inv r1, intsL_inv e1 r2]; rfl
theorem boolsL_map (bs : List Bool) : boolsL (bs.map D.bl) = some bs := by
  induction bs with
  | nil => rfl
  | cons b bs ih => simp [boolsL, ih]
theorem intsL_map (bs : List Int) : intsL (bs.map D.int) = some bs := by
  induction bs with
  | nil => rfl
  | cons b bs ih => simp [intsL, ih]
def allD (x : D) (P : D → Prop) : Prop := lstOf x fun ds => match boolsL ds with | some bs => P (.bl (bs.all id)) | none => False
def anyD (x : D) (P : D → Prop) : Prop := lstOf x fun ds => match boolsL ds with | some bs => P (.bl (bs.any id)) | none => False
def sumD (x : D) (P : D → Prop) : Prop := lstOf x fun ds => match intsL ds with | some bs => P (.int bs.sum) | none => False
theorem s_all : R1s G X O (fun x => rAll X.K [x]) allD .st := by
  intro B S H σ ρ ka v x Kc Q I r h hq
  obtain ⟨ds, rfl, h2⟩ := lstOf_inv h
  replace h := h2; clear h2
  obtain ⟨a, vs, rfl, ha, la⟩ := r.lst I
  split at h
  · rename_i bs e
    exact ⟨a, bs, rfl, by rw [← boolsL_inv e la]; exact SqL.of ha, hq _ H S _ I (Sub.refl _) (Den.bl _) h⟩
  · exact h.elim
theorem s_any : R1s G X O (fun x => rAny X.K [x]) anyD .st := by
  intro B S H σ ρ ka v x Kc Q I r h hq
  obtain ⟨ds, rfl, h2⟩ := lstOf_inv h
  replace h := h2; clear h2
  obtain ⟨a, vs, rfl, ha, la⟩ := r.lst I
  split at h
  · rename_i bs e
    exact ⟨a, bs, rfl, by rw [← boolsL_inv e la]; exact SqL.of ha, hq _ H S _ I (Sub.refl _) (Den.bl _) h⟩
  · exact h.elim
theorem s_sum : R1s G X O (fun x => rSum X.K [x]) sumD .st := by
  intro B S H σ ρ ka v x Kc Q I r h hq
  obtain ⟨ds, rfl, h2⟩ := lstOf_inv h
  replace h := h2; clear h2
  obtain ⟨a, vs, rfl, ha, la⟩ := r.lst I
  split at h
  · rename_i bs e
    exact ⟨a, bs, rfl, by rw [← intsL_inv e la]; exact SqL.of ha, hq _ H S _ I (Sub.refl _) (Den.int _) h⟩
  · exact h.elim
theorem e_all (hc : X.calm = true) (ha : PDe G X O e ka ca na fa) (hm : X.mg "all" = none) (hg : Gl X "all" := by rfl) (he : starEach [e] X.env = (false, eval e X.env) :: starEach [] X.env := by rfl) : PDe G X O (.Call (.Name "all" p) [e] [] pos) .st ca na (fUn allD fa) :=
  e_callB1 (cr_all hc) (fun v H Q h => h) s_all ha hm hg (by rfl) (by decide) (by decide) he
theorem e_any (hc : X.calm = true) (ha : PDe G X O e ka ca na fa) (hm : X.mg "any" = none) (hg : Gl X "any" := by rfl) (he : starEach [e] X.env = (false, eval e X.env) :: starEach [] X.env := by rfl) : PDe G X O (.Call (.Name "any" p) [e] [] pos) .st ca na (fUn anyD fa) :=
  e_callB1 (cr_any hc) (fun v H Q h => h) s_any ha hm hg (by rfl) (by decide) (by decide) he
theorem e_sum (hc : X.calm = true) (ha : PDe G X O e ka ca na fa) (hm : X.mg "sum" = none) (hg : Gl X "sum" := by rfl) (he : starEach [e] X.env = (false, eval e X.env) :: starEach [] X.env := by rfl) : PDe G X O (.Call (.Name "sum" p) [e] [] pos) .st ca na (fUn sumD fa) :=
  e_callB1 (cr_sum hc) (fun v H Q h => h) s_sum ha hm hg (by rfl) (by decide) (by decide) he

/-! ### int, abs, min, max, str -/
def intD (x : D) (P : D → Prop) : Prop := match x with
  | .int i => P (.int i)
  | .bl b => P (.int (if b then 1 else 0))
  | _ => False
theorem s_intc : R1s G X O (fun x H Q => (∃ i, [x] = [V.int i] ∧ Q (.int i) H) ∨ ∃ k, [x] = [V.bl k] ∧ Q (.int (if k then 1 else 0)) H) intD .st := by
  intro B S H σ ρ ka v x Kc Q I r h hq
  unfold intD at h
  split at h
  · obtain rfl := r.int I
    exact .inl ⟨_, rfl, hq _ H S _ I (Sub.refl _) (Den.int _) h⟩
  · obtain rfl := r.bl I
    exact .inr ⟨_, rfl, hq _ H S _ I (Sub.refl _) (Den.int _) h⟩
  · exact h.elim
theorem e_intc (ha : PDe G X O e ka ca na fa) (hm : X.mg "int" = none) (hg : Gl X "int" := by rfl) (he : starEach [e] X.env = (false, eval e X.env) :: starEach [] X.env := by rfl) : PDe G X O (.Call (.Name "int" p) [e] [] pos) .st ca na (fUn intD fa) :=
  e_callTy1 call_int1 (fun v H Q h => h) s_intc ha hm hg (by rfl) (by decide) (by decide) he
theorem s_abs : R1s G X O (fun x H Q => ∃ i, [x] = [V.int i] ∧ Q (.int (if i < 0 then -i else i)) H) (uInt fun i => .int (if i < 0 then -i else i)) .st := by
  intro B S H σ ρ ka v x Kc Q I r h hq
  unfold uInt at h
  split at h
  · obtain rfl := r.int I
    exact ⟨_, rfl, hq _ H S _ I (Sub.refl _) (Den.int _) h⟩
  · exact h.elim
theorem e_abs (ha : PDe G X O e ka ca na fa) (hm : X.mg "abs" = none) (hg : Gl X "abs" := by rfl) (he : starEach [e] X.env = (false, eval e X.env) :: starEach [] X.env := by rfl) : PDe G X O (.Call (.Name "abs" p) [e] [] pos) .st ca na (fUn (uInt fun i => .int (if i < 0 then -i else i)) fa) :=
  e_callB1 call_abs (fun v H Q h => h) s_abs ha hm hg (by rfl) (by decide) (by decide) he
def c2Int (g : Int → Int → D) (ds : List D) (P : D → Prop) : Prop := int2 ds fun i j => P (g i j)
theorem s_c2 {g : Int → Int → Int} : CRs G X O (fun xs H Q => ∃ i j, xs = [V.int i, V.int j] ∧ Q (.int (g i j)) H) (c2Int fun i j => .int (g i j)) .st := by
  intro B S H σ ρ vs xs Kc Q I r h hq
  obtain ⟨i, j, rfl, h⟩ := int2_inv h
  cases r with
  | cons r1 r' =>
    cases r' with
    | cons r2 r'' =>
      cases r''
      obtain rfl := Den.int_inv r1
      obtain rfl := Den.int_inv r2
      exact ⟨i, j, rfl, hq _ H S _ I (Sub.refl _) (Den.int _) h⟩
theorem e_max2 {fa : FA} (hc : X.calm = true) (ha : PDa G X O [a, b] c n fa) (hm : X.mg "max" = none) (hg : Gl X "max" := by rfl) (he : starEach [a, b] X.env = (false, eval a X.env) :: starEach [b] X.env := by rfl) (hpl : (backTo pos (starEach [b] X.env)).any (·.1) = false := by rfl) :
    PDe G X O (.Call (.Name "max" p) [a, b] [] pos) .st c n (fCB (c2Int fun i j => .int (if j > i then j else i)) fa) := e_callB (call_max2 hc) s_c2 ha hm hg (by rfl) (by decide) (by decide) he hpl
theorem e_min2 {fa : FA} (hc : X.calm = true) (ha : PDa G X O [a, b] c n fa) (hm : X.mg "min" = none) (hg : Gl X "min" := by rfl) (he : starEach [a, b] X.env = (false, eval a X.env) :: starEach [b] X.env := by rfl) (hpl : (backTo pos (starEach [b] X.env)).any (·.1) = false := by rfl) :
    PDe G X O (.Call (.Name "min" p) [a, b] [] pos) .st c n (fCB (c2Int fun i j => .int (if j < i then j else i)) fa) := e_callB (call_min2 hc) s_c2 ha hm hg (by rfl) (by decide) (by decide) he hpl

/-! ### list, tuple -/
def listD (x : D) (P : D → Prop) : Prop := match x with
  | .lst xs => P (.lst xs)
  | .tup xs => P (.lst xs)
  | .wls xs => P (.lst xs)
  | _ => False
abbrev rListA (K : PySem.W.Frag) : V → Hp → VK → Prop := fun x H Q => ∃ p ys, [x] = [V.ref p] ∧ (SqL K H p ys ∨ SqT K H p ys) ∧ ∀ l, H l = none → Q (.ref l) (upd H l (.lst ys))
theorem s_list : R1s G X O (rListA X.K) listD .fr := by
  intro B S H σ ρ ka v x Kc Q I r h hq
  unfold listD at h
  split at h
  · obtain ⟨a, vs, rfl, ha, la⟩ := r.lst I
    refine ⟨a, vs, rfl, .inl (SqL.of ha), fun p hp => ?_⟩
    obtain ⟨I', r'⟩ := I.lays (u := .lst vs) (o := .lst _) hp ⟨_, upd_same, la⟩
    exact hq _ _ _ _ I' (Sub.refl _) r' h
  · obtain ⟨a, vs, rfl, ha, la⟩ := r.tup I
    refine ⟨a, vs, rfl, .inr (SqT.of ha), fun p hp => ?_⟩
    obtain ⟨I', r'⟩ := I.lays (u := .lst vs) (o := .lst _) hp ⟨_, upd_same, la⟩
    exact hq _ _ _ _ I' (Sub.refl _) r' h
  · have r' := r.flat I fun o z => by cases o <;> cases z
    obtain ⟨a, vs, rfl, e0, _, l⟩ := r'.wls_inv
    refine ⟨a, vs, rfl, .inl (e0 _ I.le), fun p hp => ?_⟩
    obtain ⟨I', r'⟩ := I.lays (u := .lst vs) (o := .lst _) hp ⟨_, upd_same, l⟩
    exact hq _ _ _ _ I' (Sub.refl _) r' h
  · exact h.elim
theorem e_list (ha : PDe G X O e ka ca na fa) (hm : X.mg "list" = none) (hg : Gl X "list" := by rfl) (he : starEach [e] X.env = (false, eval e X.env) :: starEach [] X.env := by rfl) : PDe G X O (.Call (.Name "list" p) [e] [] pos) .fr ca na (fUn listD fa) :=
  e_callTy1 call_list_of (fun v H Q h => h) s_list ha hm hg (by rfl) (by decide) (by decide) he
def tupleD (x : D) (P : D → Prop) : Prop := match x with
  | .lst xs => P (.tup xs)
  | .tup xs => P (.tup xs)
  | _ => False
abbrev rTupleA (K : PySem.W.Frag) : V → Hp → VK → Prop := fun x H Q => ∃ p ys, [x] = [V.ref p] ∧ ((SqL K H p ys ∧ ∀ l, H l = none → Q (.ref l) (upd H l (.tup ys))) ∨ (SqT K H p ys ∧ Q (.ref p) H))
theorem s_tuple : R1s G X O (rTupleA X.K) tupleD .st := by
  intro B S H σ ρ ka v x Kc Q I r h hq
  unfold tupleD at h
  split at h
  · obtain ⟨a, vs, rfl, ha, la⟩ := r.lst I
    refine ⟨a, vs, rfl, .inl ⟨SqL.of ha, fun p hp => ?_⟩⟩
    obtain ⟨I', m⟩ := I.laysF (u := .tup vs) hp
    exact hq _ _ _ _ I' m (den_tup Fz.put_same (DenL.mono m la)) h
  · obtain ⟨a, vs, rfl, ha, la⟩ := r.tup I
    have ra := r.flat I fun o z => by cases o <;> cases z
    exact ⟨a, vs, rfl, .inr ⟨SqT.of ha, hq _ H S _ I (Sub.refl _) ra h⟩⟩
  · exact h.elim
theorem e_tuple (ha : PDe G X O e ka ca na fa) (hm : X.mg "tuple" = none) (hg : Gl X "tuple" := by rfl) (he : starEach [e] X.env = (false, eval e X.env) :: starEach [] X.env := by rfl) : PDe G X O (.Call (.Name "tuple" p) [e] [] pos) .st ca na (fUn tupleD fa) :=
  e_callTy1 call_tuple_of (fun v H Q h => h) s_tuple ha hm hg (by rfl) (by decide) (by decide) he
end
end WL

/-! WK: containers of one's own changed; join, isinstance, repr; keywords. -/
namespace WL
open PySem PySem.Spec PyProof.Rows L2
section
variable {G : Glob} {K : PySem.W.Frag} {O : XO} {B : Bs} {S : Fz} {H : Hp} {σ : L2.St} {ρ : EnvD}
/-- the container of slot i is changed -/
theorem Eok.chgSlot {i : Nat} {a : Addr} {o o' : Own} {u : HO} (I : Eok G K O B S H σ ρ) (h : Owns σ ρ i a o) (w : OwnAt G K S (upd H a u) a o') (hse : ∀ c fs, o' = .ins c fs → ∃ c0 fs0, o = .ins c0 fs0 := by intro c fs e; first | exact ⟨_, _, rfl⟩ | cases e) : Eok G K O B S (upd H a u) σ (ρ.set i (some (.own o'))) := by
  obtain ⟨h1, n⟩ := I.take h
  obtain ⟨t, h2⟩ := h1.chg I.toSta w
  have I1 : Eok G K O B S (upd H a u) σ (ρ.set i none) := I.forget.step t rfl (Sub.refl _) n (fun _ _ => rfl) (fun b hb => upd_ne hb)
  have en : ∀ j, i ≠ j → (ρ.set i none)[j]? = (ρ.set i (some (Slot.own o')))[j]? := fun j z => by rw [get_set, get_set, if_neg z, if_neg z]
  have ei : ∀ s, (ρ.set i (some (Slot.own o')))[i]? = some (some s) → s = .own o' := fun s e => by
    rw [get_set, if_pos rfl] at e
    split at e <;> simp at e
    exact e.symm
  have own : ∀ j b x, Owns σ (ρ.set i (some (.own o'))) j b x → (j = i ∧ b = a ∧ x = o') ∨ (i ≠ j ∧ Owns σ (ρ.set i none) j b x) := fun j b x q => by
    by_cases z : i = j
    · subst z
      have e1 := ei _ q.1
      have e2 := q.2
      rw [h.2] at e2
      cases e1; cases e2
      exact .inl ⟨rfl, rfl, rfl⟩
    · exact .inr ⟨z, by rw [en j z]; exact q.1, q.2⟩
  refine ⟨t, I1.tz, I1.xr, fun j d q => ?_, fun j x q => ?_, fun j l b x y q1 q2 => ?_, I1.tm, fun j l b x y q1 q2 => ?_, I.tt, by rw [List.length_set]; exact I.len, fun j c fs q => by
    by_cases z : i = j
    · subst z
      have e := ei _ q
      obtain ⟨c0, fs0, e0⟩ := hse c fs (by cases e; rfl)
      exact I.sf i c0 fs0 (by rw [h.1, e0])
    · exact I.sf j c fs (by rw [get_set, if_neg z] at q; exact q)⟩
  · by_cases z : i = j
    · subst z; cases ei _ q
    · exact I1.im j d (by rw [en j z]; exact q)
  · by_cases z : i = j
    · subst z; cases ei _ q; exact ⟨a, h.2, h2⟩
    · exact I1.ow j x (by rw [en j z]; exact q)
  · rcases own _ _ _ q1 with ⟨rfl, rfl, rfl⟩ | ⟨z, q1⟩ <;> rcases own _ _ _ q2 with ⟨e1, e2, e3⟩ | ⟨z', q2⟩
    · exact e1.symm
    · exact (n.no _ _ q2).elim
    · subst e2; exact (n.no _ _ q1).elim
    · exact I1.ap _ _ _ _ _ q1 q2
  · rcases own _ _ _ q1 with ⟨rfl, rfl, rfl⟩ | ⟨z, q1⟩
    · exact n.nt _ _ q2
    · exact I1.ta _ _ _ _ _ q1 q2
end
section
variable {G : Glob} {X : Cx} {O : XO} {rk : Bool} {k ka kb : Kd} {c ca cb : Bool} {n na nb : Nat} {e o : Expr} {es : List Expr} {f fa fb : FE} {fs : FA} {pos p p2 apos : Pos} {x : Str}
def ownL (ρ : EnvD) (i : Nat) (P : List D → Prop) : Prop := ∃ xs, ρ[i]? = some (some (.own (.lst xs))) ∧ P xs
/-- a method of a builtin type, its receiver a list of slot i that it changes -/
theorem e_ownM {name : Str} {id : String} {r : V → List V → Hp → VK → Prop} {g : List D → List D → (List D → D → Prop) → Prop} (i : Nat) (slot : PySem.Slot "list" name id) (hty : typeOf (.builtin id) = pure (.type "method_descriptor")) (hm : MtR X id r)
    (hs : ∀ (S : Fz) (H : Hp) (a : Addr) (vs us : List V) (xs ys : List D) (Kc : List D → D → Prop) (Q : VK), H a = some (.lst vs) → DenL G X.K S vs xs → DenL G X.K S us ys → g xs ys Kc →
      (∀ z d ws zs, Den G X.K S z d → DenL G X.K S ws zs → Kc zs d → Q z (upd H a (.lst ws))) → r (.ref a) us H Q)
    (ha : PDa G X O (e :: es) c n fs) (hN : X.N[i]? = some x := by rfl) (hv : Vis X.env.scope x := by first | exact Or.inl rfl | exact Or.inr (Or.inl rfl) | exact Or.inr (Or.inr rfl))
    (hbase : attributeBase (.Name x p) name X.env (eval (.Name x p) X.env) = eval (.Name x p) X.env := by rfl)
    (hfew : ((backTo pos (starEach (e :: es) X.env)).all (fun x => !x.1) && (backToKw pos (keywordEach [] X.env)).all (fun x => x.1.isSome)
      && decide ((e :: es).length + ([] : List Keyword).length + (if ([] : List Keyword).isEmpty then 0 else 1) < 30)) = true := by rfl)
    (hline : (apos.endLine == pos.line) = true := by rfl) (hst : starEach (e :: es) X.env = (false, eval e X.env) :: starEach es X.env := by rfl) (hplain : (backTo pos (starEach es X.env)).any (·.1) = false := by rfl)
    (hd : (x == ("__debug__" : Str)) = false := by decide) (hcd : (x == ("__classdict__" : Str)) = false := by decide) :
    PDe G X O (.Call (.Attribute (.Name x p) name apos) (e :: es) [] pos) .st false n (fun ρ Kc => ownL ρ i fun _ => fs ρ fun ρ1 ys => ownL ρ1 i fun xs => g xs ys fun zs d => Kc (ρ1.set i (some (.own (.lst zs)))) d) := by
  obtain ⟨t, pa, q⟩ := ha.run
  refine ⟨_, pe_bm PySem.F.plainAttrs_list slot hty hm (pe_var hN hv hd hcd) pa hbase hfew hline hst hplain, fun B S H σ ρ Kc Q I hb hf hq => ?_⟩
  obtain ⟨xs0, e0, hf⟩ := hf
  obtain ⟨a, ea, w0⟩ := I.ow i _ e0
  obtain ⟨vs0, hv0, _⟩ := w0.at_
  refine ⟨.ref a, ea, .inl ⟨rfl, vs0, SqL.of hv0⟩, ?_⟩
  refine q B S H σ ρ _ _ I (by omega) hf fun us H1 S1 ρ1 ys I1 m1 c1 r1 h1 => ?_
  obtain ⟨xs, e1, h1⟩ := h1
  obtain ⟨a', ea', w1⟩ := I1.ow i _ e1
  rw [ea] at ea'; cases ea'
  obtain ⟨vs, hv1, l1⟩ := w1.at_
  refine hs S1 H1 a vs us xs ys _ Q hv1 l1 r1 h1 fun z d ws zs hz lz hk => ?_
  have I2 := I1.chgSlot (i := i) (a := a) (o := .lst xs) (o' := .lst zs) (u := .lst ws) ⟨e1, ea⟩ ⟨ws, upd_same, lz⟩
  exact hq z _ S1 _ d I2 m1 (fun z => nomatch z) hz hk
theorem e_ownM0 {name : Str} {id : String} {r : V → List V → Hp → VK → Prop} {g : List D → (List D → D → Prop) → Prop} (i : Nat) (slot : PySem.Slot "list" name id) (hty : typeOf (.builtin id) = pure (.type "method_descriptor")) (hm : MtR X id r)
    (hs : ∀ (S : Fz) (H : Hp) (a : Addr) (vs : List V) (xs : List D) (Kc : List D → D → Prop) (Q : VK), H a = some (.lst vs) → DenL G X.K S vs xs → g xs Kc →
      (∀ z d ws zs, Den G X.K S z d → DenL G X.K S ws zs → Kc zs d → Q z (upd H a (.lst ws))) → r (.ref a) [] H Q)
    (hN : X.N[i]? = some x := by rfl) (hv : Vis X.env.scope x := by first | exact Or.inl rfl | exact Or.inr (Or.inl rfl) | exact Or.inr (Or.inr rfl))
    (hbase : attributeBase (.Name x p) name X.env (eval (.Name x p) X.env) = eval (.Name x p) X.env := by rfl) (hline : (apos.endLine == pos.line) = true := by rfl) (hd : (x == ("__debug__" : Str)) = false := by decide) (hcd : (x == ("__classdict__" : Str)) = false := by decide) :
    PDe G X O (.Call (.Attribute (.Name x p) name apos) [] [] pos) .st false 0 (fun ρ Kc => ownL ρ i fun xs => g xs fun zs d => Kc (ρ.set i (some (.own (.lst zs)))) d) := by
  refine ⟨_, pe_bm0 PySem.F.plainAttrs_list slot hty hm (pe_var hN hv hd hcd) hbase hline, fun B S H σ ρ Kc Q I hb hf hq => ?_⟩
  obtain ⟨xs, e0, hf⟩ := hf
  obtain ⟨a, ea, w0⟩ := I.ow i _ e0
  obtain ⟨vs, hv, l⟩ := w0.at_
  refine ⟨.ref a, ea, .inl ⟨rfl, vs, SqL.of hv⟩, hs S H a vs xs _ Q hv l hf fun z d ws zs hz lz hk => ?_⟩
  have I2 := I.chgSlot (i := i) (a := a) (o := .lst xs) (o' := .lst zs) (u := .lst ws) ⟨e0, ea⟩ ⟨ws, upd_same, lz⟩
  exact hq z _ S _ d I2 (Sub.refl _) (fun z => nomatch z) hz hk
def gAppend (xs ys : List D) (P : List D → D → Prop) : Prop := match ys with
  | [y] => xs.length < sizeLine ∧ P (xs ++ [y]) .non
  | _ => False
theorem s_append {S : Fz} {H : Hp} {a : Addr} {vs us : List V} {xs ys : List D} {Kc : List D → D → Prop} {Q : VK} (hv : H a = some (.lst vs)) (l : DenL G X.K S vs xs) (r : DenL G X.K S us ys) (h : gAppend xs ys Kc)
    (hq : ∀ z d ws zs, Den G X.K S z d → DenL G X.K S ws zs → Kc zs d → Q z (upd H a (.lst ws))) : rAppend (.ref a) us H Q := by
  unfold gAppend at h
  split at h
  · cases r with
    | cons r1 r' =>
      cases r'
      exact ⟨a, vs, _, rfl, rfl, hv, by rw [l.length]; exact h.1, hq _ _ _ _ .non (l.snoc r1) h.2⟩
  · exact h.elim
def gPop (xs : List D) (P : List D → D → Prop) : Prop := match xs[xs.length - 1]? with
  | some y => P xs.dropLast y
  | none => False
theorem paired_dropLast {α β : Type} {F : α → β → Prop} {l : List α} {m : List β} (h : Paired F l m) : Paired F l.dropLast m.dropLast := by
  rw [List.dropLast_eq_take, List.dropLast_eq_take, h.length]
  exact paired_take h _
theorem paired_erase {α β : Type} {F : α → β → Prop} {l : List α} {m : List β} (h : Paired F l m) : ∀ n, Paired F (l.eraseIdx n) (m.eraseIdx n) := by
  induction h with
  | nil => intro n; exact .nil
  | cons r t ih =>
    intro n
    cases n with
    | zero => exact t
    | succ n => exact .cons r (ih n)
theorem s_pop {S : Fz} {H : Hp} {a : Addr} {vs : List V} {xs : List D} {Kc : List D → D → Prop} {Q : VK} (hv : H a = some (.lst vs)) (l : DenL G X.K S vs xs) (h : gPop xs Kc)
    (hq : ∀ z d ws zs, Den G X.K S z d → DenL G X.K S ws zs → Kc zs d → Q z (upd H a (.lst ws))) : rPop (.ref a) [] H Q := by
  unfold gPop at h
  split at h
  · rename_i y e
    have hi : xs.length - 1 < xs.length := by
      rw [List.getElem?_eq_some_iff] at e; exact e.1
    obtain ⟨v, d, e1, e2, q⟩ := paired_some l hi
    rw [e] at e2; cases e2
    exact ⟨a, vs, v, rfl, rfl, hv, by rw [l.length]; exact e1, hq _ _ _ _ q (paired_dropLast l) h⟩
  · exact h.elim
/-- xs.pop(i), i from 0 on -/
def gPopAt (xs ys : List D) (P : List D → D → Prop) : Prop := match ys with
  | [.int i] => (0 ≤ i ∧ i < 2 ^ 63) ∧ match xs[i.toNat]? with
    | some y => P (xs.eraseIdx i.toNat) y
    | none => False
  | _ => False
theorem s_popAt {S : Fz} {H : Hp} {a : Addr} {vs us : List V} {xs ys : List D} {Kc : List D → D → Prop} {Q : VK} (hv : H a = some (.lst vs)) (l : DenL G X.K S vs xs) (r : DenL G X.K S us ys) (h : gPopAt xs ys Kc)
    (hq : ∀ z d ws zs, Den G X.K S z d → DenL G X.K S ws zs → Kc zs d → Q z (upd H a (.lst ws))) : rPopAt (.ref a) us H Q := by
  unfold gPopAt at h
  split at h
  · obtain ⟨⟨h0, h1⟩, h⟩ := h
    cases r with
    | cons r1 r' =>
      cases r'
      obtain rfl := Den.int_inv r1
      split at h
      · rename_i y e
        have hi := (List.getElem?_eq_some_iff.mp e).1
        obtain ⟨v, d, e1, e2, q⟩ := paired_some l hi
        rw [e] at e2; cases e2
        refine ⟨a, vs, _, _, v, rfl, rfl, hv, by omega, h1, ?_, e1, hq _ _ _ _ q (paired_erase l _) h⟩
        rw [l.length]
        exact seqIndex_of h0 (by omega)
      · exact h.elim
  · exact h.elim
theorem e_append (i : Nat) (ha : PDa G X O [e] c n fs) (hN : X.N[i]? = some x := by rfl) (hv : Vis X.env.scope x := by first | exact Or.inl rfl | exact Or.inr (Or.inl rfl) | exact Or.inr (Or.inr rfl))
    (hbase : attributeBase (.Name x p) "append" X.env (eval (.Name x p) X.env) = eval (.Name x p) X.env := by rfl)
    (hfew : ((backTo pos (starEach [e] X.env)).all (fun x => !x.1) && (backToKw pos (keywordEach [] X.env)).all (fun x => x.1.isSome)
      && decide ([e].length + ([] : List Keyword).length + (if ([] : List Keyword).isEmpty then 0 else 1) < 30)) = true := by rfl)
    (hline : (apos.endLine == pos.line) = true := by rfl) (hst : starEach [e] X.env = (false, eval e X.env) :: starEach [] X.env := by rfl) (hplain : (backTo pos (starEach [] X.env)).any (·.1) = false := by rfl)
    (hd : (x == ("__debug__" : Str)) = false := by decide) (hcd : (x == ("__classdict__" : Str)) = false := by decide) :
    PDe G X O (.Call (.Attribute (.Name x p) "append" apos) [e] [] pos) .st false n (fun ρ Kc => ownL ρ i fun _ => fs ρ fun ρ1 ys => ownL ρ1 i fun xs => gAppend xs ys fun zs d => Kc (ρ1.set i (some (.own (.lst zs)))) d) :=
  e_ownM i PySem.F.slot_list_append PySem.F.type_list_append mt_append (fun S H a vs us xs ys Kc Q hv l r h hq => s_append hv l r h hq) ha hN hv hbase hfew hline hst hplain hd hcd
theorem e_popAt (i : Nat) (ha : PDa G X O [e] c n fs) (hN : X.N[i]? = some x := by rfl) (hv : Vis X.env.scope x := by first | exact Or.inl rfl | exact Or.inr (Or.inl rfl) | exact Or.inr (Or.inr rfl))
    (hbase : attributeBase (.Name x p) "pop" X.env (eval (.Name x p) X.env) = eval (.Name x p) X.env := by rfl)
    (hfew : ((backTo pos (starEach [e] X.env)).all (fun x => !x.1) && (backToKw pos (keywordEach [] X.env)).all (fun x => x.1.isSome)
      && decide ([e].length + ([] : List Keyword).length + (if ([] : List Keyword).isEmpty then 0 else 1) < 30)) = true := by rfl)
    (hline : (apos.endLine == pos.line) = true := by rfl) (hst : starEach [e] X.env = (false, eval e X.env) :: starEach [] X.env := by rfl) (hplain : (backTo pos (starEach [] X.env)).any (·.1) = false := by rfl)
    (hd : (x == ("__debug__" : Str)) = false := by decide) (hcd : (x == ("__classdict__" : Str)) = false := by decide) :
    PDe G X O (.Call (.Attribute (.Name x p) "pop" apos) [e] [] pos) .st false n (fun ρ Kc => ownL ρ i fun _ => fs ρ fun ρ1 ys => ownL ρ1 i fun xs => gPopAt xs ys fun zs d => Kc (ρ1.set i (some (.own (.lst zs)))) d) :=
  e_ownM i PySem.F.slot_list_pop PySem.F.type_list_pop mt_popAt (fun S H a vs us xs ys Kc Q hv l r h hq => s_popAt hv l r h hq) ha hN hv hbase hfew hline hst hplain hd hcd
theorem e_pop (i : Nat) (hN : X.N[i]? = some x := by rfl) (hv : Vis X.env.scope x := by first | exact Or.inl rfl | exact Or.inr (Or.inl rfl) | exact Or.inr (Or.inr rfl))
    (hbase : attributeBase (.Name x p) "pop" X.env (eval (.Name x p) X.env) = eval (.Name x p) X.env := by rfl) (hline : (apos.endLine == pos.line) = true := by rfl) (hd : (x == ("__debug__" : Str)) = false := by decide) (hcd : (x == ("__classdict__" : Str)) = false := by decide) :
    PDe G X O (.Call (.Attribute (.Name x p) "pop" apos) [] [] pos) .st false 0 (fun ρ Kc => ownL ρ i fun xs => gPop xs fun zs d => Kc (ρ.set i (some (.own (.lst zs)))) d) :=
  e_ownM0 i PySem.F.slot_list_pop PySem.F.type_list_pop mt_pop (fun S H a vs xs Kc Q hv l h hq => s_pop hv l h hq) hN hv hbase hline hd hcd

/-! ### join -/
def strsL : List D → Option (List Str)
  | [] => some []
  | .str i :: r => (strsL r).map (i :: ·)
  | _ :: _ => none
theorem strsL_inv {K : PySem.W.Frag} {S : Fz} : ∀ {ds : List D} {bs : List Str} {vs : List V}, strsL ds = some bs → DenL G K S vs ds → vs = bs.map V.str
  | [], bs, vs, h, r => by cases r; simp [strsL] at h; subst h; rfl
  | d :: ds, bs, vs, h, r => by
    cases r with
    | cons r1 r2 =>
      cases d <;> simp [strsL] at h
      obtain ⟨l, e1, rfl⟩ := h
      rw [Den.str_inv r1, strsL_inv e1 r2]; rfl
theorem strsL_map (bs : List Str) : strsL (bs.map D.str) = some bs := by
  induction bs with
  | nil => rfl
  | cons b bs ih => simp [strsL, ih]
def seqOf (d : D) (P : List D → Prop) : Prop := match d with
  | .lst ds => P ds
  | .tup ds => P ds
  | _ => False
def opJoin (a : Str) (y : D) (P : D → Prop) : Prop := seqOf y fun ds => match strsL ds with
  | some ys => (ys.map (·.length)).sum + ys.length * a.length ≤ 16777216 ∧ P (.str (Txt.join a ys))
  | none => False
def strOf (d : D) (P : Str → Prop) : Prop := match d with
  | .str a => P a
  | _ => False
theorem strOf_inv {d : D} {P : Str → Prop} (h : strOf d P) : ∃ i, d = .str i ∧ P i := by
  cases d <;> first | exact ⟨_, rfl, h⟩ | exact h.elim
def fJoin (fa fb : FE) : FE := fun ρ Kc => fa ρ fun ρ1 x => strOf x fun a => fb ρ1 fun ρ2 y => opJoin a y (Kc ρ2)
theorem e_join (ho : PDe G X O o ka ca na fa) (he : PDe G X O e kb cb nb fb) (hs : starEach [e] X.env = [(false, eval e X.env)] := by rfl) (hbase : attributeBase o "join" X.env (eval o X.env) = eval o X.env := by rfl) (hline : (apos.endLine == pos.line) = true := by rfl) :
    PDe G X O (.Call (.Attribute o "join" apos) [e] [] pos) .st (ca && cb) (na + nb) (fJoin fa fb) := by
  obtain ⟨ta, pa, qa⟩ := ho.run
  obtain ⟨tb, pb, qb⟩ := he.run
  refine ⟨_, pe_join pa pb hs hbase hline, fun B S H σ ρ Kc Q I hb hf hq => ?_⟩
  refine qa B S H σ ρ _ _ I (by omega) hf fun v H1 S1 ρ1 x I1 m1 c1 r1 h1 => ?_
  obtain ⟨z, rfl, h2⟩ := strOf_inv h1
  obtain rfl := r1.str I1
  refine ⟨⟨z, rfl⟩, qb B S1 H1 σ ρ1 _ _ I1 (by have := m1.lo; omega) h2 fun w H2 S2 ρ2 y I2 m2 c2 r2 h3 => ?_⟩
  have fin : ∀ {ds : List D} {a : Addr} {vs : List V}, w = .ref a → (SqL X.K H2 a vs ∨ SqT X.K H2 a vs) → DenL G X.K S2 vs ds → (match strsL ds with
    | some ys => (ys.map (·.length)).sum + ys.length * z.length ≤ 16777216 ∧ Kc ρ2 (.str (Txt.join z ys))
    | none => False) → ∃ a p, ∃ ys : List Str, V.str z = .str a ∧ [w] = [.ref p] ∧ (SqL X.K H2 p (ys.map V.str) ∨ SqT X.K H2 p (ys.map V.str)) ∧ (ys.map (·.length)).sum + ys.length * a.length ≤ 16777216 ∧ Q (.str (Txt.join a ys)) H2 := fun {ds a vs} ew hsq hl h => by
    split at h
    · rename_i ys e
      have ev := strsL_inv e hl
      subst ev
      refine ⟨z, a, ys, rfl, by rw [ew], hsq, h.1, hq _ H2 S2 ρ2 _ I2 (m1.trans m2) (fun z => ?_) (Den.str _) h.2⟩
      have := Bool.and_eq_true_iff.mp z
      rw [c2 this.2, c1 this.1]
    · exact h.elim
  unfold opJoin seqOf at h3
  split at h3
  · obtain ⟨a, vs, e1, e2, e3⟩ := r2.lst I2
    exact fin e1 (.inl (SqL.of e2)) e3 h3
  · obtain ⟨a, vs, e1, e2, e3⟩ := r2.tup I2
    exact fin e1 (.inr (SqT.of e2)) e3 h3
  · exact h3.elim

/-! ### isinstance -/
/-- the type of a datum -/
def tyN : D → Option String
  | .non => some "NoneType"
  | .bl _ => some "bool"
  | .int _ => some "int"
  | .str _ => some "str"
  | .tup _ => some "tuple"
  | .lst _ => some "list"
  | .dct _ => some "dict"
  | _ => none
def isiT (t T : String) : Bool := t == T || (t == "bool" && T == "int")
abbrev rIsiG (K : PySem.W.Frag) (x c : V) (H : Hp) (Q : VK) : Prop := ∃ (t u : Value) (b : Bool), ClsV c u ∧ (TyX K H x t ∨ ∃ a o kvs, x = .ref a ∧ H a = some (.frz o (.dT kvs)) ∧ t = .type "dict") ∧ PySem.W.kitOne K t u = some b ∧ Q (.bl b) H
theorem kit_any {pins : List (Addr × Obj)} {σ : L2.St} {H : Hp} {s : Shared} {x : V} {u t : Value} (I : Inv X pins σ H s) (rx : RelV x u) (ty : TyX X.K H x t ∨ ∃ a o kvs, x = .ref a ∧ H a = some (.frz o (.dT kvs)) ∧ t = .type "dict") :
    ∃ P : Heap → Prop, PySem.W.KitX X.K u t P ∧ P s.heap ∧ u ≠ .builtin "__main__.__loader__#opaque" := by
  rcases ty with ty | ⟨a, o, kvs, rfl, e, rfl⟩
  · exact kit_of I rx ty
  · obtain rfl : u = Value.ref a := rx
    obtain ⟨_, _, xs, _, _, ob, es, ep, h1, h2, _⟩ := (show ObjOk X.prog X.w H s.heap a (.frz o (.dT kvs)) from I.hok a _ e)
    exact ⟨_, PySem.W.kitx_dict, ⟨ob, h1, h2.1⟩, fun z => nomatch z⟩
theorem call_isiG : CallR X (.builtin "isinstance") (fun xs H Q => ∃ x c, xs = [x, c] ∧ rIsiG X.K x c H Q) := by
  intro pins s σ H xs us Q I r h
  obtain ⟨x, c, rfl, t, u, b, k, ty, e, q⟩ := h
  obtain ⟨u1, u2, rfl, r1, r2⟩ := vals2 r
  obtain rfl := k.eq r2
  obtain ⟨P, Z, p, hx⟩ := kit_any I r1 ty
  exact PySem.W.kia_one Z I.kIn p e hx fun tk => ⟨.bl b, H, I.tok tk, rfl, q⟩
theorem tyN_ok {B : Bs} {S : Fz} {H : Hp} {σ : L2.St} {ρ : EnvD} {v : V} {d : D} {T : String} (I : Eok G X.K O B S H σ ρ) (r : ROk G X.K B S H σ ρ v d k) (h : tyN d = some T) : TyX X.K H v (.type T) ∨ ∃ a o kvs, v = .ref a ∧ H a = some (.frz o (.dT kvs)) ∧ Value.type T = .type "dict" := by
  cases d <;> simp [tyN] at h <;> subst h
  · obtain rfl := r.non I; exact .inl (.base .non)
  · obtain rfl := r.bl I; exact .inl (.base (.bl _))
  · obtain rfl := r.int I; exact .inl (.base (.int _))
  · obtain rfl := r.str I; exact .inl (.base (.str _))
  · obtain ⟨a, vs, rfl, e, _⟩ := r.tup I; exact .inl (.base (.tup e))
  · obtain ⟨a, vs, rfl, e, _⟩ := r.lst I; exact .inl (.base (.lst e))
  · obtain ⟨a, rfl, ⟨kvs, (e | ⟨o, e⟩), _⟩ | ⟨kvs, (e | ⟨o, e⟩), _⟩⟩ := r.dct I
    · exact .inl (.base (.dK e))
    · exact .inl (.fDict e)
    · exact .inl (.base (.dT e))
    · exact .inr ⟨a, o, kvs, rfl, e, rfl⟩
def tyNs : List String := ["NoneType", "bool", "int", "str", "tuple", "list", "dict"]
theorem tyN_mem {d : D} {T : String} (h : tyN d = some T) : T ∈ tyNs := by
  cases d <;> simp [tyN] at h <;> subst h <;> simp [tyNs]
def kitC (T : String) : Bool := tyNs.all fun t => decide (kitB t T = some (isiT t T))
theorem kitC_at {K : PySem.W.Frag} {T t : String} (h : kitC T = true) (ht : t ∈ tyNs) : PySem.W.kitOne K (.type t) (.type T) = some (isiT t T) := kit_ty (of_decide_eq_true (List.all_eq_true.mp h t ht))
def opIsi (T : String) (x : D) (P : D → Prop) : Prop := match tyN x with
  | some t => P (.bl (isiT t T))
  | none => False
theorem e_isi {T : String} {y : Str} (hT : kitC T = true) (ha : PDe G X O e ka ca na fa) (hm : X.mg "isinstance" = none) (hmT : X.mg y = none) (hb : bootBuiltins y = some (.type T)) (hg : Gl X "isinstance" := by rfl) (hgT : Gl X y := by rfl)
    (he : starEach [e, .Name y p2] X.env = (false, eval e X.env) :: starEach [.Name y p2] X.env := by rfl) (he2 : starEach [.Name y p2] X.env = (false, eval (.Name y p2) X.env) :: starEach [] X.env := by rfl) (hpl : (backTo pos (starEach [.Name y p2] X.env)).any (·.1) = false := by rfl)
    (hn : y ≠ "__name__" := by decide) (hdb : (y == ("__debug__" : Str)) = false := by decide) : PDe G X O (.Call (.Name "isinstance" p) [e, .Name y p2] [] pos) .st ca na (fUn (opIsi T) fa) := by
  obtain ⟨ta, pa, qa⟩ := ha.run
  refine ⟨_, pe_callB call_isiG hg hm (by rfl) (pa_cons pa (pa_cons (pe_bltn (v := .ty T) hgT hmT hb rfl hn hdb) pa_nil he2) he) (by decide) (by decide) he hpl, fun B S H σ ρ Kc Q I hb hf hq => ?_⟩
  refine qa B S H σ ρ _ _ I (by omega) hf fun v H1 S1 ρ1 d I1 m1 c1 r1 h1 => ?_
  unfold opIsi at h1
  split at h1
  · rename_i t et
    exact ⟨v, .ty T, rfl, .type t, .type T, _, .ty T, tyN_ok I1 r1 et, kitC_at hT (tyN_mem et), hq _ H1 S1 ρ1 _ I1 m1 c1 (Den.bl _) h1⟩
  · exact h1.elim
/-- isinstance(x, (T, U)) -/
def opIsi2 (T U : String) (x : D) (P : D → Prop) : Prop := match tyN x with
  | some t => P (.bl (isiT t T || isiT t U))
  | none => False
abbrev rIsiG2 (K : PySem.W.Frag) (T U : String) (x : V) (H : Hp) (Q : VK) : Prop := ∃ t : String, t ∈ tyNs ∧ (TyX K H x (.type t) ∨ ∃ a o kvs, x = .ref a ∧ H a = some (.frz o (.dT kvs)) ∧ Value.type t = .type "dict") ∧ Q (.bl (isiT t T || isiT t U)) H
theorem call_isiG2 {T U : String} (hT : kitC T = true) (hU : kitC U = true) : CallR X (.builtin "isinstance") (fun xs H Q => ∃ x tp, xs = [x, .ref tp] ∧ H tp = some (.tup [.ty T, .ty U]) ∧ rIsiG2 X.K T U x H Q) := by
  intro pins s σ H xs us Q I r h
  obtain ⟨x, tp, rfl, htp, t, ht, ty, q⟩ := h
  obtain ⟨u1, u2, rfl, r1, r2⟩ := vals2 r
  obtain rfl : u2 = Value.ref tp := r2
  obtain ⟨P, Z, p, hx⟩ := kit_any I r1 ty
  obtain ⟨_, its, rv, o, h1, h2, n, h3⟩ := (show ObjOk X.prog X.w H s.heap tp (.tup [.ty T, .ty U]) from I.hok tp _ htp)
  have e3 := ClsV.all (.cons (.ty T) (.cons (.ty U) .nil)) rv
  subst e3
  obtain ⟨oc, od, dt, sl⟩ := o
  simp only at h2 h3
  subst h2 h3
  refine PySem.W.kia_tup Z I.kIn p h1 (b := isiT t T || isiT t U) (kitAny_cons (kitC_at hT ht) (fun hf => ?_) fun ht => by rw [ht]; rfl) hx fun tk => ⟨.bl _, H, I.tok tk, rfl, q⟩
  rw [hf]
  exact kitAny_cons (kitC_at hU ht) (fun hf => by rw [hf]; rfl) fun ht => by rw [ht]; rfl
theorem ROk.laysT {B : Bs} {S : Fz} {H : Hp} {σ : L2.St} {ρ : EnvD} {v : V} {d : D} {a : Addr} {u : HO} (I : Eok G X.K O B S H σ ρ) (r : ROk G X.K B S H σ ρ v d k) (h : H a = none) (m : Sub 0 S (S.put a u)) : ROk G X.K B (S.put a u) (upd H a u) σ ρ v d k := by
  cases k with
  | st => exact Den.mono m r
  | bo i => exact r
  | fr =>
    obtain ⟨b, o, e1, e2, w, n⟩ := r
    have hb : b ≠ a := fun z => w.some (by rw [z]; exact h)
    exact ⟨b, o, e1, e2, w.keep m (Fz.put_ne hb) (upd_ne hb), n⟩
theorem e_isi2 {T U : String} {y z : Str} {p3 p4 : Pos} {x1} (hT : kitC T = true) (hU : kitC U = true) (ha : PDe G X O e ka ca na fa) (hm : X.mg "isinstance" = none) (hmT : X.mg y = none) (hbT : bootBuiltins y = some (.type T)) (hmU : X.mg z = none) (hbU : bootBuiltins z = some (.type U)) (hg : Gl X "isinstance" := by rfl) (hgT : Gl X y := by rfl) (hgU : Gl X z := by rfl)
    (he : starEach [e, .Tuple [.Name y p2, .Name z p3] x1 p4] X.env = (false, eval e X.env) :: starEach [.Tuple [.Name y p2, .Name z p3] x1 p4] X.env := by rfl) (he2 : starEach [.Tuple [.Name y p2, .Name z p3] x1 p4] X.env = (false, eval (.Tuple [.Name y p2, .Name z p3] x1 p4) X.env) :: starEach [] X.env := by rfl) (hpl : (backTo pos (starEach [.Tuple [.Name y p2, .Name z p3] x1 p4] X.env)).any (·.1) = false := by rfl)
    (hy : starEach [.Name y p2, .Name z p3] X.env = (false, eval (.Name y p2) X.env) :: starEach [.Name z p3] X.env := by rfl) (hz : starEach [.Name z p3] X.env = (false, eval (.Name z p3) X.env) :: starEach [] X.env := by rfl)
    (hn : y ≠ "__name__" := by decide) (hdb : (y == ("__debug__" : Str)) = false := by decide) (hn2 : z ≠ "__name__" := by decide) (hdb2 : (z == ("__debug__" : Str)) = false := by decide) : PDe G X O (.Call (.Name "isinstance" p) [e, .Tuple [.Name y p2, .Name z p3] x1 p4] [] pos) .st ca na (fUn (opIsi2 T U) fa) := by
  obtain ⟨ta, pa, qa⟩ := ha.run
  refine ⟨_, pe_callB (call_isiG2 hT hU) hg hm (by rfl) (pa_cons pa (pa_cons (pe_tup (pa_cons (pe_bltn (v := .ty T) hgT hmT hbT rfl hn hdb) (pa_cons (pe_bltn (v := .ty U) hgU hmU hbU rfl hn2 hdb2) pa_nil hz) hy)) pa_nil he2) he) (by decide) (by decide) he hpl, fun B S H σ ρ Kc Q I hb hf hq => ?_⟩
  refine qa B S H σ ρ _ _ I (by omega) hf fun v H1 S1 ρ1 d I1 m1 c1 r1 h1 => ?_
  unfold opIsi2 at h1
  split at h1
  · rename_i t et
    refine ⟨by show (2 : Nat) ≤ sizeLine; decide, fun tp htp => ?_⟩
    obtain ⟨I2, m2⟩ := I1.laysF (u := .tup [.ty T, .ty U]) htp
    exact ⟨v, tp, rfl, upd_same, t, tyN_mem et, tyN_ok I2 (ROk.laysT I1 r1 htp m2) et, hq _ _ _ ρ1 _ I2 (m1.trans m2) c1 (Den.bl _) h1⟩
  · exact h1.elim
end
end WL

/-! WM: repr over data. -/
namespace WL
open PySem PySem.Spec PyProof.Rows L2
mutual
/-- a value read as data, no dict of it the table of modules -/
inductive RdN (h : Heap) : Value → PyData → Prop
  | non : RdN h .none .none
  | bl (b) : RdN h (.bool b) (.bool b)
  | int (i t) : RdN h (.int i t) (.int i)
  | str (x t) : RdN h (.str x t) (.str x)
  | lst {a o vs n xs} : h.get? a = some o → o.cls = .type "list" → o.data = .seq vs n → RdNs h vs.toList xs → RdN h (.ref a) (.list xs)
  | tup {a o vs n xs} : h.get? a = some o → o.cls = .type "tuple" → o.data = .seq vs n → RdNs h vs.toList xs → RdN h (.ref a) (.tuple xs)
  | dct {a o es n kvs} : (a == sysModules) = false → h.get? a = some o → o.cls = .type "dict" → o.data = .dict es n → RdNs h (es.toList.map (·.key)) (kvs.map (·.1)) → RdNs h (es.toList.map (·.val)) (kvs.map (·.2)) → RdN h (.ref a) (.dict kvs)
inductive RdNs (h : Heap) : List Value → List PyData → Prop
  | nil : RdNs h [] []
  | cons {v vs d ds} : RdN h v d → RdNs h vs ds → RdNs h (v :: vs) (d :: ds)
end
mutual
theorem RdN.reads {h : Heap} : ∀ {v : Value} {d : PyData}, RdN h v d → ∃ as, Reads h v d as
  | _, _, .non => ⟨_, .none⟩
  | _, _, .bl b => ⟨_, .bool b⟩
  | _, _, .int i t => ⟨_, .int i t⟩
  | _, _, .str x t => ⟨_, .str x t⟩
  | _, _, .lst h1 h2 h3 h4 => let ⟨_, r⟩ := RdNs.reads h4; ⟨_, .list h1 h2 h3 r⟩
  | _, _, .tup h1 h2 h3 h4 => let ⟨_, r⟩ := RdNs.reads h4; ⟨_, .tuple h1 h2 h3 r⟩
  | _, _, .dct _ h1 h2 h3 h4 h5 => let ⟨_, r⟩ := RdNs.reads h4; let ⟨_, r'⟩ := RdNs.reads h5; ⟨_, .dict h1 h2 h3 r r'⟩
theorem RdNs.reads {h : Heap} : ∀ {v : List Value} {d : List PyData}, RdNs h v d → ∃ as, ReadsAll h v d as
  | _, _, .nil => ⟨_, .nil⟩
  | _, _, .cons h1 h2 => let ⟨_, r⟩ := RdN.reads h1; let ⟨_, r'⟩ := RdNs.reads h2; ⟨_, .cons r r'⟩
end
theorem showKv {kvs : List (PyData × PyData)} {h0 : Heap} {prog : Program} {w : World} {es : List DictEntry} {b1 b2 : List Addr}
    (k1 : ReprAllK prog w b1 h0 (PyData.depthAll (kvs.map (·.1))) (es.map (·.key)) (PyData.shownAll (kvs.map (·.1)))) (k2 : ReprAllK prog w b2 h0 (PyData.depthAll (kvs.map (·.2))) (es.map (·.val)) (PyData.shownAll (kvs.map (·.2)))) :
    ReprEntriesK prog w (b1 ++ b2) h0 (PyData.depthKv kvs) es (PyData.shownKv kvs) := by
  rw [PyData.shownKv_eq]
  exact ReprEntriesK.of_two es _ _ (k1.more_le (fun b hb => List.mem_append_left _ hb) (PyData.depthAll_keys_le kvs)) (k2.more_le (fun b hb => List.mem_append_right _ hb) (PyData.depthAll_vals_le kvs))
section
variable {prog : Program} {w : World} {h0 : Heap}
mutual
theorem RdN.repr : ∀ {v : Value} {d : PyData}, RdN h0 v d → d.showable = true → d.shown.length ≤ sizeLine → ∃ bs, ReadAtMost h0 d.depth bs ∧ ReprK prog w bs h0 d.depth v d.shown
  | _, _, .non, _, _ => ⟨[], (fun _ z => nomatch z), by simp only [PyData.shown]; exact .of_is ReprIs.none _ _ _⟩
  | _, _, .bl b, _, _ => ⟨[], (fun _ z => nomatch z), by simp only [PyData.shown]; exact .of_is (ReprIs.bool b) _ _ _⟩
  | _, _, .int i t, hs, _ => ⟨[], (fun _ z => nomatch z), by simp only [PyData.shown]; exact .of_is (ReprIs.int t (by simpa [PyData.showable] using hs)) _ _ _⟩
  | _, _, .str x t, _, hz => ⟨[], (fun _ z => nomatch z), by simp only [PyData.shown]; exact .of_is (ReprIs.str x t (by simpa only [PyData.shown] using hz)) _ _ _⟩
  | _, _, .lst (a := a) (vs := vs) (xs := xs) h1 h2 h3 h4, hs, hz => by
    have hz' : (listText (PyData.shownAll xs)).length ≤ sizeLine := by simpa only [PyData.shown] using hz
    obtain ⟨bs, hb, hk⟩ := RdNs.repr h4 (by simpa [PyData.showable] using hs) fun t ht => Nat.le_trans (listText_mem_le ht) hz'
    obtain ⟨as, r⟩ := RdN.reads (.lst h1 h2 h3 h4)
    have hna : a ∉ bs := not_mem_of_deeper r (by simp only [PyData.depth]; omega) hb
    refine ⟨a :: bs, ReadAtMost.cons r (by simp only [PyData.depth]; omega) hb, ?_⟩
    simp only [PyData.depth, PyData.shown]
    obtain ⟨l⟩ := vs
    cases l with
    | nil =>
      have h4' : RdNs h0 [] xs := h4
      cases h4'
      simp only [PyData.shownAll, listText_nil]
      exact ReprK.listEmpty h1 h2 h3
    | cons x l => exact ReprK.list h1 h2 h3 hna (by simpa using hk.length_eq) fun i y e => hk.item i y (by simpa using e)
  | _, _, .tup (a := a) (xs := xs) h1 h2 h3 h4, hs, hz => by
    have hz' : (tupleText (PyData.shownAll xs)).length ≤ sizeLine := by simpa only [PyData.shown] using hz
    obtain ⟨bs, hb, hk⟩ := RdNs.repr h4 (by simpa [PyData.showable] using hs) fun t ht => Nat.le_trans (tupleText_mem_le ht) hz'
    obtain ⟨as, r⟩ := RdN.reads (.tup h1 h2 h3 h4)
    have hna : a ∉ bs := not_mem_of_deeper r (by simp only [PyData.depth]; omega) hb
    refine ⟨a :: bs, ReadAtMost.cons r (by simp only [PyData.depth]; omega) hb, ?_⟩
    simp only [PyData.depth, PyData.shown]
    exact ReprK.tuple h1 h2 h3 hna hk
  | _, _, .dct (a := a) (es := es) (kvs := kvs) hm h1 h2 h3 h4 h5, hs, hz => by
    have hz' : (dictText (PyData.shownKv kvs)).length ≤ sizeLine := by simpa only [PyData.shown] using hz
    obtain ⟨hs1, hs2⟩ := PyData.showableKv_split kvs (by simpa [PyData.showable] using hs)
    obtain ⟨b1, hb1, k1⟩ := RdNs.repr h4 hs1 fun t ht => let ⟨p, hp, hl⟩ := PyData.shownKv_key_le kvs t ht; Nat.le_trans hl (Nat.le_trans (dictText_mem_le hp) hz')
    obtain ⟨b2, hb2, k2⟩ := RdNs.repr h5 hs2 fun t ht => let ⟨p, hp, hl⟩ := PyData.shownKv_val_le kvs t ht; Nat.le_trans hl (Nat.le_trans (dictText_mem_le hp) hz')
    obtain ⟨as, r⟩ := RdN.reads (.dct hm h1 h2 h3 h4 h5)
    have hb : ReadAtMost h0 (PyData.depthKv kvs) (b1 ++ b2) := (hb1.mono (PyData.depthAll_keys_le kvs)).append (hb2.mono (PyData.depthAll_vals_le kvs))
    have hna : a ∉ b1 ++ b2 := not_mem_of_deeper r (by simp only [PyData.depth]; omega) hb
    refine ⟨a :: (b1 ++ b2), ReadAtMost.cons r (by simp only [PyData.depth]; omega) hb, ?_⟩
    simp only [PyData.depth, PyData.shown]
    exact ReprK.dict h1 h2 h3 hm hna (showKv k1 k2)
theorem RdNs.repr : ∀ {vs : List Value} {ds : List PyData}, RdNs h0 vs ds → PyData.showableAll ds = true → (∀ t ∈ PyData.shownAll ds, t.length ≤ sizeLine) → ∃ bs, ReadAtMost h0 (PyData.depthAll ds) bs ∧ ReprAllK prog w bs h0 (PyData.depthAll ds) vs (PyData.shownAll ds)
  | _, _, .nil, _, _ => ⟨[], (fun _ z => nomatch z), by simp only [PyData.shownAll]; exact .nil⟩
  | _, _, .cons (d := d) (ds := ds) r rs, hs, hz => by
    have hs' : d.showable = true ∧ PyData.showableAll ds = true := by simpa [PyData.showableAll] using hs
    obtain ⟨b1, hb1, k1⟩ := RdN.repr r hs'.1 (hz _ (by simp only [PyData.shownAll]; exact List.mem_cons_self ..))
    obtain ⟨b2, hb2, k2⟩ := RdNs.repr rs hs'.2 fun t ht => hz t (by simp only [PyData.shownAll]; exact List.mem_cons_of_mem _ ht)
    refine ⟨b1 ++ b2, by simp only [PyData.depthAll]; exact (hb1.mono (Nat.le_max_left _ _)).append (hb2.mono (Nat.le_max_right _ _)), ?_⟩
    simp only [PyData.depthAll, PyData.shownAll]
    exact .cons ((k1.more fun b hb => List.mem_append_left _ hb).level_le (Nat.le_max_left _ _)) (k2.more_le (fun b hb => List.mem_append_right _ hb) (Nat.le_max_right _ _))
end
/-- how a reference is shown -/
theorem shows_of {a : Addr} {d : PyData} (r : RdN h0 (.ref a) d) (hs : d.showable = true) (hsz : d.shown.length ≤ sizeLine) : ∃ T idr, ShowsBy prog w h0 a d T idr := by
  cases r with
  | lst h1 h2 h3 h4 =>
    rename_i o vs n xs
    have hz' : (listText (PyData.shownAll xs)).length ≤ sizeLine := by simpa only [PyData.shown] using hsz
    obtain ⟨bs, hb, hk⟩ := RdNs.repr (prog := prog) (w := w) h4 (by simpa [PyData.showable] using hs) fun t ht => Nat.le_trans (listText_mem_le ht) hz'
    obtain ⟨as, rr⟩ := RdN.reads (.lst h1 h2 h3 h4)
    have hna : a ∉ bs := not_mem_of_deeper rr (by simp only [PyData.depth]; omega) hb
    refine ⟨"list", "list.__repr__", F.slot_list_repr.toG, F.slot_list_str, F.slot_list_format, fun s hk0 => ⟨o, hk0 _ _ h1, h2⟩, fun A E s Q hg hu hk0 hQ => ?_⟩
    simp only [PyData.depth] at hu
    simp only [PyData.shown] at hQ
    obtain ⟨l⟩ := vs
    cases l with
    | nil =>
      have h4' : RdNs h0 [] xs := h4
      cases h4'
      simp only [PyData.shownAll, listText_nil] at hQ
      exact call_list_repr_empty ⟨o, hk0 _ _ h1, h2⟩ (hk0 _ _ h1) h3 (hQ s.heap _ _ fun _ _ e => e)
    | cons x l => exact call_list_reprK h1 h2 h3 hna (by simpa using hk.length_eq) (fun i y e => hk.item i y (by simpa using e)) hg (fun b _ => Clear.nil b) hu hk0 hQ hz'
  | tup h1 h2 h3 h4 =>
    rename_i o vs n xs
    have hz' : (tupleText (PyData.shownAll xs)).length ≤ sizeLine := by simpa only [PyData.shown] using hsz
    obtain ⟨bs, hb, hk⟩ := RdNs.repr (prog := prog) (w := w) h4 (by simpa [PyData.showable] using hs) fun t ht => Nat.le_trans (tupleText_mem_le ht) hz'
    obtain ⟨as, rr⟩ := RdN.reads (.tup h1 h2 h3 h4)
    have hna : a ∉ bs := not_mem_of_deeper rr (by simp only [PyData.depth]; omega) hb
    refine ⟨"tuple", "tuple.__repr__", F.slot_tuple_repr, F.slot_tuple_str, F.slot_tuple_format, fun s hk0 => ⟨o, hk0 _ _ h1, h2⟩, fun A E s Q hg hu hk0 hQ => ?_⟩
    simp only [PyData.depth] at hu
    simp only [PyData.shown] at hQ
    exact call_tuple_reprK h1 h2 h3 hna hk hg (fun b _ => Clear.nil b) hu hk0 hQ hz'
  | dct hm h1 h2 h3 h4 h5 =>
    rename_i o es n kvs
    have hz' : (dictText (PyData.shownKv kvs)).length ≤ sizeLine := by simpa only [PyData.shown] using hsz
    obtain ⟨hs1, hs2⟩ := PyData.showableKv_split kvs (by simpa [PyData.showable] using hs)
    obtain ⟨b1, hb1, k1⟩ := RdNs.repr (prog := prog) (w := w) h4 hs1 fun t ht => let ⟨p, hp, hl⟩ := PyData.shownKv_key_le kvs t ht; Nat.le_trans hl (Nat.le_trans (dictText_mem_le hp) hz')
    obtain ⟨b2, hb2, k2⟩ := RdNs.repr (prog := prog) (w := w) h5 hs2 fun t ht => let ⟨p, hp, hl⟩ := PyData.shownKv_val_le kvs t ht; Nat.le_trans hl (Nat.le_trans (dictText_mem_le hp) hz')
    obtain ⟨as, rr⟩ := RdN.reads (.dct hm h1 h2 h3 h4 h5)
    have hb : ReadAtMost h0 (PyData.depthKv kvs) (b1 ++ b2) := (hb1.mono (PyData.depthAll_keys_le kvs)).append (hb2.mono (PyData.depthAll_vals_le kvs))
    have hna : a ∉ b1 ++ b2 := not_mem_of_deeper rr (by simp only [PyData.depth]; omega) hb
    refine ⟨"dict", "dict.__repr__", F.slot_dict_repr, F.slot_dict_str, F.slot_dict_format, fun s hk0 => ⟨o, hk0 _ _ h1, h2⟩, fun A E s Q hg hu hk0 hQ => ?_⟩
    simp only [PyData.depth] at hu
    simp only [PyData.shown] at hQ
    exact call_dict_reprK h1 h2 h3 hm hna (showKv k1 k2) hg (fun b _ => Clear.nil b) hu hk0 hQ hz'
theorem repr_ref {A : Around} {E : Value → Shared → Prop} {s : Shared} {Q : Value → Shared → Prop} {a : Addr} {d : PyData} (r : RdN h0 (.ref a) d) (hs : d.showable = true) (hsz : d.shown.length ≤ sizeLine) (hg : A.guards = some []) (hu : A.units + (d.depth + 1) < cLine)
    (hk0 : ∀ b o, h0.get? b = some o → s.heap.get? b = some o) (hQ : ∀ h' u tk, (∀ b o, s.heap.get? b = some o → h'.get? b = some o) → Q (.str d.shown u) { s with heap := h', toks := tk }) : wpAny (model prog w) A (call (.builtin "repr") [.ref a]) Q E s := by
  obtain ⟨T, idr, S⟩ := shows_of (prog := prog) (w := w) r hs hsz
  exact call_repr_slot (by omega) (S.typeIs s hk0) S.slotRepr (S.call A.in1 E s _ hg (by show A.units + 1 + d.depth < cLine; omega) hk0 fun h' u tk hk => ⟨_, _, rfl, hQ h' u tk hk⟩)
end

/-! ### data as such -/
mutual
def toR : D → PyData
  | .bl b => .bool b
  | .int i => .int i
  | .str x => .str x
  | .tup xs => .tuple (toRs xs)
  | .lst xs => .list (toRs xs)
  | .wtp xs => .tuple (toRs xs)
  | .dct ps => .dict (toRp ps)
  | _ => .none
def toRs : List D → List PyData
  | [] => []
  | x :: xs => toR x :: toRs xs
def toRp : List (D × D) → List (PyData × PyData)
  | [] => []
  | (k, v) :: r => (toR k, toR v) :: toRp r
end
mutual
/-- nothing but None, bools, ints, texts, tuples, lists, dicts -/
def plainR : D → Bool
  | .non => true
  | .bl _ => true
  | .int _ => true
  | .str _ => true
  | .tup xs => plainRs xs
  | .lst xs => plainRs xs
  | .wtp xs => plainRs xs
  | .dct ps => plainRp ps
  | _ => false
def plainRs : List D → Bool
  | [] => true
  | x :: xs => plainR x && plainRs xs
def plainRp : List (D × D) → Bool
  | [] => true
  | (_, v) :: r => plainR v && plainRp r
end
theorem plainRs_at : ∀ {ds : List D}, plainRs ds = true → ∀ (i : Nat) d, ds[i]? = some d → plainR d = true
  | [], _, i, d, e => by simp at e
  | x :: xs, h, i, d, e => by
    simp only [plainRs, Bool.and_eq_true] at h
    cases i with
    | zero => simp at e; subst e; exact h.1
    | succ i => exact plainRs_at h.2 i d (by simpa using e)
theorem plainRp_at : ∀ {ds : List (D × D)}, plainRp ds = true → ∀ (i : Nat) d, ds[i]? = some d → plainR d.2 = true
  | [], _, i, d, e => by simp at e
  | (k, x) :: xs, h, i, d, e => by
    simp only [plainRp, Bool.and_eq_true] at h
    cases i with
    | zero => simp at e; subst e; exact h.1
    | succ i => exact plainRp_at h.2 i d (by simpa using e)
theorem toRp_fst : ∀ ps : List (D × D), (toRp ps).map (·.1) = toRs (ps.map (·.1))
  | [] => rfl
  | (k, v) :: r => by simp only [toRp, List.map_cons, toRs, toRp_fst r]
theorem toRp_snd : ∀ ps : List (D × D), (toRp ps).map (·.2) = toRs (ps.map (·.2))
  | [] => rfl
  | (k, v) :: r => by simp only [toRp, List.map_cons, toRs, toRp_snd r]
theorem rdNs_of {h : Heap} : ∀ {vs : List V} {us : List Value} {ds : List D}, Vals vs us → vs.length = ds.length → (∀ (i : Nat) (v : V) (d : D) (u : Value), vs[i]? = some v → ds[i]? = some d → RelV v u → RdN h u (toR d)) → RdNs h us (toRs ds)
  | [], _, [], r, _, _ => by cases r; simp only [toRs]; exact .nil
  | v :: vs, _, d :: ds, r, hl, q => by
    cases r with
    | cons r1 r2 =>
      simp only [toRs]
      exact .cons (q 0 v d _ rfl rfl r1) (rdNs_of r2 (by simpa using hl) fun i v d u h1 h2 => q (i + 1) v d u (by simpa using h1) (by simpa using h2))
  | [], _, _ :: _, _, hl, _ => by simp at hl
  | _ :: _, _, [], _, hl, _ => by simp at hl
theorem rdN_key {h : Heap} {k : Key} {u : Value} (r : keyIs k u = true) : RdN h u (toR (keyD k)) := by
  rcases keyIs_shape r with ⟨i, t, rfl, rfl⟩ | ⟨x, t, rfl, rfl⟩
  · exact .int i t
  · exact .str x t
theorem rdNs_items {P : Program} {w : World} {h : Heap} {ks : List Key} {us : List Value} (r : ItemsAre (mixKind P w) ks us) : RdNs h us (toRs (ks.map keyD)) := by
  induction r with
  | nil => simp only [List.map_nil, toRs]; exact .nil
  | cons r1 _ ih => simp only [List.map_cons, toRs]; exact .cons (rdN_key r1) ih
section
variable {G : Glob} {X : Cx} {pins : List (Addr × Obj)} {σ : L2.St} {S : Fz} {H : Hp} {s : Shared}
theorem rdN_dK {a : Addr} {kvs : List (Key × V)} {ps : List (D × D)} (I : Inv X pins σ H s) (e : Rd H a (.dK kvs)) (hl : kvs.length = ps.length) (hk : ∀ (i : Nat) (k : Key × V) (p : D × D), kvs[i]? = some k → ps[i]? = some p → p.1 = keyD k.1)
    (q : ∀ (i : Nat) (k : Key × V) (p : D × D) (u : Value), kvs[i]? = some k → ps[i]? = some p → RelV k.2 u → RdN s.heap u (toR p.2)) : RdN s.heap (.ref a) (.dict (toRp ps)) := by
  obtain ⟨hz0, hm, vs, rel, o, es, ep, h1, h2, h3, _, h4, hn0⟩ := dk_rd I.hok e
  clear hz0 hn0
  refine .dct hm h1 h2.1 h3 ?_ ?_
  · rw [toRp_fst]
    clear e h1 h2 h3 hm
    generalize es.toList = es at h4
    induction h4 generalizing kvs ps with
    | nil => cases rel; cases ps with
      | nil => simp only [List.map_nil, toRs]; exact .nil
      | cons _ _ => simp at hl
    | cons c1 c2 _ ih =>
      cases rel with
      | cons r1 r2 =>
        cases ps with
        | nil => simp at hl
        | cons p ps =>
          simp only [List.map_cons, toRs]
          refine .cons ?_ (ih (by simpa using hl) (fun i k p h1 h2 => hk (i + 1) k p (by simpa using h1) (by simpa using h2)) (fun i k p u h1 h2 => q (i + 1) k p u (by simpa using h1) (by simpa using h2)) r2)
          rw [hk 0 _ _ rfl rfl, r1.1]
          exact rdN_key c1
  · rw [toRp_snd]
    clear e h1 h2 h3 hm
    generalize es.toList = es at h4
    induction h4 generalizing kvs ps with
    | nil => cases rel; cases ps with
      | nil => simp only [List.map_nil, toRs]; exact .nil
      | cons _ _ => simp at hl
    | cons c1 c2 _ ih =>
      cases rel with
      | cons r1 r2 =>
        cases ps with
        | nil => simp at hl
        | cons p ps =>
          simp only [List.map_cons, toRs]
          refine .cons ?_ (ih (by simpa using hl) (fun i k p h1 h2 => hk (i + 1) k p (by simpa using h1) (by simpa using h2)) (fun i k p u h1 h2 => q (i + 1) k p u (by simpa using h1) (by simpa using h2)) r2)
          rw [c2]
          exact q 0 _ _ _ rfl rfl r1.2
theorem rdN_dT {a : Addr} {kvs : List (List Key × V)} {ps : List (D × D)} (I : Inv X pins σ H s) (e : Rd H a (.dT kvs)) (hl : kvs.length = ps.length) (hk : ∀ (i : Nat) (k : List Key × V) (p : D × D), kvs[i]? = some k → ps[i]? = some p → p.1 = .tup (k.1.map keyD))
    (q : ∀ (i : Nat) (k : List Key × V) (p : D × D) (u : Value), kvs[i]? = some k → ps[i]? = some p → RelV k.2 u → RdN s.heap u (toR p.2)) : RdN s.heap (.ref a) (.dict (toRp ps)) := by
  obtain ⟨hz0, hm, xs, rel, o, es, ep, h1, h2, h3, h4, h5, hn0⟩ := dt_rd I.hok e
  clear hz0 hn0
  refine .dct hm h1 h2.1 h3 ?_ ?_
  · rw [toRp_fst, h4]
    clear e h1 h2 h3 hm h4
    induction rel generalizing ps with
    | nil => cases ps with
      | nil => simp only [List.map_nil, toRs]; exact .nil
      | cons _ _ => simp at hl
    | cons r1 r2 ih =>
        cases ps with
        | nil => simp at hl
        | cons p ps =>
          simp only [List.map_cons, toRs]
          refine .cons ?_ (ih (by simpa using hl) (fun i k p h1 h2 => hk (i + 1) k p (by simpa using h1) (by simpa using h2)) (fun i k p u h1 h2 => q (i + 1) k p u (by simpa using h1) (by simpa using h2)) fun x hx => h5 x (List.mem_cons_of_mem _ hx))
          rw [hk 0 _ _ rfl rfl, r1.1]
          obtain ⟨o', items, n, g1, g2, g3, g4⟩ := h5 _ List.mem_cons_self
          simp only [toR]
          exact .tup g1 g2 g3 (rdNs_items g4)
  · rw [toRp_snd, h4]
    clear e h1 h2 h3 hm h4
    induction rel generalizing ps with
    | nil => cases ps with
      | nil => simp only [List.map_nil, toRs]; exact .nil
      | cons _ _ => simp at hl
    | cons r1 r2 ih =>
        cases ps with
        | nil => simp at hl
        | cons p ps =>
          simp only [List.map_cons, toRs]
          refine .cons ?_ (ih (by simpa using hl) (fun i k p h1 h2 => hk (i + 1) k p (by simpa using h1) (by simpa using h2)) (fun i k p u h1 h2 => q (i + 1) k p u (by simpa using h1) (by simpa using h2)) fun x hx => h5 x (List.mem_cons_of_mem _ hx))
          exact q 0 _ _ _ rfl rfl r1.2.2
theorem rdN_lst {a : Addr} {vs : List V} {ds : List D} (I : Inv X pins σ H s) (hs : SqL X.K H a vs) (hl : vs.length = ds.length) (q : ∀ (i : Nat) (v : V) (d : D) (u : Value), vs[i]? = some v → ds[i]? = some d → RelV v u → RdN s.heap u (toR d)) : RdN s.heap (.ref a) (.list (toRs ds)) := by
  obtain ⟨its, rv, ⟨o, n, ho, hc, _, hd⟩, _⟩ := I.list hs
  exact .lst ho hc hd (rdNs_of rv hl q)
theorem rdN_tup {a : Addr} {vs : List V} {ds : List D} (I : Inv X pins σ H s) (hs : SqT X.K H a vs) (hl : vs.length = ds.length) (q : ∀ (i : Nat) (v : V) (d : D) (u : Value), vs[i]? = some v → ds[i]? = some d → RelV v u → RdN s.heap u (toR d)) : RdN s.heap (.ref a) (.tuple (toRs ds)) := by
  obtain ⟨its, rv, ⟨o, ho, hc, n, hd⟩, _⟩ := I.tuple hs
  exact .tup ho hc hd (rdNs_of rv hl q)
theorem Den.rdN {v : V} {d : D} (h : Den G X.K S v d) (le : ∀ a o, S a = some o → H a = some o) (hp : plainR d = true) (I : Inv X pins σ H s) : ∀ {u : Value}, RelV v u → RdN s.heap u (toR d) := by
  have rle : ∀ {a u}, Rd S a u → Rd H a u := fun r => r.elim (fun r => .inl (le _ _ r)) fun ⟨o, r⟩ => .inr ⟨o, le _ _ r⟩
  induction h with
  | non => intro u r; cases r; exact .non
  | bl b => intro u r; cases r; exact .bl b
  | int i => intro u r; obtain ⟨t, rfl⟩ := r; exact .int i t
  | str x => intro u r; obtain ⟨t, rfl⟩ := r; exact .str x t
  | @tup a vs ds h l r ih =>
    intro u ru; cases ru
    simp only [toR]
    have hp' : plainRs ds = true := by simpa only [plainR] using hp
    exact rdN_tup I (SqT.of (le _ _ h)) l fun i v d u h1 h2 ru => ih i v d h1 h2 (plainRs_at hp' i d h2) ru
  | @lst a vs ds h l r ih =>
    intro u ru; cases ru
    simp only [toR]
    have hp' : plainRs ds = true := by simpa only [plainR] using hp
    exact rdN_lst I (SqL.of (le _ _ h)) l fun i v d u h1 h2 ru => ih i v d h1 h2 (plainRs_at hp' i d h2) ru
  | @wtp a vs ds h l r ih =>
    intro u ru; cases ru
    simp only [toR]
    have hp' : plainRs ds = true := by simpa only [plainR] using hp
    exact rdN_tup I (h H) l fun i v d u h1 h2 ru => ih i v d h1 h2 (plainRs_at hp' i d h2) ru
  | @dK a kvs ps h l k r ih =>
    intro u ru; cases ru
    simp only [toR]
    have hp' : plainRp ps = true := by simpa only [plainR] using hp
    exact rdN_dK I (rle h) l k fun i v d u h1 h2 ru => ih i v d h1 h2 (plainRp_at hp' i d h2) ru
  | @dT a kvs ps h n l k r ih =>
    intro u ru; cases ru
    simp only [toR]
    have hp' : plainRp ps = true := by simpa only [plainR] using hp
    exact rdN_dT I (rle h) l k fun i v d u h1 h2 ru => ih i v d h1 h2 (plainRp_at hp' i d h2) ru
  | ins => simp [plainR] at hp
  | cls => simp [plainR] at hp
  | tok => simp [plainR] at hp
  | wls => simp [plainR] at hp
  | exc0 => simp [plainR] at hp
  | exc1 => simp [plainR] at hp
theorem OwnAt.rdN {a : Addr} {o : Own} (h : OwnAt G X.K S H a o) (le : ∀ a o, S a = some o → H a = some o) (hp : plainR o.d = true) (I : Inv X pins σ H s) : RdN s.heap (.ref a) (toR o.d) := by
  cases o with
  | ins c fs => simp [Own.d, plainR] at hp
  | lst xs =>
    obtain ⟨vs, h, l⟩ := h
    have hp' : plainRs xs = true := by simpa only [Own.d, plainR] using hp
    simp only [Own.d, toR]
    exact rdN_lst I (SqL.of h) l.length fun i v d u h1 h2 ru => (paired_at l i v d h1 h2).rdN le (plainRs_at hp' i d h2) I ru
  | dct ps =>
    have hp' : plainRp ps = true := by simpa only [Own.d, plainR] using hp
    simp only [Own.d, toR]
    rcases h with ⟨kvs, h, l⟩ | ⟨kvs, h, _, l⟩
    · exact rdN_dK I (.inl h) l.length (fun i v d h1 h2 => (paired_at l i v d h1 h2).1) fun i v d u h1 h2 ru => (paired_at l i v d h1 h2).2.rdN le (plainRp_at hp' i d h2) I ru
    · exact rdN_dT I (.inl h) l.length (fun i v d h1 h2 => (paired_at l i v d h1 h2).1) fun i v d u h1 h2 ru => (paired_at l i v d h1 h2).2.rdN le (plainRp_at hp' i d h2) I ru
end
/-- a reference that is read as data -/
def rRepr (K : PySem.W.Frag) (x : V) (H : Hp) (Q : VK) : Prop := ∃ (G : Glob) (S : Fz) (d : D), (Den G K S x d ∨ ∃ a o, x = .ref a ∧ d = Own.d o ∧ OwnAt G K S H a o) ∧ (∀ a o, S a = some o → H a = some o) ∧ plainR d = true ∧ (toR d).showable = true ∧ (toR d).shown.length ≤ sizeLine ∧ (toR d).depth ≤ 60 ∧
  (∃ a, x = .ref a) ∧ Q (.str (toR d).shown) H
theorem call_reprD {X : Cx} (hg : X.A.guards = some []) (hu : X.A.units + 64 < cLine) : CallR X (.builtin "repr") (fun xs H Q => ∃ x, xs = [x] ∧ rRepr X.K x H Q) := by
  intro pins s σ H xs us Q I r h
  obtain ⟨x, rfl, G, S, d, hd, le, hp, hs, hz, hdp, ⟨a, rfl⟩, q⟩ := h
  obtain ⟨u, rfl, ru⟩ := vals1 r
  cases ru
  have rd : RdN s.heap (.ref a) (toR d) := by
    rcases hd with hd | ⟨b, o, e, rfl, w⟩
    · exact hd.rdN le hp I rfl
    · cases e
      exact w.rdN le hp I
  exact repr_ref rd hs hz hg (by omega) (fun _ _ e => e) fun h' u tk hk => ⟨.str _, H, I.kept (t' := tk) hk, ⟨u, rfl⟩, q⟩
def isRefD : D → Bool
  | .tup _ => true
  | .lst _ => true
  | .dct _ => true
  | .wtp _ => true
  | _ => false
def opRepr (x : D) (P : D → Prop) : Prop := isRefD x = true ∧ plainR x = true ∧ (toR x).showable = true ∧ (toR x).shown.length ≤ sizeLine ∧ (toR x).depth ≤ 60 ∧ P (.str (toR x).shown)
section
variable {G : Glob} {X : Cx} {O : XO} {e : Expr} {ka : Kd} {ca : Bool} {na : Nat} {fa : FE} {pos p : Pos}
theorem s_repr : R1s G X O (rRepr X.K) opRepr .st := by
  intro B S H σ ρ ka v x Kc Q I r h hq
  obtain ⟨h0, h1, h2, h3, h4, h5⟩ := h
  refine ⟨G, S, x, r.own I, I.le, h1, h2, h3, h4, ?_, hq _ H S _ I (Sub.refl _) (Den.str _) h5⟩
  rcases r.own I with r | ⟨a, o, e, _⟩
  · cases r <;> first | exact ⟨_, rfl⟩ | simp [isRefD] at h0
  · exact ⟨a, e⟩
theorem e_repr (ha : PDe G X O e ka ca na fa) (hg : X.A.guards = some []) (hu : X.A.units + 64 < cLine) (hm : X.mg "repr" = none) (hgl : Gl X "repr" := by rfl)
    (he : starEach [e] X.env = (false, eval e X.env) :: starEach [] X.env := by rfl) (hpl : (backTo pos (starEach [] X.env)).any (·.1) = false := by rfl) : PDe G X O (.Call (.Name "repr" p) [e] [] pos) .st ca na (fUn opRepr fa) :=
  e_callB1 (r := rRepr X.K) (call_reprD hg hu) (fun v H Q h => ⟨v, rfl, h⟩) s_repr ha hm hgl (by rfl) (by decide) (by decide) he hpl
end
end WL

/-! WN: calls of defs with keywords. -/
namespace WL
open PySem PySem.Spec PyProof.Rows L2
section
variable {X : Cx} {k n : Nat} {f : Addr} {fd : FuncData} {ps ks : List Str} {sp : Sp} {E : L2.St → XK} {x : Str} {p pos : Pos} {e : Expr} {es : List Expr} {kws : List Keyword} {t tk : TA} {g : List Value → List Value → List Value} {gV : List V → List V → List V}
def tCallGK (n m : Nat) (sp : Sp) (gV : List V → List V → List V) (E : L2.St → XK) (t tk : TA) : TE := fun σ H Q => t σ H fun vs H1 => tk σ H1 fun zs H2 => vs.length = n ∧ zs.length = m ∧ sp (gV vs zs) H2 Q (E σ)
theorem run_GkN {pins : List (Addr × Obj)} {σ : L2.St} {H : Hp} {s : Shared} {Q : VK} {us ws : List Value} {vs zs : List V} (F : FnG X.prog X.w X.K X.mg X.base k f fd ps sp) (hr : Room k X.A) (hgd : X.A.guards = some []) (hb : KBn X.K fd ps n ks g gV) (hx : PassesAt (L2.CX X.prog X.w) X σ (E σ))
    (I : Inv X pins σ H s) (r : Vals vs us) (rz : Vals zs ws) (l1 : vs.length = n) (l2 : zs.length = ks.length) (h : sp (gV vs zs) H Q (E σ)) : wpAny (model X.prog X.w) X.A (call (.ref f) us (ks.zip ws)) (EP X pins σ Q) X.xe s := by
  refine wpAny_call (codeAny_mono (run_G (args := ⟨us, ks.zip ws⟩) F hr hgd hx I (hb.to s us ws I.kIn (r.length.symm.trans l1) (rz.length.symm.trans l2)) (hb.rel r rz) h) fun r s' hq => ?_)
  match r, hq with
  | .error e, hq => exact hq
  | .ok (.ret u), hq => exact hq
  | .ok .next, hq => exact hq.elim
  | .ok .brk, hq => exact hq.elim
  | .ok .cont, hq => exact hq.elim
theorem pe_callGK (F : FnG X.prog X.w X.K X.mg X.base k f fd ps sp) (hr : Room k X.A) (hgd : X.A.guards = some []) (hg : Gl X x) (hm : X.mg x = some (.ref f)) (hk : PySem.W.keepIn X.K (.ref f) = true) (hb : KBn X.K fd ps n ks g gV) (hx : ∀ σ, PassesAt (L2.CX X.prog X.w) X σ (E σ))
    (ha : PA X (e :: es) t) (hkw : PK X kws tk) (hall : (backToKw pos (keywordEach kws X.env)).all (·.1.isSome) = true) (hks : (backToKw pos (keywordEach kws X.env)).filterMap (·.1) = ks)
    (hdb : (x == ("__debug__" : Str)) = false) (he : starEach (e :: es) X.env = (false, eval e X.env) :: starEach es X.env)
    (hpl : ((backTo pos (starEach (e :: es) X.env)).any (·.1) || (backToKw pos (keywordEach kws X.env)).any (·.1.isNone)) = false) :
    PE X (.Call (.Name x p) (e :: es) kws pos) (tCallGK n ks.length sp gV E t tk) := by
  refine ⟨fun pins s σ H Q I h => ?_⟩
  refine wpAny_Call_Name_kw (ld_glob I hg hm ?_ hdb)
  refine PySem.W.callWith_KW (h₀ := X.base) I.ok.mod.kin hk hall (thn (ha.run pos pins s σ H _ I h) fun us s1 ⟨vs, H1, I1, r, q⟩ => ?_) hpl he
  refine thn (hkw.run pos pins s1 σ H1 _ I1 q) fun ws s2 ⟨zs, H2, I2, rz, l1, l2, q2⟩ => ⟨I2.kIn, ?_⟩
  rw [hks]
  exact run_GkN F hr hgd hb (hx σ) I2 r rz l1 l2 q2
theorem pe_callGK0 (F : FnG X.prog X.w X.K X.mg X.base k f fd ps sp) (hr : Room k X.A) (hgd : X.A.guards = some []) (hg : Gl X x) (hm : X.mg x = some (.ref f)) (hk : PySem.W.keepIn X.K (.ref f) = true) (hb : KBn X.K fd ps 0 ks g gV) (hx : ∀ σ, PassesAt (L2.CX X.prog X.w) X σ (E σ))
    (hkw : PK X kws tk) (hall : (backToKw pos (keywordEach kws X.env)).all (·.1.isSome) = true) (hks : (backToKw pos (keywordEach kws X.env)).filterMap (·.1) = ks)
    (hdb : (x == ("__debug__" : Str)) = false)
    (hpl : ((backTo pos (starEach [] X.env)).any (·.1) || (backToKw pos (keywordEach kws X.env)).any (·.1.isNone)) = false) :
    PE X (.Call (.Name x p) [] kws pos) (tCallGK 0 ks.length sp gV E tNil tk) := by
  refine ⟨fun pins s σ H Q I h => ?_⟩
  refine wpAny_Call_Name_kw (ld_glob I hg hm ?_ hdb)
  refine PySem.W.callWith_KW0 (h₀ := X.base) I.ok.mod.kin hk hall ?_ hpl
  refine thn (hkw.run pos pins s σ H _ I h) fun ws s2 ⟨zs, H2, I2, rz, l1, l2, q2⟩ => ⟨I2.kIn, ?_⟩
  rw [hks]
  exact run_GkN (us := []) F hr hgd hb (hx σ) I2 .nil rz l1 l2 q2
end
/-! ### over data -/
structure PDk (G : Glob) (X : Cx) (O : XO) (es : List Keyword) (c : Bool) (n : Nat) (f : FA) : Prop where
  run : ∃ t : TA, PK X es t ∧ ∀ (B : Bs) (S : Fz) (H : Hp) (σ : L2.St) (ρ : EnvD) (Kc : EnvD → List D → Prop) (Q : List V → Hp → Prop), Eok G X.K O B S H σ ρ → S.T + n ≤ limT → f ρ Kc →
    (∀ vs H' S' ρ' ds, Eok G X.K O B S' H' σ ρ' → Sub n S S' → (c = true → ρ' = ρ) → DenL G X.K S' vs ds → Kc ρ' ds → Q vs H') → t σ H Q
/-- the def x of the module, called with n positional values and the keywords ks; gD: the order of the parameters -/
structure FnK (G : Glob) (P : Program) (w : World) (K : PySem.W.Frag) (mg : Str → Option Value) (base : Heap) (x : Str) (k : Nat) (rk : Bool) (m : Spc) (n : Nat) (ks : List Str) (gD : List D → List D → List D) : Prop where
  ex : ∃ (f : Addr) (fd : FuncData) (ps : List Str) (g : List Value → List Value → List Value) (gV : List V → List V → List V), FnG P w K mg base k f fd ps (spD G K rk ps.length m) ∧ mg x = some (.ref f) ∧ PySem.W.keepIn K (.ref f) = true ∧ KBn K fd ps n ks g gV ∧
    (∀ S vs zs ds es, DenL G K S vs ds → DenL G K S zs es → vs.length = n → zs.length = ks.length → DenL G K S (gV vs zs) (gD ds es) ∧ (gV vs zs).length = ps.length)
def fCallK (xd : D → Prop) (m : Spc) (n j : Nat) (gD : List D → List D → List D) (fa fk : FA) : FE := fun ρ Kc => fa ρ fun ρ1 ds => fk ρ1 fun ρ2 es => (ds.length = n ∧ es.length = j) ∧ m.pre (gD ds es) ∧ (∀ d, m.post (gD ds es) d → Kc ρ2 d) ∧ ∀ x, m.exc (gD ds es) x → xd x
section
variable {G : Glob} {X : Cx} {O : XO} {rk : Bool} {x : Str} {p pos kpos : Pos} {e : Expr} {es : List Expr} {kws : List Keyword} {k j n : Nat} {m : Spc} {ks : List Str} {gD : List D → List D → List D} {c ca cb : Bool} {na nb : Nat} {fa fk : FA} {f : FE} {nm : Option Str}
theorem k_nil : PDk G X O [] true 0 fNil := ⟨_, pk_nil, fun B S H σ ρ Kc Q I hb hf hq => hq [] H S ρ [] I (Sub.refl _) (fun _ => rfl) .nil hf⟩
theorem k_cons (ha : PDe G X O e .st ca na f) (hr : PDk G X O kws cb nb fk) : PDk G X O (⟨nm, e, kpos⟩ :: kws) (ca && cb) (na + nb) (fCons f fk) := by
  obtain ⟨ta, pa, qa⟩ := ha.run
  obtain ⟨tb, pb, qb⟩ := hr.run
  refine ⟨_, pk_cons pa pb, fun B S H σ ρ Kc Q I hb hf hq => ?_⟩
  refine qa B S H σ ρ _ _ I (by omega) hf fun v H1 S1 ρ1 x I1 m1 c1 r1 h1 => ?_
  refine qb B S1 H1 σ ρ1 _ _ I1 (by have := m1.lo; omega) h1 fun vs H2 S2 ρ2 xs I2 m2 c2 r2 h2 => ?_
  exact hq _ H2 S2 ρ2 _ I2 (m1.trans m2) (fun z => by
    have := Bool.and_eq_true_iff.mp z
    rw [c2 this.2, c1 this.1]) (.cons (Den.mono m2 r1) r2) h2
theorem ek_read {f : Addr} {fd : FuncData} {ps : List Str} {gV : List V → List V → List V} {t tk : TA} {E : L2.St → XK} (hW : ∀ σ cls dx H x, O.xd x → O.W cls dx σ H → E σ cls dx H) (hx0 : m.cost = 0 ∨ ∀ x, ¬ O.xd x)
    (hD : ∀ S vs zs ds es, DenL G X.K S vs ds → DenL G X.K S zs es → vs.length = n → zs.length = j → DenL G X.K S (gV vs zs) (gD ds es) ∧ (gV vs zs).length = ps.length)
    (qa : ∀ (B : Bs) (S : Fz) (H : Hp) (σ : L2.St) (ρ : EnvD) (Kc : EnvD → List D → Prop) (Q : List V → Hp → Prop), Eok G X.K O B S H σ ρ → S.T + na ≤ limT → fa ρ Kc → (∀ vs H' S' ρ' ds, Eok G X.K O B S' H' σ ρ' → Sub na S S' → (ca = true → ρ' = ρ) → DenL G X.K S' vs ds → Kc ρ' ds → Q vs H') → t σ H Q)
    (qb : ∀ (B : Bs) (S : Fz) (H : Hp) (σ : L2.St) (ρ : EnvD) (Kc : EnvD → List D → Prop) (Q : List V → Hp → Prop), Eok G X.K O B S H σ ρ → S.T + nb ≤ limT → fk ρ Kc → (∀ vs H' S' ρ' ds, Eok G X.K O B S' H' σ ρ' → Sub nb S S' → (cb = true → ρ' = ρ) → DenL G X.K S' vs ds → Kc ρ' ds → Q vs H') → tk σ H Q)
    (B : Bs) (S : Fz) (H : Hp) (σ : L2.St) (ρ : EnvD) (Kc : EnvD → D → Prop) (Q : VK) (I : Eok G X.K O B S H σ ρ) (hb : S.T + (na + nb + m.cost) ≤ limT) (hf : fCallK O.xd m n j gD fa fk ρ Kc)
    (hq : ∀ v H' S' ρ' d, Eok G X.K O B S' H' σ ρ' → Sub (na + nb + m.cost) S S' → ((ca && cb) = true → ρ' = ρ) → ROk G X.K B S' H' σ ρ' v d (rkK rk) → Kc ρ' d → Q v H') : tCallGK n j (spD G X.K rk ps.length m) gV E t tk σ H Q := by
  refine qa B S H σ ρ _ _ I (by omega) hf fun vs H1 S1 ρ1 xs I1 m1 c1 r1 h1 => ?_
  refine qb B S1 H1 σ ρ1 _ _ I1 (by have := m1.lo; omega) h1 fun zs H2 S2 ρ2 ys I2 m2 c2 r2 h2 => ?_
  obtain ⟨⟨l1, l2⟩, hp, hpost, hx⟩ := h2
  have r1' := DenL.mono m2 r1
  have l1' := r1.length.trans l1
  have l2' := r2.length.trans l2
  obtain ⟨r3, l3⟩ := hD S2 vs zs xs ys r1' r2 l1' l2'
  refine ⟨l1', l2', S2, gD xs ys, l3, I2.toSta.enter, (by have := m1.lo; have := m2.lo; omega), r3, hp, fun v H' S' d J m' r' hpo => ?_, fun n2 cls dx S' H' x' J l2 m' dd hxe => ?_⟩
  · exact hq v H' S' ρ2 d (I2.call J hx0 m') ((m1.trans m2).trans m') (fun z => by
      have := Bool.and_eq_true_iff.mp z
      rw [c2 this.2, c1 this.1]) (I2.answer J m' r') (hpost d hpo)
  · rcases I2.tz with z | z
    · exact hW _ _ _ _ x' (hx x' hxe) (I2.xr n2 cls dx S' H' σ x' (I2.toSta.call J) (Nat.le_trans l2 z) m' (fun _ _ => rfl) dd (hx x' hxe))
    · exact absurd (hx x' hxe) (z x')
theorem e_callK (F : FnK G X.prog X.w X.K X.mg X.base x k rk m n ks gD) (hr : Room j X.A) (hgd : X.A.guards = some []) (hk : k ≤ j) (tk : Lets X O) (ha : PDa G X O (e :: es) ca na fa) (hb : PDk G X O kws cb nb fk) (hx0 : m.cost = 0 ∨ ∀ x, ¬ O.xd x := by first | exact .inl rfl | exact .inr fun _ z => z) (hg : Gl X x := by rfl)
    (hall : (backToKw pos (keywordEach kws X.env)).all (·.1.isSome) = true := by rfl) (hks : (backToKw pos (keywordEach kws X.env)).filterMap (·.1) = ks := by rfl) (hdb : (x == ("__debug__" : Str)) = false := by decide)
    (he : starEach (e :: es) X.env = (false, eval e X.env) :: starEach es X.env := by rfl) (hpl : ((backTo pos (starEach (e :: es) X.env)).any (·.1) || (backToKw pos (keywordEach kws X.env)).any (·.1.isNone)) = false := by rfl) :
    PDe G X O (.Call (.Name x p) (e :: es) kws pos) (rkK rk) (ca && cb) (na + nb + m.cost) (fCallK O.xd m n ks.length gD fa fk) := by
  obtain ⟨f, fd, ps, g, gV, F, hm, hkp, hkb, hD⟩ := F.ex
  obtain ⟨E, hE, hW⟩ := tk.ex
  obtain ⟨t, pa, qa⟩ := ha.run
  obtain ⟨t2, pb, qb⟩ := hb.run
  exact ⟨_, pe_callGK F (hr.mono hk) hgd hg hm hkp hkb hE pa pb hall hks hdb he hpl, fun B S H σ ρ Kc Q I hb hf hq => ek_read (f := f) (fd := fd) hW hx0 hD qa qb B S H σ ρ Kc Q I (by omega) hf hq⟩
theorem e_callK0 (F : FnK G X.prog X.w X.K X.mg X.base x k rk m 0 ks gD) (hr : Room j X.A) (hgd : X.A.guards = some []) (hk : k ≤ j) (tk : Lets X O) (hb : PDk G X O kws cb nb fk) (hx0 : m.cost = 0 ∨ ∀ x, ¬ O.xd x := by first | exact .inl rfl | exact .inr fun _ z => z) (hg : Gl X x := by rfl)
    (hall : (backToKw pos (keywordEach kws X.env)).all (·.1.isSome) = true := by rfl) (hks : (backToKw pos (keywordEach kws X.env)).filterMap (·.1) = ks := by rfl) (hdb : (x == ("__debug__" : Str)) = false := by decide)
    (hpl : ((backTo pos (starEach [] X.env)).any (·.1) || (backToKw pos (keywordEach kws X.env)).any (·.1.isNone)) = false := by rfl) :
    PDe G X O (.Call (.Name x p) [] kws pos) (rkK rk) (true && cb) (0 + nb + m.cost) (fCallK O.xd m 0 ks.length gD fNil fk) := by
  obtain ⟨f, fd, ps, g, gV, F, hm, hkp, hkb, hD⟩ := F.ex
  obtain ⟨E, hE, hW⟩ := tk.ex
  obtain ⟨t2, pb, qb⟩ := hb.run
  exact ⟨_, pe_callGK0 F (hr.mono hk) hgd hg hm hkp hkb hE pb hall hks hdb hpl, fun B S H σ ρ Kc Q I hb hf hq => ek_read (f := f) (fd := fd) (ca := true) (na := 0) hW hx0 hD (fun B S H σ ρ Kc Q I hb hf hq => hq [] H S ρ [] I (Sub.refl _) (fun _ => rfl) .nil hf) qb B S H σ ρ Kc Q I (by omega) hf hq⟩
/-- no positional ones either -/
theorem e_call0 {dds : List D} (F : Fn G X.prog X.w X.K X.mg X.base x k rk m dds) (hr : Room j X.A) (hgd : X.A.guards = some []) (hk : k ≤ j) (tk : Lets X O) (hx0 : m.cost = 0 ∨ ∀ x, ¬ O.xd x := by first | exact .inl rfl | exact .inr fun _ z => z) (hg : Gl X x := by rfl) (hdb : (x == ("__debug__" : Str)) = false := by decide) :
    PDe G X O (.Call (.Name x p) [] [] pos) (rkK rk) true m.cost (fCall O.xd m dds fNil) := by
  obtain ⟨f, fd, ps, ds, dvs, F, hm, hkp, hb, hv, hd, hlen⟩ := F.ex
  obtain ⟨E, hE, hW⟩ := tk.ex
  refine ⟨_, pe_callG0 F (hr.mono hk) hgd hg hm hkp hb hv hE hdb, fun B S H σ ρ Kc Q I hb hf hq => ?_⟩
  obtain ⟨har, hp, hpost, hx⟩ := hf
  have r2 : DenL G X.K S ([] ++ dvs) ([] ++ dds) := paired_append .nil (hd S)
  refine ⟨S, [] ++ dds, ?_, I.toSta.enter, hb, r2, hp, fun v H' S' d J m' r' hpo => ?_, fun n2 cls dx S' H' x' J l2 m' dd hxe => ?_⟩
  · rw [r2.length, List.length_append, hlen]; exact har
  · exact hq v H' S' ρ d (I.call J hx0 m') m' (fun _ => rfl) (I.answer J m' r') (hpost d hpo)
  · rcases I.tz with z | z
    · exact hW _ _ _ _ x' (hx x' hxe) (I.xr n2 cls dx S' H' σ x' (I.toSta.call J) (Nat.le_trans l2 z) m' (fun _ _ => rfl) dd (hx x' hxe))
    · exact absurd (hx x' hxe) (z x')
end
end WL

/-! WO: dict displays, dict stores. -/
namespace WL
open PySem PySem.Spec PyProof.Rows L2
abbrev FP := EnvD → (EnvD → List (D × D) → Prop) → Prop
def DenP (G : Glob) (K : PySem.W.Frag) (S : Fz) (ps : List (V × V)) (ds : List (D × D)) : Prop := Paired (fun p d => Den G K S p.1 d.1 ∧ Den G K S p.2 d.2) ps ds
structure PDp (G : Glob) (X : Cx) (O : XO) (pos : Pos) (keys : List (Option Expr)) (values : List Expr) (c : Bool) (n : Nat) (f : FP) : Prop where
  run : ∃ trs : List (TE × TE), PPs X pos keys values trs ∧ ∀ (B : Bs) (S : Fz) (H : Hp) (σ : L2.St) (ρ : EnvD) (Kc : EnvD → List (D × D) → Prop) (Q : List (V × V) → Hp → Prop), Eok G X.K O B S H σ ρ → S.T + n ≤ limT → f ρ Kc →
    (∀ vs H' S' ρ' ds, Eok G X.K O B S' H' σ ρ' → Sub n S S' → (c = true → ρ' = ρ) → DenP G X.K S' vs ds → Kc ρ' ds → Q vs H') → tPairs trs σ H Q
def fPNil : FP := fun ρ Kc => Kc ρ []
def fPCons (fk fv : FE) (fr : FP) : FP := fun ρ Kc => fk ρ fun ρ1 x => fv ρ1 fun ρ2 y => fr ρ2 fun ρ3 r => Kc ρ3 ((x, y) :: r)
/-- the pairs put one behind another -/
def mergeD (ds : List (D × D)) : List (D × D) := ds.foldl (fun acc p => putD acc p.1 p.2) []
def keysOk : List (D × D) → Bool
  | [] => true
  | p :: r => (key1 p.1).isSome && keysOk r
def fDisp (fp : FP) : FE := fun ρ Kc => fp ρ fun ρ1 ds => (keysOk ds = true ∧ ds.length ≤ 15) ∧ Kc ρ1 (.dct (mergeD ds))
section
variable {G : Glob} {X : Cx} {O : XO} {ka kb k v e : Expr} {c ca cb cr : Bool} {n na nb nr : Nat} {fa fb f : FE} {fr : FP} {pos : Pos} {keys : List (Option Expr)} {values : List Expr}
theorem p_nil : PDp G X O pos [] [] true 0 fPNil := ⟨_, pps_nil, fun B S H σ ρ Kc Q I hb hf hq => hq [] H S ρ [] I (Sub.refl _) (fun _ => rfl) .nil hf⟩
theorem p_cons (hk : PDe G X O k .st ca na fa) (hv : PDe G X O v .st cb nb fb) (hr : PDp G X O pos keys values cr nr fr) : PDp G X O pos (some k :: keys) (v :: values) (ca && (cb && cr)) (na + (nb + nr)) (fPCons fa fb fr) := by
  obtain ⟨ta, pa, qa⟩ := hk.run
  obtain ⟨tb, pb, qb⟩ := hv.run
  obtain ⟨tr, pr, qr⟩ := hr.run
  refine ⟨_, pps_cons pa pb pr, fun B S H σ ρ Kc Q I hb hf hq => ?_⟩
  refine qa B S H σ ρ _ _ I (by omega) hf fun v H1 S1 ρ1 x I1 m1 c1 r1 h1 => ?_
  refine qb B S1 H1 σ ρ1 _ _ I1 (by have := m1.lo; omega) h1 fun w H2 S2 ρ2 y I2 m2 c2 r2 h2 => ?_
  refine qr B S2 H2 σ ρ2 _ _ I2 (by have := m1.lo; have := m2.lo; omega) h2 fun vs H3 S3 ρ3 ds I3 m3 c3 r3 h3 => ?_
  refine hq _ H3 S3 ρ3 _ I3 (m1.trans (m2.trans m3)) (fun z => ?_) (.cons (show Den G X.K S3 v x ∧ Den G X.K S3 w y from ⟨Den.mono (m2.trans m3) r1, Den.mono m3 r2⟩) r3) h3
  have z1 := Bool.and_eq_true_iff.mp z
  have z2 := Bool.and_eq_true_iff.mp z1.2
  rw [c3 z2.2, c2 z2.1, c1 z1.1]
theorem denP_keys {K : PySem.W.Frag} {S : Fz} : ∀ {ps : List (V × V)} {ds : List (D × D)}, DenP G K S ps ds → keysOk ds = true → ∃ kvs : List (Key × V), ps = kvs.map (fun kv => (kV kv.1, kv.2)) ∧ DenK G K S kvs ds
  | [], [], _, _ => ⟨[], rfl, .nil⟩
  | p :: ps, d :: ds, h, hk => by
    cases h with
    | cons r t =>
      simp only [keysOk, Bool.and_eq_true] at hk
      obtain ⟨k, ek⟩ := Option.isSome_iff_exists.mp hk.1
      obtain ⟨kvs, e, l⟩ := denP_keys t hk.2
      have e1 := key1_inv ek
      have rk := r.1
      rw [e1] at rk
      refine ⟨(k, p.2) :: kvs, ?_, .cons ⟨e1, r.2⟩ l⟩
      rw [List.map_cons, ← e, ← den_key rk]
  | [], _ :: _, h, _ => by cases h
  | _ :: _, [], h, _ => by cases h
theorem denK_merge {K : PySem.W.Frag} {S : Fz} : ∀ {kvs : List (Key × V)} {ds : List (D × D)} {acc : List (Key × V)} {bcc : List (D × D)}, DenK G K S kvs ds → DenK G K S acc bcc → DenK G K S (mergeK acc kvs) (ds.foldl (fun acc p => putD acc p.1 p.2) bcc)
  | [], _, acc, bcc, h, ha => by cases h; exact ha
  | p :: kvs, _, acc, bcc, h, ha => by
    cases h with
    | @cons _ d _ ds r t =>
      show DenK G K S (mergeK (putK acc p.1 p.2) kvs) (ds.foldl (fun acc p => putD acc p.1 p.2) (putD bcc d.1 d.2))
      rw [r.1]
      exact denK_merge t (ha.put p.1 r.2)
theorem e_disp (hp : PDp G X O pos keys values c n fr) (hall : keys.all (·.isSome) = true := by rfl) (hl : keys.length = values.length := by rfl) (h0 : keys ≠ [] := by exact List.cons_ne_nil _ _) (h15 : keys.length ≤ 15 := by decide) : PDe G X O (.Dict keys values pos) .fr c n (fDisp fr) := by
  obtain ⟨tr, pr, qr⟩ := hp.run
  refine ⟨_, pe_disp pr hall hl h0 h15, fun B S H σ ρ Kc Q I hb hf hq p hp => ?_⟩
  obtain ⟨hs, hm, hh⟩ := I.toSta.new hp
  have I0 := (I.laid (u := .dK []) hp).aside (o := .dct []) ⟨hs, hm, hh, .inl ⟨[], upd_same, .nil⟩⟩ (I.laid (u := .dK []) hp |> fun _ => I.nob hp)
  refine qr _ S _ σ ρ _ _ I0 hb hf fun vs H2 S2 ρ2 ds I2 m2 c2 r2 h2 => ?_
  obtain ⟨⟨hk, hn⟩, h3⟩ := h2
  obtain ⟨_, w, _⟩ := I2.back
  have e2 : H2 p = some (.dK []) := by
    rcases w.at_ with ⟨kvs, e, l⟩ | ⟨kvs, _, n, l⟩
    · cases l; exact e
    · cases l; exact absurd rfl n
  obtain ⟨kvs, e3, l⟩ := denP_keys r2 hk
  have l2 := denK_merge l (acc := []) (bcc := []) .nil
  obtain ⟨I3, w3, n3⟩ := (I2.chgAside (o' := .dct (mergeD ds)) (u := .dK (mergeK [] kvs)) (.inl ⟨_, upd_same, l2⟩)).back
  exact ⟨e2, kvs, e3, by rw [l.length]; exact hn, hq _ _ S2 ρ2 _ I3 m2 c2 ⟨p, .dct (mergeD ds), rfl, rfl, w3, rfl, n3⟩ h3⟩
/-- {} -/
theorem e_dnew : PDe G X O (.Dict [] [] pos) .fr true 0 (fC (.dct [])) := ⟨_, pe_dnewK, fun B S H σ ρ Kc Q I hb hf hq p hp => by
  obtain ⟨I', r⟩ := I.lays (u := .dK []) (o := .dct []) hp (.inl ⟨[], upd_same, .nil⟩)
  exact hq _ _ _ _ _ I' (Sub.refl _) (fun _ => rfl) r hf⟩

/-! ### d[k] = v -/
/-- a new dict that is empty may be one of either kind -/
theorem Inv.retag {pins : List (Addr × Obj)} {σ : L2.St} {H : Hp} {s : Shared} {a : Addr} (I : Inv X pins σ H s) (e : H a = some (.dK [])) : Inv X pins σ (upd H a (.dT [])) s := by
  obtain ⟨z, hd, vs, r, o, es, ep, h1, h2, h3, _, h4, _⟩ := dk_of I.hok e
  cases r
  have e4 : es.toList = [] := by cases hh : es.toList with
    | nil => rfl
    | cons a l => rw [hh] at h4; cases h4
  have := d_write (t' := s.toks) (ob := .dT []) I (by rw [e]; exact True.intro) (h' := s.heap) ⟨rfl, fun _ _ => rfl⟩ ⟨o, h1⟩ ⟨Nat.zero_le _, hd, [], .nil, o, es, ep, h1, h2, h3, e4, List.nodup_nil⟩
  exact this
def DPutR (H : Hp) (a : Addr) (y v : V) (H' : Hp) : Prop := DPut H a y v H' ∨ (H a = some (.dK []) ∧ DPut (upd H a (.dT [])) a y v H')
def sDPutR (td ty tv : TE) : TS := fun D σ H => tv σ H fun v H1 => td σ H1 fun x H2 => ty σ H2 fun y H3 => ∃ a H4, x = .ref a ∧ DPutR H3 a y v H4 ∧ D.nx σ H4
theorem ps_dputR {o i value : Expr} {pos pos' : Pos} {td ty tv : TE} (hu : X.A.units + 1 < cLine) (ho : PE X o td) (hi : PE X i ty) (hv : PE X value tv) (hs : swapsWith value (some (.Subscript o i pos')) pos.line X.env = pure false) :
    PS X (.Assign [.Subscript o i pos'] value pos) (sDPutR td ty tv) := by
  refine ⟨fun pins s σ H D I h => ?_⟩
  refine wpAny_Assign_Subscript (thn (hv.run pins s σ H _ I h) fun r s1 ⟨v, H1, I1, rv, q1⟩ => thn (ho.run pins s1 σ H1 _ I1 q1) fun u s2 ⟨x, H2, I2, rx, q2⟩ => thn (hi.run pins s2 σ H2 _ I2 q2) fun iv s3 ⟨y, H3, I3, ry, a, H4, ex, g, q3⟩ => ?_) hs
  subst ex
  obtain rfl : u = Value.ref a := rx
  rcases g with g | ⟨e, g⟩
  · exact d_setItem hu I3 g ry rv fun s4 I4 => ⟨σ, H4, I4, q3⟩
  · exact d_setItem hu (Inv.retag I3 e) g ry rv fun s4 I4 => ⟨σ, H4, I4, q3⟩
def ownD (ρ : EnvD) (i : Nat) (P : List (D × D) → Prop) : Prop := match ρ[i]? with
  | some (some (.own (.dct ps))) => P ps
  | _ => False
theorem ownD_inv {ρ : EnvD} {i : Nat} {P : List (D × D) → Prop} (h : ownD ρ i P) : ∃ ps, ρ[i]? = some (some (.own (.dct ps))) ∧ P ps := by
  unfold ownD at h
  split at h
  · exact ⟨_, by assumption, h⟩
  · exact h.elim
/-- the key is of the dict's kind, or the dict is empty -/
def fitsP (ps : List (D × D)) (k : D) : Bool := (keyOf k).isSome && match ps with
  | [] => true
  | p :: _ => isT p.1 == isT k
theorem put_own {B : Bs} {S : Fz} {H : Hp} {σ : L2.St} {ρ : EnvD} {a : Addr} {ps : List (D × D)} {y w : V} {dy dw : D} (I : Eok G X.K O B S H σ ρ) (h : OwnAt G X.K S H a (.dct ps)) (ry : Den G X.K S y dy) (rw : Den G X.K S w dw) (hf : fitsP ps dy = true) (hl : ps.length < sizeLine) :
    ∃ u, DPutR H a y w (upd H a u) ∧ OwnAt G X.K S (upd H a u) a (.dct (putD ps dy dw)) := by
  unfold fitsP at hf
  simp only [Bool.and_eq_true] at hf
  obtain ⟨q, hq⟩ := Option.isSome_iff_exists.mp hf.1
  have upu : ∀ (u u' : HO), upd (upd H a u) a u' = upd H a u' := fun u u' => by
    funext b
    by_cases e : b = a
    · subst e; rw [upd_same, upd_same]
    · rw [upd_ne e, upd_ne e, upd_ne e]
  cases q with
  | inl k =>
    obtain rfl := keyOf_inl hq
    have hk : ∃ kvs, H a = some (.dK kvs) ∧ DenK G X.K S kvs ps := by
      rcases h with h | ⟨kvs, e, n, l⟩
      · exact h
      · cases l with
        | nil => exact absurd rfl n
        | @cons p q' _ _ r _ =>
          have h2 : (isT q'.1 == isT (keyD k)) = true := hf.2
          rw [r.1, keyD_notT] at h2
          cases h2
    obtain ⟨kvs, e, l⟩ := hk
    obtain rfl := den_key ry
    exact ⟨_, .inl (DPut.k e (by rw [l.length]; exact hl)), .inl ⟨_, upd_same, l.put k rw⟩⟩
  | inr ks =>
    obtain rfl := keyOf_inr hq
    obtain ⟨b, ws, rfl, eb, lb⟩ := ry.tup_inv
    obtain rfl := den_keys lb
    have eb' := I.le _ _ eb
    rcases h with ⟨kvs, e, l⟩ | ⟨kvs, e, n, l⟩
    · cases l with
      | nil =>
        have hb : b ≠ a := fun z => by rw [z, e] at eb'; cases eb'
        refine ⟨.dT (putK [] ks w), .inr ⟨e, ?_⟩, .inr ⟨_, upd_same, ?_, DenT.put (kvs := []) (ps := []) .nil ks rw⟩⟩
        · have := DPut.t (H := upd H a (.dT [])) (a := a) (b := b) (kvs := []) (k := ks) (v := w) upd_same (by rw [upd_ne hb]; exact eb') (by rw [sizeLine_eq]; decide)
          rw [upu] at this
          exact this
        · simp [putK]
      | @cons p q' _ _ r _ =>
        have h2 : (isT q'.1 == true) = true := hf.2
        rw [r.1, keyD_notT] at h2
        cases h2
    · refine ⟨_, .inl (DPut.t e eb' (by rw [l.length]; exact hl)), .inr ⟨_, upd_same, fun z => ?_, l.put ks rw⟩⟩
      have : (putK kvs ks w).length = 0 := by rw [z]; rfl
      unfold putK at this
      split at this
      · rw [List.length_map] at this
        exact n (List.length_eq_zero_iff.mp this)
      · rw [List.length_append] at this
        simp at this
def fDPut (i : Nat) (fy fv : FE) : FS := fun Ed ρ => fv ρ fun ρ1 v => ownD ρ1 i fun _ => fy ρ1 fun ρ2 y => ownD ρ2 i fun ps => (fitsP ps y = true ∧ ps.length < sizeLine) ∧ Ed.nx (ρ2.set i (some (.own (.dct (putD ps y v)))))
theorem s_dput (i : Nat) {x : Str} {np p2 : Pos} {ky value : Expr} {rk : Bool} (hu : X.A.units + 1 < cLine) (hy : PDe G X O ky .st ca na fa) (hv : PDe G X O value .st cb nb fb) (hN : X.N[i]? = some x := by rfl) (hx : Vis X.env.scope x := by first | exact Or.inl rfl | exact Or.inr (Or.inl rfl) | exact Or.inr (Or.inr rfl))
    (hs : swapsWith value (some (.Subscript (.Name x np) ky p2)) pos.line X.env = pure false := by rfl) (hd : (x == ("__debug__" : Str)) = false := by decide) (hcd : (x == ("__classdict__" : Str)) = false := by decide) : PDs G X O rk (.Assign [.Subscript (.Name x np) ky p2] value pos) (nb + na) (fDPut i fa fb) := by
  obtain ⟨ta, pa, qa⟩ := hy.run
  obtain ⟨tb, pb, qb⟩ := hv.run
  refine ⟨_, ps_dputR hu (pe_var hN hx hd hcd) pa pb hs, fun B S H σ ρ Ed D I hb hf E => ?_⟩
  refine qb B S H σ ρ _ _ I (by omega) hf fun w H1 S1 ρ1 dw I1 m1 c1 r1 h1 => ?_
  obtain ⟨ps0, e0, h1⟩ := ownD_inv h1
  obtain ⟨a, ea, _⟩ := I1.ow i _ e0
  refine ⟨.ref a, ea, ?_⟩
  refine qa B S1 H1 σ ρ1 _ _ I1 (by have := m1.lo; omega) h1 fun y H2 S2 ρ2 dy I2 m2 c2 r2 h2 => ?_
  obtain ⟨ps, e, ⟨⟨hf1, hf2⟩, h2⟩⟩ := ownD_inv h2
  obtain ⟨b, eb, w2⟩ := I2.ow i _ e
  have : b = a := by rw [ea] at eb; cases eb; rfl
  subst this
  obtain ⟨u, hp, hw⟩ := put_own I2 w2.at_ r2 (Den.mono m2 r1) hf1 hf2
  exact ⟨b, _, rfl, hp, E.nx _ _ _ _ (I2.chgSlot ⟨e, eb⟩ hw) (m1.trans m2) h2⟩
end
end WL

/-! WP: the draws of a law. -/
namespace WL
open PySem PySem.Spec PyProof.Rows L2
def drawK (b c : Addr) (r t : Int) : List (Key × V) := [(.inr "wide", .ref b), (.inr "cells", .ref c), (.inr "rest", .int r), (.inr "turn", .int t)]
structure DrawAt (H : Hp) (a b c : Addr) (ws cs : List Int) (r t : Int) : Prop where
  ha : H a = some (.dK (drawK b c r t))
  hb : H b = some (.lst (ws.map V.int))
  hc : H c = some (.lst (cs.map V.int))
theorem DrawAt.ab {H a b c ws cs r t} (d : DrawAt H a b c ws cs r t) : b ≠ a := fun e => by
  have := d.hb
  rw [e, d.ha] at this; cases this
theorem DrawAt.ac {H a b c ws cs r t} (d : DrawAt H a b c ws cs r t) : c ≠ a := fun e => by
  have := d.hc
  rw [e, d.ha] at this; cases this
theorem drawK_rest (b c : Addr) (r t r' : Int) : putK (drawK b c r t) (.inr "rest") (.int r') = drawK b c r' t := by
  have h1 : ("wide" : Str) ≠ "rest" := by decide
  have h2 : ("cells" : Str) ≠ "rest" := by decide
  have h3 : ("turn" : Str) ≠ "rest" := by decide
  simp [putK, drawK, h1, h2, h3]
theorem drawK_turn (b c : Addr) (r t t' : Int) : putK (drawK b c r t) (.inr "turn") (.int t') = drawK b c r t' := by
  have h1 : ("wide" : Str) ≠ "turn" := by decide
  have h2 : ("cells" : Str) ≠ "turn" := by decide
  have h3 : ("rest" : Str) ≠ "turn" := by decide
  simp [putK, drawK, h1, h2, h3]
theorem drawK_at (b c : Addr) (r t : Int) : valV (drawK b c r t) (.inr "wide") = some (.ref b) ∧ valV (drawK b c r t) (.inr "cells") = some (.ref c) ∧ valV (drawK b c r t) (.inr "rest") = some (.int r) ∧ valV (drawK b c r t) (.inr "turn") = some (.int t) := ⟨rfl, rfl, rfl, rfl⟩

theorem drawK_len {b c : Addr} {r t : Int} : (drawK b c r t).length < sizeLine := by
  show (4 : Nat) < sizeLine
  rw [sizeLine_eq]; decide
/-- what else was there is there -/
def Frm (Ex : Addr → Prop) (H H' : Hp) : Prop := ∀ p o, ¬ Ex p → H p = some o → (∀ ps, o ≠ .tbl ps) → H' p = some o
/-- the blend: it changes the turn alone -/
def spBlend : Sp := fun vs H Q _ => ∃ a b c ws cs r t, vs = [.ref a] ∧ DrawAt H a b c ws cs r t ∧ t.natAbs + 1 ≤ limT ∧ ∀ i H' t', t'.natAbs ≤ t.natAbs + 1 → DrawAt H' a b c ws cs r t' → (∀ p, H p ≠ none → H' p ≠ none) → Frm (fun p => p = a) H H' → Q (.int i) H'
/-- a draw: a number below the size -/
def spTake : Sp := fun vs H Q _ => ∃ a b c ws cs r t n, vs = [.ref a, .int n] ∧ (0 < n ∧ n.natAbs.log2 < 9000) ∧ DrawAt H a b c ws cs r t ∧ ws.length ≤ sizeLine ∧ t.natAbs + 1 ≤ limT ∧
  ∀ i H' ws' cs' r' t', 0 ≤ i → i < n → t'.natAbs ≤ t.natAbs + 1 → DrawAt H' a b c ws' cs' r' t' → ws'.length ≤ sizeLine → (∀ p, H p ≠ none → H' p ≠ none) → Frm (fun p => p = a ∨ p = b) H H' → Q (.int i) H'

/-! ### the blend, over data: the dict of the draws is a token -/
def GB (a b c : Addr) (ws cs : List Int) (r : Int) : Glob where
  ct := fun _ => none
  ec := fun _ => none
  tk := fun k => if k = 0 then some a else none
  M := fun p => p = a ∨ p = c
  J := fun T H => (∃ t : Int, t.natAbs ≤ T ∧ H a = some (.dK (drawK b c r t))) ∧ H c = some (.lst (cs.map V.int))
  jlaw := fun T H H' ⟨⟨t, h1, h⟩, h2⟩ k => ⟨⟨t, h1, k a _ h (.inl (.inl rfl))⟩, k c _ h2 (.inl (.inr rfl))⟩
  mth := fun T H p ⟨⟨t, _, h⟩, h2⟩ e => by
    rcases e with e | e
    · rw [e, h]; exact fun z => nomatch z
    · rw [e, h2]; exact fun z => nomatch z
section
variable {a b c : Addr} {ws cs : List Int} {r : Int} {X : Cx} {O : XO}
theorem gb_tok {K : PySem.W.Frag} {S : Fz} {v : V} (h : Den (GB a b c ws cs r) K S v (.tok 0)) : v = .ref a := by
  obtain ⟨p, e, q⟩ := h.tok_inv
  have : some a = some p := q
  cases this; exact e
def tk0 (ρ : EnvD) (i : Nat) : Prop := ρ[i]? = some (some (.imm (.tok 0)))
def fGbTurn (i : Nat) : FE := fun ρ Kc => tk0 ρ i ∧ ∀ j : Int, j.natAbs ≤ limT → Kc ρ (.int j)
theorem gb_turn (i : Nat) {x : Str} {np kp pos : Pos} {j} (hu : X.A.units + 1 < cLine) (hN : X.N[i]? = some x := by rfl) (hv : Vis X.env.scope x := by first | exact Or.inl rfl | exact Or.inr (Or.inl rfl) | exact Or.inr (Or.inr rfl))
    (hd : (x == ("__debug__" : Str)) = false := by decide) (hcd : (x == ("__classdict__" : Str)) = false := by decide) : PDe (GB a b c ws cs r) X O (.Subscript (.Name x np) (.Constant (.str "turn") j kp) pos) .st true 0 (fGbTurn i) := by
  refine ⟨_, pe_ix (ix_dict hu) (pe_var hN hv hd hcd) pe_str (by exact fun _ _ => rfl), fun B S H σ ρ Kc Q I hb hf hq => ?_⟩
  obtain ⟨e, h⟩ := hf
  obtain ⟨v, e1, e2⟩ := I.im i _ e
  obtain rfl := gb_tok e2
  obtain ⟨⟨t, h1, ht⟩, _⟩ := I.j
  exact ⟨_, e1, a, .int t, rfl, DGet.k (k := .inr "turn") ht, hq _ H S ρ _ I (Sub.refl _) (fun _ => rfl) (Den.int t) (h t (Nat.le_trans h1 (by omega)))⟩
/-- the cells, walked -/
theorem gb_cells (i : Nat) {tg : Expr} {x : Str} {np kp pos : Pos} {j} (hu : X.A.units + 1 < cLine) (hN : X.N[i]? = some x := by rfl) (hv : Vis X.env.scope x := by first | exact Or.inl rfl | exact Or.inr (Or.inl rfl) | exact Or.inr (Or.inr rfl))
    (hd : (x == ("__debug__" : Str)) = false := by decide) (hcd : (x == ("__classdict__" : Str)) = false := by decide) : PDi (GB a b c ws cs r) X O tg (.Subscript (.Name x np) (.Constant (.str "cells") j kp) pos) 0 (fun ρ Kc => tk0 ρ i ∧ Kc ρ (cs.map D.int)) := by
  refine ⟨_, pi_any (pe_ix (ix_dict hu) (pe_var hN hv hd hcd) pe_str (by exact fun _ _ => rfl)), fun B S H σ ρ Kc Q I hb hf hq => ?_⟩
  obtain ⟨e, h⟩ := hf
  obtain ⟨v, e1, e2⟩ := I.im i _ e
  obtain rfl := gb_tok e2
  obtain ⟨⟨t, h1, ht⟩, hc⟩ := I.j
  refine ⟨_, e1, a, .ref c, rfl, DGet.k (k := .inr "cells") ht, .inl ⟨c, rfl, ⟨_, SqL.of hc⟩, hq _ H S ρ _ I (Sub.refl _) ?_ h⟩⟩
  refine ⟨fun k i S2 H m l hj hi => ?_, fun k S2 H m l hj => ⟨_, SqL.of hj.2, by simp⟩, fun O k i B S2 H σ ρ x H' m I hi y => ?_⟩
  · refine ⟨_, .int cs[i]!, SqL.of hj.2, ?_⟩
    have hi' : i < cs.length := by simpa using hi
    simp [hi']
  · obtain ⟨rfl, y⟩ := y
    have hi' : i < cs.length := by simpa using hi
    have := y _ (SqL.of I.j.2)
    simp [hi'] at this
    subst this
    exact ⟨S2, .int cs[i], by simp [hi'], I, Sub.refl _, Den.int _⟩
/-- the turn, counted -/
def fGbTick (i : Nat) : FS := fun Ed ρ => tk0 ρ i ∧ Ed.nx ρ
theorem gb_tick (i : Nat) {rk : Bool} {x : Str} {np p1 p2 p3 p4 p5 p6 p7 : Pos} {j j2 j3} (hu : X.A.units + 1 < cLine) (hx0 : ∀ x, ¬ O.xd x) (hN : X.N[i]? = some x := by rfl) (hv : Vis X.env.scope x := by first | exact Or.inl rfl | exact Or.inr (Or.inl rfl) | exact Or.inr (Or.inr rfl))
    {pos : Pos} (hs' : swapsWith (.BinOp (.Subscript (.Name x np) (.Constant (.str "turn") j p1) p2) .Add (.Constant (.int 1) j2 p3) p4) (some (.Subscript (.Name x p5) (.Constant (.str "turn") j3 p6) p7)) pos.line X.env = pure false := by rfl)
    (hd : (x == ("__debug__" : Str)) = false := by decide) (hcd : (x == ("__classdict__" : Str)) = false := by decide) :
    PDs (GB a b c ws cs r) X O rk (.Assign [.Subscript (.Name x p5) (.Constant (.str "turn") j3 p6) p7] (.BinOp (.Subscript (.Name x np) (.Constant (.str "turn") j p1) p2) .Add (.Constant (.int 1) j2 p3) p4) pos) 1 (fGbTick i) := by
  refine ⟨_, ps_dput hu (pe_var hN hv hd hcd) pe_str (pe_op op_add (pe_ix (ix_dict hu) (pe_var hN hv hd hcd) pe_str (by exact fun _ _ => rfl)) pe_int) hs', fun B S H σ ρ Ed D I hb hf E => ?_⟩
  obtain ⟨e, h⟩ := hf
  obtain ⟨v, e1, e2⟩ := I.im i _ e
  obtain rfl := gb_tok e2
  obtain ⟨⟨t, h1, ht⟩, hc⟩ := I.j
  refine ⟨_, e1, a, .int t, rfl, DGet.k (k := .inr "turn") ht, t, 1, rfl, rfl, _, e1, a, _, rfl, DPut.k (k := .inr "turn") ht drawK_len, ?_⟩
  rw [drawK_turn]
  have ne : c ≠ a := fun z => by rw [z, ht] at hc; cases hc
  have hl : (⟨S.h, S.T + 1⟩ : Fz).T ≤ S.T + 1 := Nat.le_refl _
  have sub : Sub 1 S ⟨S.h, S.T + 1⟩ := ⟨fun _ _ _ z => z, fun _ _ _ _ z => z, hl⟩
  have J : Sta (GB a b c ws cs r) X.K (Bs.at H S) ⟨S.h, S.T + 1⟩ (upd H a (.dK (drawK b c r (t + 1)))) := by
    refine ⟨fun p o z => ?_, I.sm, ⟨⟨t + 1, by show (t + 1).natAbs ≤ S.T + 1; omega, upd_same⟩, by rw [upd_ne ne]; exact hc⟩, fun p z => ?_, fun p z => .inl z, fun p o z m _ => ?_⟩
    · have hp : p ≠ a := fun y => by rw [y, I.sm a (.inl rfl)] at z; cases z
      rw [upd_ne hp]; exact I.le p o z
    · by_cases hp : p = a
      · rw [hp, upd_same]; exact fun z => nomatch z
      · rw [upd_ne hp]; exact z
    · rw [upd_ne fun y => m (.inl y)]; exact z
  exact E.nx _ _ _ _ (I.call J (.inr hx0) sub) sub h
end
def mBlend : Spc := { ar := 1, pre := fun ds => ds = [.tok 0], post := fun _ d => ∃ i : Int, d = .int i, cost := 1 }
/-- the blend, as the draw needs it -/
theorem blend_of {P : Program} {w : World} {K : PySem.W.Frag} {mg : Str → Option Value} {base : Heap} {k : Nat} {f : Addr} {fd : FuncData} {ps : List Str} (hl : ps.length = 1)
    (F : ∀ a b c ws cs r, FnG P w K mg base k f fd ps (spD (GB a b c ws cs r) K false ps.length mBlend)) : FnG P w K mg base k f fd ps spBlend := by
  refine ⟨fun vs H Q E ⟨a, b, c, ws, cs, r, t, e, _⟩ => by rw [e, hl]; rfl, fun A fr s H args us vs Q E hr g he hb hv ⟨a, b, c, ws, cs, r, t, e, d, ht, hq⟩ => (F a b c ws cs r).run A fr s H args us vs Q E hr g he hb hv ?_⟩
  subst e
  have st : Sta (GB a b c ws cs r) K (Bs.at H ⟨fun _ => none, t.natAbs⟩) ⟨fun _ => none, t.natAbs⟩ H := ⟨(fun _ _ z => nomatch z), (fun _ _ => rfl), ⟨⟨t, Nat.le_refl _, d.ha⟩, d.hc⟩, fun _ z => z, fun _ z => .inl z, fun _ _ z _ _ => z⟩
  refine ⟨⟨fun _ => none, t.natAbs⟩, [.tok 0], by rw [hl]; rfl, st, ht, .cons (.tok rfl) .nil, rfl, fun v H' S' dd J m rr ⟨i, ei⟩ => ?_, fun _ _ _ _ _ _ _ _ _ _ z => z.elim⟩
  subst ei
  obtain rfl := Den.int_inv rr
  obtain ⟨⟨t', h1, h2⟩, h3⟩ := J.j
  refine hq i H' t' (Nat.le_trans h1 m.lo) ⟨h2, ?_, h3⟩ J.dom fun p o hp z tb => ?_
  · by_cases e : b = c
    · have hb := d.hb
      rw [e, d.hc] at hb
      rw [e, h3, Option.some.inj hb]
    · exact J.kept b _ d.hb (fun z => z.elim (fun z => d.ab z) fun z => e z) fun _ z => nomatch z
  · by_cases e : p = c
    · subst e
      rw [d.hc] at z; cases z; exact h3
    · exact J.kept p o z (fun z => z.elim hp e) tb

/-! ### the draw -/
abbrev tSub (k : Str) : TE := tOp rIxD (tVar 0) (tC (.str k))
def tTake (K : PySem.W.Frag) (E : L2.St → XK) : TS := tSeq (tIfS (tTest (tOp rEq (tSub "rest") (tC (.int 0))))
    (sDPut (tVar 0) (tC (.str "rest")) (tIf (tTest (tOp (rNeD K) (tSub "wide") (tLst tNil))) (tBM K "list" rPopAt (tSub "wide") (tCons (tC (.int 0)) tNil)) (tCallSD spBlend [] E (tCons (tVar 0) tNil)))) tNext)
  (tSeq (tAsg (tOp (rI (fun _ j => 0 < j) fun i j => .int (i % j)) (tCB (fun xs H Q => (∃ i, xs = [V.int i] ∧ Q (.int i) H) ∨ ∃ k, xs = [V.bl k] ∧ Q (.int (if k then 1 else 0)) H) (tCons (tSub "rest") tNil)) (tVar 1)) (gName 2))
    (tSeq (sDPut (tVar 0) (tC (.str "rest")) (tOp (rI CDivW fun i j => .int (i / j)) (tSub "rest") (tVar 1))) (tRet (tVar 2))))
theorem take_tail {K : PySem.W.Frag} {E : L2.St → XK} {a b c : Addr} {ws cs : List Int} {r t n : Int} {H : Hp} {Q : VK} {D : Ends} (d : DrawAt H a b c ws cs r t) (hn : 0 < n ∧ n.natAbs.log2 < 9000)
    (hq : ∀ i H' r', 0 ≤ i → i < n → DrawAt H' a b c ws cs r' t → (∀ p, H p ≠ none → H' p ≠ none) → Frm (fun p => p = a) H H' → Q (.int i) H') :
    (tSeq (tAsg (tOp (rI (fun _ j => 0 < j) fun i j => .int (i % j)) (tCB (fun xs H Q => (∃ i, xs = [V.int i] ∧ Q (.int i) H) ∨ ∃ k, xs = [V.bl k] ∧ Q (.int (if k then 1 else 0)) H) (tCons (tSub "rest") tNil)) (tVar 1)) (gName 2))
    (tSeq (sDPut (tVar 0) (tC (.str "rest")) (tOp (rI CDivW fun i j => .int (i / j)) (tSub "rest") (tVar 1))) (tRet (tVar 2)))) { D with rt := Q } [some (.ref a), some (.int n), none] H := by
  refine ⟨_, rfl, a, .int r, rfl, DGet.k (k := .inr "rest") d.ha, .inl ⟨r, rfl, _, rfl, r, n, rfl, rfl, hn.1, ?_⟩⟩
  refine ⟨_, rfl, a, .int r, rfl, DGet.k (k := .inr "rest") d.ha, _, rfl, r, n, rfl, rfl, hn, _, rfl, a, _, rfl, DPut.k (k := .inr "rest") d.ha drawK_len, _, rfl, ?_⟩
  rw [drawK_rest]
  refine hq _ _ (r / n) (Int.emod_nonneg _ (by omega)) (Int.emod_lt_of_pos _ hn.1) ⟨upd_same, by rw [upd_ne d.ab]; exact d.hb, by rw [upd_ne d.ac]; exact d.hc⟩ (fun p hp => ?_) fun p o hp z _ => by rw [upd_ne hp]; exact z
  by_cases e : p = a
  · rw [e, upd_same]; exact fun z => nomatch z
  · rw [upd_ne e]; exact hp
theorem dpInts {K : PySem.W.Frag} {H : Hp} : ∀ xs : List Int, DpAll K H (xs.map V.int) (xs.map PyData.int)
  | [] => .nil
  | x :: xs => .cons (.int x) (dpInts xs)
theorem take_reads {K : PySem.W.Frag} {E : L2.St → XK} {vs : List V} {H : Hp} {Q : VK} {E' : XK} {D : Ends} (h : spTake vs H Q E') : tTake K E { D with rt := Q } (L2.start ["_law_draw", "_law_size", "_law_found"] vs) H := by
  obtain ⟨a, b, c, ws, cs, r, t, n, rfl, hn, d, hw, ht, hq⟩ := h
  refine ⟨_, rfl, a, .int r, rfl, DGet.k (k := .inr "rest") d.ha, rfl, _, rfl, ?_⟩
  by_cases hr : (V.int r = V.int 0)
  · dsimp only
    rw [if_pos (decide_eq_true hr)]
    refine ⟨_, rfl, a, .ref b, rfl, DGet.k (k := .inr "wide") d.ha, Nat.zero_le _, fun p hp => ?_⟩
    have pa : a ≠ p := fun z => by rw [← z, d.ha] at hp; cases hp
    have pb : b ≠ p := fun z => by rw [← z, d.hb] at hp; cases hp
    have pc : c ≠ p := fun z => by rw [← z, d.hc] at hp; cases hp
    have d1 : DrawAt (upd H p (.lst [])) a b c ws cs r t := ⟨by rw [upd_ne pa]; exact d.ha, by rw [upd_ne pb]; exact d.hb, by rw [upd_ne pc]; exact d.hc⟩
    have there : ∀ q, H q ≠ none → (upd H p (.lst [])) q ≠ none := fun q hq => by rw [upd_ne fun z => hq (by rw [z]; exact hp)]; exact hq
    have fr1 : ∀ q o, H q = some o → (upd H p (.lst [])) q = some o := fun q o hq => by rw [upd_ne fun z => by rw [z, hp] at hq; cases hq]; exact hq
    refine ⟨.list (ws.map PyData.int), .list [], .lst (SqL.of d1.hb) (dpInts ws), .lst (SqL.of upd_same) .nil, ?_, by decide, !(PyData.eqv (.list (ws.map PyData.int)) (.list [])), rfl, ?_⟩
    · have h1 : ∀ l : List Int, PyData.canLayAll0 (l.map PyData.int) = true := fun l => by
        induction l with
        | nil => simp [PyData.canLayAll0]
        | cons x l ih => simp [PyData.canLayAll0, PyData.canLay0, ih]
      have h2 : ∀ l : List Int, PyData.depthAll (l.map PyData.int) = 0 := fun l => by
        induction l with
        | nil => simp [PyData.depthAll]
        | cons x l ih => simp [PyData.depthAll, PyData.depth, ih]
      unfold SeqAt.shaped
      simp [PyData.canLay0, PyData.depth, h1, h2]
    · cases ws with
      | nil =>
        dsimp only
        rw [if_neg (by simp [PyData.eqv, PyData.eqvAll])]
        refine ⟨_, rfl, a, b, c, [], cs, r, t, rfl, d1, ht, fun i H' t' h1 d2 dom fr => ?_⟩
        refine ⟨_, rfl, a, _, rfl, DPut.k (k := .inr "rest") d2.ha drawK_len, ?_⟩
        rw [drawK_rest]
        have d3 : DrawAt (upd H' a (.dK (drawK b c i t'))) a b c [] cs i t' := ⟨upd_same, by rw [upd_ne d2.ab]; exact d2.hb, by rw [upd_ne d2.ac]; exact d2.hc⟩
        refine take_tail (K := K) (E := E) d3 hn fun i H'' r' h2 h3 d4 dom2 fr2 => hq i H'' [] cs r' t' h2 h3 h1 d4 (Nat.zero_le _) (fun q hq => dom2 q ?_) fun q o hx z tb => fr2 q o (fun z => hx (.inl z)) ?_ tb
        · by_cases e : q = a
          · rw [e, upd_same]; exact fun z => nomatch z
          · rw [upd_ne e]; exact dom q (there q hq)
        · rw [upd_ne fun z => hx (.inl z)]
          exact fr q o (fun z => hx (.inl z)) (fr1 q o z) tb
      | cons x ws =>
        dsimp only
        rw [if_pos (by simp [PyData.eqv, PyData.eqvAll])]
        refine ⟨_, rfl, a, .ref b, rfl, DGet.k (k := .inr "wide") d1.ha, .inl ⟨rfl, _, SqL.of d1.hb⟩, b, _, 0, 0, .int x, rfl, rfl, d1.hb, by decide, by decide, ?_, rfl, ?_⟩
        · exact PySem.seqIndex_of (by decide : (0 : Int) ≤ 0) (by simp)
        have ha2 : (upd (upd H p (.lst [])) b (.lst (((x :: ws).map V.int).eraseIdx 0))) a = some (.dK (drawK b c r t)) := by rw [upd_ne d.ab.symm]; exact d1.ha
        refine ⟨_, rfl, a, _, rfl, DPut.k (k := .inr "rest") ha2 drawK_len, ?_⟩
        rw [drawK_rest]
        have hc2 : ∃ cs' : List Int, (upd (upd (upd H p (.lst [])) b (.lst (((x :: ws).map V.int).eraseIdx 0))) a (.dK (drawK b c x t))) c = some (.lst (cs'.map V.int)) := by
          rw [upd_ne d.ac]
          by_cases e : c = b
          · rw [e, upd_same]; exact ⟨ws, rfl⟩
          · rw [upd_ne e]; exact ⟨cs, d1.hc⟩
        obtain ⟨cs', hc2⟩ := hc2
        have d3 : DrawAt (upd (upd (upd H p (.lst [])) b (.lst (((x :: ws).map V.int).eraseIdx 0))) a (.dK (drawK b c x t))) a b c ws cs' x t :=
          ⟨upd_same, by rw [upd_ne d.ab, upd_same]; rfl, hc2⟩
        refine take_tail (K := K) (E := E) d3 hn fun i H'' r' h2 h3 d4 dom2 fr2 => hq i H'' ws cs' r' t h2 h3 (by omega) d4 (by simp at hw; omega) (fun q hq => dom2 q ?_) fun q o hx z tb => fr2 q o (fun z => hx (.inl z)) ?_ tb
        · by_cases e : q = a
          · rw [e, upd_same]; exact fun z => nomatch z
          · rw [upd_ne e]
            by_cases e2 : q = b
            · rw [e2, upd_same]; exact fun z => nomatch z
            · rw [upd_ne e2]; exact there q hq
        · rw [upd_ne fun z => hx (.inl z), upd_ne fun z => hx (.inr z)]
          exact fr1 q o z
  · dsimp only
    rw [if_neg (by simpa using hr)]
    exact take_tail (K := K) (E := E) d hn fun i H' r' h1 h2 d2 dom fr => hq i H' ws cs r' t h1 h2 (by omega) d2 hw dom fun q o hx => fr q o fun z => hx (.inl z)

def Fz.noTbl (S : Fz) : Hp := fun p => match S p with | some (.tbl _) => none | x => x
/-! ### the whole text's memory: the draws -/
def GD (ct : Nat → Option (Addr × List Str)) (ec : Nat → Option (Addr × Option Str)) (a b c : Addr) : Glob where
  ct := ct
  ec := ec
  tk := fun k => if k = 0 then some a else none
  M := fun p => p = a ∨ p = b ∨ p = c
  J := fun T H => ∃ ws cs r t, DrawAt H a b c ws cs r t ∧ ws.length ≤ sizeLine ∧ t.natAbs ≤ T
  jlaw := fun T H H' ⟨ws, cs, r, t, d, h1, h2⟩ k => ⟨ws, cs, r, t, ⟨k a _ d.ha (.inl (.inl rfl)), k b _ d.hb (.inl (.inr (.inl rfl))), k c _ d.hc (.inl (.inr (.inr rfl)))⟩, h1, h2⟩
  mth := fun T H p ⟨ws, cs, r, t, d, _⟩ e => by
    rcases e with e | e | e
    · rw [e, d.ha]; exact fun z => nomatch z
    · rw [e, d.hb]; exact fun z => nomatch z
    · rw [e, d.hc]; exact fun z => nomatch z
def mTake : Spc := { ar := 2, pre := fun ds => ∃ n : Int, ds = [.tok 0, .int n] ∧ 0 < n ∧ n.natAbs.log2 < 9000, post := fun ds d => ∃ n i : Int, ds = [.tok 0, .int n] ∧ d = .int i ∧ 0 ≤ i ∧ i < n, cost := 1 }
theorem take_of {ct ec} {a b c : Addr} {P : Program} {w : World} {K : PySem.W.Frag} {mg : Str → Option Value} {base : Heap} {k : Nat} {f : Addr} {fd : FuncData} {ps : List Str} (hl : ps.length = 2)
    (F : FnG P w K mg base k f fd ps spTake) : FnG P w K mg base k f fd ps (spD (GD ct ec a b c) K false ps.length mTake) := by
  refine FnG.imp F fun vs H Q E ⟨S, ds, hv, st, hb, r, ⟨n, e, h1, h2⟩, hq, _⟩ => ?_
  subst e
  cases r with
  | cons r1 r2 =>
    cases r2 with
    | cons r2 r3 =>
      cases r3
      obtain ⟨p, rfl, hp⟩ := r1.tok_inv
      have hp' : some a = some p := hp
      cases hp'
      obtain rfl := Den.int_inv r2
      obtain ⟨ws, cs, r, t, d, hw, ht⟩ := st.j
      have hb' : S.T + 1 ≤ limT := hb
      refine ⟨a, b, c, ws, cs, r, t, n, rfl, ⟨h1, h2⟩, d, hw, by omega, fun i H' ws' cs' r' t' i0 i1 i2 d' hw' dom fr => ?_⟩
      have nt : ∀ (p : Addr) (o : HO), S.noTbl p = some o ↔ S p = some o ∧ ∀ ps, o ≠ .tbl ps := fun p o => by
        show (match S p with | some (.tbl _) => none | x => x) = some o ↔ _
        split
        · rename_i e; rw [e]
          constructor
          · intro z; cases z
          · rintro ⟨z, q⟩; cases z; exact absurd rfl (q _)
        · rename_i e
          constructor
          · intro z; exact ⟨z, fun ps y => e ps (by rw [z, y])⟩
          · intro z; exact z.1
      have sub : Sub 1 S ⟨S.noTbl, S.T + 1⟩ := ⟨fun p u hd z => z.elim (fun z => .inl ((nt p u).mpr ⟨z, fun _ e => by rw [e] at hd; cases hd⟩)) fun ⟨o, z⟩ => .inr ⟨o, (nt p _).mpr ⟨z, fun _ e => nomatch e⟩⟩,
        fun p u _ hf z => (nt p u).mpr ⟨z, fun _ e => by rw [e] at hf; cases hf⟩, Nat.le_refl _⟩
      refine hq (.int i) H' ⟨S.noTbl, S.T + 1⟩ (.int i) ⟨fun p o z => ?_, fun p m => ?_, ⟨ws', cs', r', t', d', hw', by show t'.natAbs ≤ S.T + 1; omega⟩, dom, fun p z => ?_, fun p o z m tb => ?_⟩ sub (Den.int i) ⟨n, i, rfl, rfl, i0, i1⟩
      · obtain ⟨z, q⟩ := (nt p o).mp z
        have hp : ¬ (p = a ∨ p = b ∨ p = c) := fun y => by rw [st.sm p y] at z; cases z
        exact fr p o (fun y => hp (y.elim .inl fun y => .inr (.inl y))) (st.le p o z) q
      · show S.noTbl p = none
        unfold Fz.noTbl
        rw [st.sm p m]
      · refine st.sn p fun y => z ?_
        show S.noTbl p = none
        unfold Fz.noTbl
        rw [y]
      · exact fr p o (fun y => m (y.elim .inl fun y => .inr (.inl y))) z tb
end WL

/-! WQ: a law's def, its end. -/
namespace WL
open PySem PySem.Spec PyProof.Rows L2
/-- nothing is shared -/
def G0 : Glob where
  ct := fun _ => none
  ec := fun _ => none
  tk := fun _ => none
  M := fun _ => False
  J := fun _ _ => True
  jlaw := fun _ _ _ _ _ => trivial
  mth := fun _ _ _ _ z => z.elim
def drawD (ws cs : List Int) : D := .dct [(.str "wide", .lst (ws.map D.int)), (.str "cells", .lst (cs.map D.int)), (.str "rest", .int 0), (.str "turn", .int 0)]
def mBegun : Spc := { ar := 1, pre := fun ds => ∃ ns : List Int, ds = [.wls (ns.map D.int)] ∧ ns.length ≤ 63, post := fun _ d => ∃ ws cs : List Int, d = drawD ws cs ∧ ws.length ≤ 63 }
/-- a reading whatever the text's memory is -/
def sCan (X : Cx) (O : XO) (rk : Bool) (n : Nat) (g : FS) (Good : Glob → Prop) : TS := fun D σ H => ∃ (G : Glob) (B : Bs) (S : Fz) (ρ : EnvD) (Ed : EndsD), Good G ∧ Eok G X.K O B S H σ ρ ∧ S.T + n ≤ limT ∧ g Ed ρ ∧ EOk G X.K O rk n B S Ed D
theorem can_pss {X : Cx} {O : XO} {rk : Bool} {st : List Stmt} {n : Nat} {g : FS} {Good : Glob → Prop} (h : ∀ G, Good G → PDb G X O rk st n g) : PSs X st (sCan X O rk n g Good) :=
  ⟨fun pins s σ H D I z => by
    obtain ⟨G, B, S, ρ, Ed, hG, J, hb, hg, E⟩ := z
    obtain ⟨t, pt, q⟩ := (h G hG).run
    exact pt.run pins s σ H D I (q B S H σ ρ Ed D J hb hg E)⟩
theorem den_ints {G : Glob} {K : PySem.W.Frag} {S : Fz} : ∀ ns : List Int, DenL G K S (ns.map V.int) (ns.map D.int)
  | [] => .nil
  | n :: ns => .cons (.int n) (den_ints ns)
theorem den_ints_inv {G : Glob} {K : PySem.W.Frag} {S : Fz} : ∀ {ns : List Int} {vs : List V}, DenL G K S vs (ns.map D.int) → vs = ns.map V.int
  | [], _, h => by cases h; rfl
  | n :: ns, _, h => by
    cases h with
    | cons r t => rw [den_ints_inv t, Den.int_inv r]; rfl
theorem key_str {k : Key} {x : Str} (h : D.str x = keyD k) : k = .inr x := by
  cases k <;> simp [keyD] at h; rw [h]
/-- what is an object known -/
def frzOnly (H : Hp) : Hp := fun q => match H q with | some (HO.frz o u) => some (HO.frz o u) | _ => none
/-- the dict of the draws, seen as memory -/
theorem draw_at {G : Glob} {K : PySem.W.Frag} {B : Bs} {S : Fz} {H : Hp} {a : Addr} {ws cs : List Int} (w : OwnAt G K S H a (.dct [(.str "wide", .lst (ws.map D.int)), (.str "cells", .lst (cs.map D.int)), (.str "rest", .int 0), (.str "turn", .int 0)])) (le : ∀ a o, S a = some o → H a = some o) :
    ∃ b c, DrawAt H a b c ws cs 0 0 := by
  rcases w with ⟨kvs, h, l⟩ | ⟨kvs, h, n, l⟩
  · cases l with
    | @cons p1 _ _ _ r1 l =>
      cases l with
      | @cons p2 _ _ _ r2 l =>
        cases l with
        | @cons p3 _ _ _ r3 l =>
          cases l with
          | @cons p4 _ _ _ r4 l =>
            cases l
            obtain ⟨b, ds, e1, h1, l1⟩ := r1.2.lst_inv
            obtain ⟨c, es, e2, h2, l2⟩ := r2.2.lst_inv
            have k1 := key_str r1.1
            have k2 := key_str r2.1
            have k3 := key_str r3.1
            have k4 := key_str r4.1
            have v3 := r3.2.int_inv
            have v4 := r4.2.int_inv
            obtain ⟨p1k, p1v⟩ := p1
            obtain ⟨p2k, p2v⟩ := p2
            obtain ⟨p3k, p3v⟩ := p3
            obtain ⟨p4k, p4v⟩ := p4
            simp only at k1 k2 k3 k4 e1 e2 v3 v4
            subst k1 k2 k3 k4 e1 e2 v3 v4
            exact ⟨b, c, h, by rw [le _ _ h1, den_ints_inv l1], by rw [le _ _ h2, den_ints_inv l2]⟩
  · cases l with
    | @cons p1 _ _ _ r1 l => have := r1.1; cases this
/-- what is asked of the script -/
def spLaw (K : PySem.W.Frag) : Sp := fun vs H Q _ => ∃ (a : Addr) (ns : List Int), vs = [.ref a] ∧ SqL K H a (ns.map V.int) ∧ Only H ∧ ns.length ≤ 63 ∧ ∀ H', Q (.bl true) H'
/-- the law's def: its first row begins the draws, the others are read over data -/
theorem law_D {P : Program} {w : World} {K : PySem.W.Frag} {mg : Str → Option Value} {base : Heap} {x qual : Str} {params : Arguments} {st : Stmt} {rest : List Stmt} {scope : Scope} {f : Addr} {fd : FuncData} {N : List Str} {k : Nat} {ct ec}
    (F : FunD K x qual params (st :: rest) scope [] [] f fd) (Sc : FnScope N ["_law_script"] scope) (hN : 2 ≤ N.length)
    (h1 : ∀ (cdv : Value) (A : Around) (outer : List Env) (s : Shared) (H : Hp) (E : XK), Room k (A.deeper (envOfC qual scope s.heap.objs.size f cdv)) → A.guards = some [] →
      Takes (cxOf (L2.CX P w) P w K mg base N qual scope f cdv A outer s H E) (defO E (fun _ => False) 0).W →
      PDs G0 (cxOf (L2.CX P w) P w K mg base N qual scope f cdv A outer s H E) (defO E (fun _ => False) 0) false st (0 + 0 + mBegun.cost) (fSetO 1 (fCall (fun _ => False) mBegun [] (fCons (fVar 0) fNil))))
    (h2 : ∀ (cdv : Value) (A : Around) (outer : List Env) (s : Shared) (H : Hp) (E : XK) (ns : List Int), ns.length ≤ 63 → Room k (A.deeper (envOfC qual scope s.heap.objs.size f cdv)) → A.guards = some [] →
      Takes (cxOf (L2.CX P w) P w K mg base N qual scope f cdv A outer s H E) (defO E (fun _ => False) 0).W →
      ∃ n g, (∀ a b c, PDb (GD ct ec a b c) (cxOf (L2.CX P w) P w K mg base N qual scope f cdv A outer s H E) (defO E (fun _ => False) 0) false rest n g) ∧ n ≤ limT ∧
        g (endsD false fun d => d = .bl true) (some (.imm (.wls (ns.map D.int))) :: some (.imm (.tok 0)) :: List.replicate (N.length - 2) none)) : FnG P w K mg base (k + 1) f fd ["_law_script"] (spLaw K) := by
  refine FunD.okG F Sc (fun vs H Q E h => ?_) (fun cdv A outer s H vs Q E hr gd h => ?_)
  · obtain ⟨a, ns, e, _⟩ := h
    rw [e]; rfl
  · obtain ⟨a, ns, e, hS, hO, hl, hq⟩ := h
    subst e
    have tk : Takes (cxOf (L2.CX P w) P w K mg base N qual scope f cdv A outer s H E) (defO E (fun _ => False) 0).W := takes_of rfl rfl rfl rfl
    obtain ⟨t1, p1, q1⟩ := (h1 cdv A outer s H E hr gd tk).run
    obtain ⟨n, g, pb, hn, hg⟩ := h2 cdv A outer s H E ns hl hr gd tk
    refine ⟨_, pss_cons p1 (can_pss (Good := fun G => ∃ a b c, G = GD ct ec a b c) fun G ⟨a, b, c, e⟩ => by rw [e]; exact pb a b c), ?_⟩
    have scr : (∃ o, H a = some (.frz o (.lst (ns.map V.int)))) ∨ ∀ H, SqL K H a (ns.map V.int) := by
      rcases hS with (z | ⟨o, z⟩) | z
      · rcases hO a with y | ⟨o, xs, y⟩
        · rw [y] at z; cases z
        · rw [y] at z; cases z
      · exact .inl ⟨o, z⟩
      · exact .inr fun _ => .inr z
    obtain ⟨N2, eN⟩ : ∃ m, N.length = m + 2 := ⟨N.length - 2, by omega⟩
    have eS : L2.start N [.ref a] = some (V.ref a) :: none :: List.replicate N2 none := by
      unfold L2.start
      rw [eN]
      show some (V.ref a) :: List.replicate (N2 + 1) none = _
      rw [List.replicate_succ]
    rw [eS]
    have I0 : Eok G0 K (defO E (fun _ => False) 0) (Bs.at H ⟨H, 0⟩) ⟨H, 0⟩ H (some (V.ref a) :: none :: List.replicate N2 none) (some (.imm (.wls (ns.map D.int))) :: none :: List.replicate N2 none) := by
      have no : ∀ (i : Nat) (y : WL.Slot), ((some (WL.Slot.imm (.wls (ns.map D.int))) :: none :: List.replicate N2 none) : EnvD)[i]? = some (some y) → i = 0 ∧ y = .imm (.wls (ns.map D.int)) := fun i y z => by
        cases i with
        | zero => simp at z; exact ⟨rfl, z.symm⟩
        | succ i =>
          cases i with
          | zero => simp at z
          | succ i =>
            simp [List.getElem?_replicate] at z
      refine ⟨⟨fun _ _ z => z, fun _ z => z.elim, trivial, fun _ z => z, fun _ z => .inl z, fun _ _ z _ _ => z⟩, .inr fun _ z => z, fun _ _ _ _ _ _ _ _ _ _ _ _ z => z.elim, fun i d z => ?_, fun i o z => ?_, fun i j a o o' z _ => ?_, fun j a o z => by simp at z, fun i j a o o' z _ => ?_, fun i j a o o' z _ => by simp at z, by simp, fun i c fs z => by obtain ⟨_, e⟩ := no i _ z; cases e⟩
      · obtain ⟨rfl, e⟩ := no i _ z
        cases e
        exact ⟨_, rfl, .wls scr (by simp) fun i v d h1 h2 => paired_at (den_ints ns) i v d h1 h2⟩
      · obtain ⟨_, e⟩ := no i _ z; cases e
      · obtain ⟨_, e⟩ := no i _ z.1; cases e
      · obtain ⟨_, e⟩ := no i _ z.1; cases e
    refine q1 (Bs.at H ⟨H, 0⟩) ⟨H, 0⟩ H _ _ { nx := fun ρ => ∃ ws cs : List Int, ws.length ≤ 63 ∧ ρ = some (.imm (.wls (ns.map D.int))) :: some (.own (.dct [(.str "wide", .lst (ws.map D.int)), (.str "cells", .lst (cs.map D.int)), (.str "rest", .int 0), (.str "turn", .int 0)])) :: List.replicate N2 none, rt := fun _ => False } _ I0 (Nat.zero_le _) ?_ ⟨fun σ' H' S' ρ' I' m' h => ?_, fun _ _ _ _ _ _ _ z => z.elim, fun _ _ _ _ _ _ z => z.elim, fun _ _ _ _ _ _ z => z.elim⟩
    · refine ⟨_, rfl, rfl, ⟨ns, rfl, hl⟩, fun d ⟨ws, cs, e, hw⟩ => ?_, fun _ z => z.elim⟩
      subst e
      exact ⟨ws, cs, hw, rfl⟩
    · obtain ⟨ws, cs, hw, rfl⟩ := h
      obtain ⟨p, e1, w1⟩ := I'.ow 1 _ rfl
      obtain ⟨v0, e0, d0⟩ := I'.im 0 _ rfl
      obtain ⟨b, c, dr⟩ := draw_at (B := Bs.at H ⟨H, 0⟩) w1.at_ I'.le
      obtain ⟨sa, vs0, ev0, up, scr', dl⟩ := d0.wls_inv
      have hv := den_ints_inv dl
      subst hv ev0
      have scr2 : (∃ o, S' sa = some (.frz o (.lst (ns.map V.int)))) ∨ ∀ H, SqL K H sa (ns.map V.int) := scr'
      have hs2 : ∀ q, q = p ∨ q = b ∨ q = c → ∀ o u, H' q = some (.frz o u) → False := fun q hq o u z => by
        rcases hq with e | e | e
        · rw [e, dr.ha] at z; cases z
        · rw [e, dr.hb] at z; cases z
        · rw [e, dr.hc] at z; cases z
      have lenS : σ'.length = N2 + 2 := by rw [I'.len]; simp
      let S2 : Fz := ⟨frzOnly H', 0⟩
      have s2 : ∀ q o, S2 q = some o → H' q = some o ∧ ∃ o' u, o = .frz o' u := fun q o z => by
        have z : frzOnly H' q = some o := z
        unfold frzOnly at z
        split at z
        · rename_i e; cases z; exact ⟨e, _, _, rfl⟩
        · cases z
      have st : Sta (GD ct ec p b c) K (Bs.at H' S2) S2 H' := by
        refine ⟨fun q o z => (s2 q o z).1, fun q m => ?_, ⟨ws, cs, 0, 0, dr, by rw [sizeLine_eq]; omega, Nat.le_refl _⟩, fun _ z => z, fun _ z => .inl z, fun _ _ z _ _ => z⟩
        cases z : S2 q with
        | none => rfl
        | some o =>
          obtain ⟨z1, o', u, rfl⟩ := s2 q o z
          exact (hs2 q m o' u z1).elim
      have scr3 : (∃ o, S2 sa = some (.frz o (.lst (ns.map V.int)))) ∨ ∀ H, SqL K H sa (ns.map V.int) := scr2.imp_left fun ⟨o, z⟩ => ⟨o, by
        show frzOnly H' sa = _
        unfold frzOnly
        rw [I'.le _ _ z]⟩
      have no : ∀ (i : Nat) (y : WL.Slot), ((some (WL.Slot.imm (.wls (ns.map D.int))) :: some (.imm (.tok 0)) :: List.replicate N2 none) : EnvD)[i]? = some (some y) → (i = 0 ∧ y = .imm (.wls (ns.map D.int))) ∨ (i = 1 ∧ y = .imm (.tok 0)) := fun i y z => by
        cases i with
        | zero => simp at z; exact .inl ⟨rfl, z.symm⟩
        | succ i =>
          cases i with
          | zero => simp at z; exact .inr ⟨rfl, z.symm⟩
          | succ i => simp [List.getElem?_replicate] at z
      refine ⟨GD ct ec p b c, Bs.at H' S2, S2, some (.imm (.wls (ns.map D.int))) :: some (.imm (.tok 0)) :: List.replicate N2 none, endsD false fun d => d = .bl true, ⟨p, b, c, rfl⟩, ?_, by show 0 + n ≤ limT; omega, ?_, ?_⟩
      · refine ⟨st, .inr fun _ z => z, fun _ _ _ _ _ _ _ _ _ _ _ _ z => z.elim, fun i d z => ?_, fun i o z => ?_, fun i j a o o' z _ => ?_, fun j a o z => by simp at z, fun i j a o o' z _ => ?_, fun i j a o o' z _ => by simp at z, by rw [lenS]; simp, fun i c fs z => by rcases no i _ z with ⟨_, e⟩ | ⟨_, e⟩ <;> cases e⟩
        · rcases no i _ z with ⟨rfl, e⟩ | ⟨rfl, e⟩
          · cases e
            exact ⟨_, e0, .wls scr3 (by simp) fun i v d h1 h2 => paired_at (den_ints ns) i v d h1 h2⟩
          · cases e
            exact ⟨_, e1, .tok rfl⟩
        · rcases no i _ z with ⟨_, e⟩ | ⟨_, e⟩ <;> cases e
        · rcases no i _ z.1 with ⟨_, e⟩ | ⟨_, e⟩ <;> cases e
        · rcases no i _ z.1 with ⟨_, e⟩ | ⟨_, e⟩ <;> cases e
      · rw [eN] at hg
        exact hg
      · refine ⟨fun σ' H' S' ρ' I' m' h => ?_, fun v H2 S2 d J m2 r hd => ?_, fun _ _ _ _ _ _ z => z.elim, fun _ _ _ _ _ _ z => z.elim⟩
        · obtain ⟨_, h⟩ := h; cases h
        · subst hd
          obtain rfl := Den.bl_inv r
          exact hq H2
end WL

/-! WR: from a law's promise (no repr under way) to its statement. -/
namespace WL
open PySem PySem.Spec PyProof.Rows L2
/-- the script, tracked as an object known (if the module does not hold it) -/
def scrH (K : PySem.W.Frag) (a : Addr) (ob : Obj) (ns : List Int) : Hp := fun b => if b = a ∧ K.lookup a = none then some (.frz ob (.lst (ns.map V.int))) else none
theorem scrH_cases (K : PySem.W.Frag) (a : Addr) (ob : Obj) (ns : List Int) (b : Addr) : scrH K a ob ns b = none ∨ (b = a ∧ K.lookup a = none ∧ scrH K a ob ns b = some (.frz ob (.lst (ns.map V.int)))) := by
  unfold scrH
  by_cases h : b = a ∧ K.lookup a = none
  · rw [if_pos h]; exact .inr ⟨h.1, h.2, rfl⟩
  · rw [if_neg h]; exact .inl rfl
theorem law_callG {P : Program} {w : World} {K : PySem.W.Frag} {mg mb : Str → Option Value} {k : Nat} {fa a : Addr} {fd : FuncData} {x : Str} {sp : Sp} {s : Shared} {vs : List Value} {ns : List Int}
    (inK : K.In s.heap) (gl : s.heap.Ns mainGlobals mg) (bl : s.heap.Ns builtinsNs mb) (bv : ∀ y : Str, y ≠ "__name__" → mb y = bootBuiltins y) (nl : s.heap.NoLimit) (ge : s.gens = #[])
    (oa : s.heap.get? a = some { cls := .type "list", data := .seq vs.toArray }) (ia : IntsAre vs ns) (few : ns.length ≤ sizeLine) (room : Room k callerA)
    (F : ∀ base : Heap, K.In base → base.Ns mainGlobals mg → FnG P w K mg base k fa fd [x] sp) (bd : ∀ (s : Shared) (u : Value), BindsTo s fd ⟨[u], []⟩ [(x, u)])
    (asks : ∀ H : Hp, Only H → SqL K H a (ns.map V.int) → sp [.ref a] H (fun v _ => v = .bl true) fun _ _ _ => False) :
    codeAny (model P w) callerA (.call (.ref fa) ⟨[.ref a], []⟩) (fun r s' => r = .ok (.ret (.bool true)) ∧ OldK s.heap s'.heap ∧ s'.os = s.os ∧ AllBare s'.gens) s := by
  let ob : Obj := { cls := .type "list", data := .seq vs.toArray }
  let H := scrH K a ob ns
  have cs := scrH_cases K a ob ns
  have only : Only H := fun b => (cs b).imp id fun h => ⟨_, _, h.2.2⟩
  have rv := vals_ints ia
  have len := ia.length
  have seq : SqL K H a (ns.map V.int) := by
    cases q : K.lookup a with
    | none => exact .inl (.inr ⟨ob, if_pos ⟨rfl, q⟩⟩)
    | some o =>
      have e := inK a o q
      rw [oa] at e
      cases e
      exact .inr ⟨_, vs.toArray, _, q, rfl, rfl, rfl, by rw [List.size_toArray, len]; exact few, by simpa using rv⟩
  have hok : HOk P w H s.heap := fun b u z => by
    rcases cs b with e | ⟨e, _, e2⟩
    · rw [show H b = none from e] at z; cases z
    · rw [show H b = _ from e2] at z
      cases z
      subst e
      exact ⟨oa, by rw [List.length_map]; exact few, vs, _, rv, oa⟩
  have hid : ∀ {b : Addr} {o : Obj}, s.heap.get? b = some o → (b = a → ∃ o', K.lookup a = some o') → (hidT s.heap H).get? b = some o := fun {b o} e nb => by
    refine hidT_get e ?_
    rcases cs b with z | ⟨z, n, _⟩
    · exact z
    · obtain ⟨o', h⟩ := nb z
      rw [h] at n; cases n
  have nsH : ∀ {b : Addr} {m : Str → Option Value}, s.heap.Ns b m → (hidT s.heap H).Ns b m := fun {b m} ⟨o, es, ep, e, d, r⟩ => ⟨o, es, ep, hid e (fun z => by
    subst z
    rw [oa] at e
    cases e
    have d' : Data.seq vs.toArray _ = Data.dict es ep := d
    cases d'), d, r⟩
  have inB : K.In (hidT s.heap H) := fun b o e => hid (inK b o e) fun z => ⟨o, by rw [← z]; exact e⟩
  have md : Mod K mg (hidT s.heap H) := by
    obtain ⟨mc, n1, n2⟩ := nl
    exact ⟨inB, nsH gl, ⟨mb, nsH bl, bv⟩, mc, nsH n1, n2⟩
  have e0 : Env0 P w K mg (hidT s.heap H) callerA [] s H :=
    { frames := rfl, mod := md, bs := fun b o e => of_hidT e, bsz := Nat.le_of_eq (hidT_size _ _), funs := trivial, frf := fun b hb => (List.not_mem_nil hb).elim, hok := hok, bare := .of_eq ge }
  refine codeAny_mono ((F _ inB (nsH gl)).run callerA [] s H ⟨[.ref a], []⟩ [.ref a] [.ref a] (fun v _ => v = .bl true) (fun _ _ _ => False) room rfl e0 (bd s (.ref a)) (.cons rfl .nil) (asks H only seq)) fun r s' h => ?_
  match r, h with
  | .error e, h =>
    obtain ⟨_, _, _, _, _, _, _, _, _, _, _, _, z⟩ := h
    exact z.elim
  | .ok .next, h => exact h.elim
  | .ok .brk, h => exact h.elim
  | .ok .cont, h => exact h.elim
  | .ok (.ret u), h =>
    obtain ⟨v, H', e1, e2, un, hok', rr, e3⟩ := h
    have e3 : v = .bl true := e3
    subst e3
    obtain rfl : u = Value.bool true := rr
    refine ⟨rfl, OldK.of_keep fun b o e => ?_, e1, e2⟩
    rcases cs b with q | ⟨_, _, q⟩
    · exact un.keep b o e q (fun z => (List.not_mem_nil z).elim) List.not_mem_nil
    · obtain ⟨g1, _⟩ := hok b _ q
      obtain ⟨g2, _⟩ := hok' b _ (un.frzs b ob _ q)
      rw [e] at g1
      cases g1
      exact g2
/-- a law over a head by facts -/
theorem walk_ofG {l : PySem.W.OpenLaw} {n k : Nat} {q : Program} {loose : List Str} {XP : (Str → Option Value) → Heap → Prop} {YP : World → Heap → Prop} {d : DefRec} {x : Str}
    (most : l.most = some n) (few : n ≤ sizeLine) (dfl : d.params.defaults = []) (room : Room k callerA)
    (F : ∀ (w : World) (mg : Str → Option Value) (fa : Addr) (h : Heap), YP w h → h.Ns mainGlobals mg → mg d.name = some (.ref fa) →
      ∃ (K : PySem.W.Frag) (fd : FuncData) (sp : Sp), K.In h ∧ (∀ (s : Shared) (u : Value), BindsTo s fd ⟨[u], []⟩ [(x, u)]) ∧
        (∀ (H : Hp) (a : Addr) (ns : List Int), ns.length ≤ n → Only H → SqL K H a (ns.map V.int) → sp [.ref a] H (fun v _ => v = .bl true) fun _ _ _ => False) ∧ ∀ base : Heap, K.In base → base.Ns mainGlobals mg → FnG l.prog w K mg base k fa fd [x] sp) :
    PySem.W.WalkO q loose XP YP l.row.toRowW d [] (fun f vs => PySem.call f vs) :=
  Att.attach_call most dfl fun w s₀ s₁ mg mb fa o pm cd doc a vs ns G Y _ _ _ e1 e2 e3 e4 e5 => by
    obtain ⟨K, fd, sp, inK, bd, asks, fn⟩ := F w mg fa _ Y G.T.g e1
    exact law_callG inK G.T.g G.T.b G.T.builtins G.T.nolimit e5 e2 e3 (Nat.le_trans e4 few) room fn bd fun H h1 h2 => asks H a ns e4 h1 h2
end WL

/-! WS: parallel assignments, helpers of walks and of pure proofs. -/
namespace WL
open PySem PySem.Spec PyProof.Rows L2
theorem u1 {k : Nat} {A : Around} (hr : Room k A) : A.units + 1 < cLine := by have := hr.un; omega
theorem u64 {k : Nat} {A : Around} (hr : Room k A) : A.units + 64 < cLine := by have := hr.un; omega
section
variable {G : Glob} {X : Cx} {O : XO} {rk : Bool} {a b c : Expr} {cc : Bool} {n : Nat} {fa : FA} {pos px py pz pt pt2 : Pos} {x y z : Str} {kt k2 : Nat}
def fPar (i j : Nat) (fa : FA) : FS := fun Ed ρ => fa ρ fun ρ1 ds => match ds with
  | [x, y] => Ed.nx ((ρ1.set i (some (.imm x))).set j (some (.imm y)))
  | _ => False
theorem s_par (i j : Nat) {kt k2} (ha : PDa G X O [a, b] cc n fa) (hN : X.N.Nodup) (hc : X.calm = true := by rfl) (hki : O.keep i = false := by rfl) (hkj : O.keep j = false := by rfl) (hi : X.N[i]? = some x := by rfl) (hj : X.N[j]? = some y := by rfl) (hij : i ≠ j := by decide)
    (hx : X.env.scope.names.lookup x = some .local := by rfl) (hy : X.env.scope.names.lookup y = some .local := by rfl)
    (hw : swappedStores [.Tuple [.Name x px, .Name y py] kt pt] (.Tuple [a, b] k2 pt2) X.env = pure (some [x, y]) := by rfl)
    (hs : swapsWithSole [.Tuple [.Name x px, .Name y py] kt pt] (.Tuple [a, b] k2 pt2) pos.line X.env = pure false := by rfl) :
    PDs G X O rk (.Assign [.Tuple [.Name x px, .Name y py] kt pt] (.Tuple [a, b] k2 pt2) pos) n (fPar i j fa) := by
  obtain ⟨t, pa, q⟩ := ha.run
  refine ⟨_, ps_par hc hN hi hj hij hx hy pa hw hs, fun B S H σ ρ Ed D I hb hf E => ?_⟩
  refine q B S H σ ρ _ _ I hb hf fun vs H1 S1 ρ1 ds I1 m1 c1 r1 h1 => ?_
  split at h1
  · cases r1 with
    | cons r1 r2 =>
      cases r2 with
      | cons r2 r3 =>
        cases r3
        exact ⟨_, _, rfl, E.nx _ _ _ _ ((I1.set hki r1).set hkj r2) m1 h1⟩
  · exact h1.elim
def fPar3 (i j l : Nat) (fa : FA) : FS := fun Ed ρ => fa ρ fun ρ1 ds => match ds with
  | [x, y, z] => Ed.nx (((ρ1.set i (some (.imm x))).set j (some (.imm y))).set l (some (.imm z)))
  | _ => False
theorem s_par3 (i j l : Nat) {kt k2} (ha : PDa G X O [a, b, c] cc n fa) (hN : X.N.Nodup) (hc : X.calm = true := by rfl) (hki : O.keep i = false := by rfl) (hkj : O.keep j = false := by rfl) (hkl : O.keep l = false := by rfl) (hi : X.N[i]? = some x := by rfl) (hj : X.N[j]? = some y := by rfl) (hl : X.N[l]? = some z := by rfl)
    (hij : i ≠ j := by decide) (hil : i ≠ l := by decide) (hjl : j ≠ l := by decide) (hx : X.env.scope.names.lookup x = some .local := by rfl) (hy : X.env.scope.names.lookup y = some .local := by rfl) (hz : X.env.scope.names.lookup z = some .local := by rfl)
    (hw : swappedStores [.Tuple [.Name x px, .Name y py, .Name z pz] kt pt] (.Tuple [a, b, c] k2 pt2) X.env = pure (some [x, y, z]) := by rfl)
    (hs : swapsWithSole [.Tuple [.Name x px, .Name y py, .Name z pz] kt pt] (.Tuple [a, b, c] k2 pt2) pos.line X.env = pure false := by rfl) :
    PDs G X O rk (.Assign [.Tuple [.Name x px, .Name y py, .Name z pz] kt pt] (.Tuple [a, b, c] k2 pt2) pos) n (fPar3 i j l fa) := by
  obtain ⟨t, pa, q⟩ := ha.run
  refine ⟨_, ps_par3 hc hN hi hj hl hij hil hjl hx hy hz pa hw hs, fun B S H σ ρ Ed D I hb hf E => ?_⟩
  refine q B S H σ ρ _ _ I hb hf fun vs H1 S1 ρ1 ds I1 m1 c1 r1 h1 => ?_
  split at h1
  · cases r1 with
    | cons r1 r2 =>
      cases r2 with
      | cons r2 r3 =>
        cases r3 with
        | cons r3 r4 =>
          cases r4
          exact ⟨_, _, _, rfl, E.nx _ _ _ _ (((I1.set hki r1).set hkj r2).set hkl r3) m1 h1⟩
  · exact h1.elim
end
/-! ### loops, over data alone -/
/-- an invariant of a walked list -/
theorem forL_inv {h : FG} {gb : FS} {Ed : EndsD} (W : EnvD → Prop) (hn : ∀ ρ, W ρ → Ed.nx ρ) : ∀ (xs : List D) (ρ : EnvD), W ρ →
    (∀ x, x ∈ xs → ∀ (ρ : EnvD) (nx : EnvD → Prop), W ρ → (∀ ρ', W ρ' → nx ρ') → h x ρ fun ρ1 => gb { nx := nx, ct := nx, bk := Ed.nx, rt := Ed.rt } ρ1) → forL h gb Ed xs ρ
  | [], ρ, w, _ => hn ρ w
  | x :: xs, ρ, w, hx => hx x (List.mem_cons_self ..) ρ _ w fun ρ' w' => forL_inv W hn xs ρ' w' fun y hy => hx y (List.mem_cons_of_mem _ hy)
/-- .. that tells how many rounds are behind -/
theorem forL_ix {h : FG} {gb : FS} {Ed : EndsD} (W : Nat → EnvD → Prop) : ∀ (xs : List D) (i : Nat) (ρ : EnvD), W i ρ → (∀ ρ, W (i + xs.length) ρ → Ed.nx ρ) →
    (∀ j x, xs[j]? = some x → ∀ (ρ : EnvD) (nx : EnvD → Prop), W (i + j) ρ → (∀ ρ', W (i + j + 1) ρ' → nx ρ') → h x ρ fun ρ1 => gb { nx := nx, ct := nx, bk := Ed.nx, rt := Ed.rt } ρ1) → forL h gb Ed xs ρ
  | [], i, ρ, w, hn, _ => hn ρ w
  | x :: xs, i, ρ, w, hn, hx => hx 0 x rfl ρ _ w fun ρ' w' => forL_ix W xs (i + 1) ρ' w' (fun ρ z => hn ρ (by rw [List.length_cons, Nat.add_comm xs.length 1, ← Nat.add_assoc]; exact z)) fun j y hy ρ nx w2 k => hx (j + 1) y (by simpa using hy) ρ nx (by rw [Nat.add_comm j 1, ← Nat.add_assoc]; exact w2) fun ρ' z => k ρ' (by rw [Nat.add_comm j 1, ← Nat.add_assoc] at z; exact z)
/-- a comprehension whose items come out as R tells -/
inductive Outs (R : D → Option D → Prop) : List D → List D → Prop
  | nil : Outs R [] []
  | put {x y xs ys} : R x (some y) → Outs R xs ys → Outs R (x :: xs) (y :: ys)
  | drop {x xs ys} : R x none → Outs R xs ys → Outs R (x :: xs) ys
theorem lcL_rel {h : FG} {ft : FT} {fe : FE} {P : List D → Prop} {ρ : EnvD} (R : D → Option D → Prop) : ∀ (xs acc : List D),
    (∀ x, x ∈ xs → ∀ Kp : Option D → Prop, (∀ o, R x o → Kp o) → h x ρ fun ρ1 => ft ρ1 fun ρ2 b => if b = true then fe ρ2 fun _ y => Kp (some y) else Kp none) → (∀ ys, Outs R xs ys → P (acc ++ ys)) → lcL h ft fe P xs acc ρ
  | [], acc, _, hp => by
    have := hp [] .nil
    rw [List.append_nil] at this
    exact this
  | x :: xs, acc, hx, hp => by
    have h1 := hx x (List.mem_cons_self ..) (fun o => match o with
      | some y => lcL h ft fe P xs (acc ++ [y]) ρ
      | none => lcL h ft fe P xs acc ρ) fun o ro => by
        cases o with
        | some y =>
          refine lcL_rel R xs (acc ++ [y]) (fun z hz => hx z (List.mem_cons_of_mem _ hz)) fun ys ho => ?_
          rw [List.append_assoc]
          exact hp (y :: ys) (.put ro ho)
        | none => exact lcL_rel R xs acc (fun z hz => hx z (List.mem_cons_of_mem _ hz)) fun ys ho => hp ys (.drop ro ho)
    exact h1
theorem Outs.map {R : D → Option D → Prop} {f : D → D} (h : ∀ x o, R x o → o = some (f x)) : ∀ {xs ys : List D}, Outs R xs ys → ys = xs.map f
  | _, _, .nil => rfl
  | _, _, .put r t => by
    have e := h _ _ r
    cases e
    rw [Outs.map h t]; rfl
  | _, _, .drop r t => by cases h _ _ r
theorem Outs.filterMap {R : D → Option D → Prop} {f : D → Option D} (h : ∀ x o, R x o → o = f x) : ∀ {xs ys : List D}, Outs R xs ys → ys = xs.filterMap f
  | _, _, .nil => rfl
  | _, _, .put r t => by
    have e := h _ _ r
    rw [List.filterMap_cons, ← e, Outs.filterMap h t]
  | _, _, .drop r t => by
    have e := h _ _ r
    rw [List.filterMap_cons, ← e, Outs.filterMap h t]
theorem Outs.all {R : D → Option D → Prop} {Pr : D → Prop} (h : ∀ x y, R x (some y) → Pr y) : ∀ {xs ys : List D}, Outs R xs ys → ∀ y ∈ ys, Pr y
  | _, _, .nil => fun y hy => nomatch hy
  | _, _, .put r t => fun y hy => by
    rcases List.mem_cons.mp hy with e | hy
    · rw [e]; exact h _ _ r
    · exact Outs.all h t y hy
  | _, _, .drop r t => Outs.all h t
theorem Outs.len {R : D → Option D → Prop} : ∀ {xs ys : List D}, Outs R xs ys → ys.length ≤ xs.length
  | _, _, .nil => Nat.le_refl _
  | _, _, .put r t => Nat.succ_le_succ (Outs.len t)
  | _, _, .drop r t => Nat.le_succ_of_le (Outs.len t)
theorem Outs.lenAll {R : D → Option D → Prop} (h : ∀ x, ¬ R x none) : ∀ {xs ys : List D}, Outs R xs ys → ys.length = xs.length
  | _, _, .nil => rfl
  | _, _, .put r t => congrArg Nat.succ (Outs.lenAll h t)
  | _, _, .drop r t => absurd r (h _)

/-! ### callable defs -/
section
variable {G : Glob} {P : Program} {w : World} {K : PySem.W.Frag} {mg : Str → Option Value} {base : Heap} {x qual : Str} {k n : Nat} {rk : Bool} {m : Spc} {params : Arguments} {body : List Stmt} {scope : Scope} {f : Addr} {fd : FuncData} {ps ks : List Str}
theorem mkFn (Df : FunD K x qual params body scope [] [] f fd) (hF : FnG P w K mg base k f fd ps (spD G K rk ps.length m)) (hm : mg x = some (.ref f)) (har : ps.length = m.ar)
    (hb : ∀ (kV doc pm : Value) (an : Option Addr) (cdv ct : Value) (us : List Value), us.length = ps.length → bindArgs (PySem.W.fnOf x qual params body scope .none kV doc pm an cdv ct) ⟨us, []⟩ = pure (ps.zip us)) : Fn G P w K mg base x k rk m [] :=
  ⟨f, fd, ps, [], [], hF, hm, Df.kp, Df.bindsN hb, .nil, fun _ => .nil, har⟩
/-- positional values and keywords' values, put in order -/
def permIx {α : Type} (ix : List Nat) (us ws : List α) : List α := ix.filterMap fun i => (us ++ ws)[i]?
theorem permIx_rel {α β : Type} {R : α → β → Prop} {us ws : List α} {vs zs : List β} (h1 : Paired R us vs) (h2 : Paired R ws zs) : ∀ ix : List Nat, Paired R (permIx ix us ws) (permIx ix vs zs)
  | [] => .nil
  | i :: ix => by
    have h := paired_append h1 h2
    have ih := permIx_rel h1 h2 ix
    unfold permIx at ih ⊢
    rw [List.filterMap_cons, List.filterMap_cons]
    by_cases hi : i < (vs ++ zs).length
    · obtain ⟨a, b, e1, e2, r⟩ := paired_some h hi
      rw [e1, e2]
      exact .cons r ih
    · have e1 : (us ++ ws)[i]? = none := List.getElem?_eq_none (by rw [h.length]; omega)
      have e2 : (vs ++ zs)[i]? = none := List.getElem?_eq_none (by omega)
      rw [e1, e2]
      exact ih
theorem permIx_len {α : Type} {us ws : List α} : ∀ {ix : List Nat}, (∀ i ∈ ix, i < us.length + ws.length) → (permIx ix us ws).length = ix.length
  | [], _ => rfl
  | i :: ix, h => by
    have ih := permIx_len (us := us) (ws := ws) (ix := ix) fun j hj => h j (List.mem_cons_of_mem _ hj)
    unfold permIx at ih ⊢
    have hi := h i (List.mem_cons_self ..)
    rw [List.filterMap_cons, List.getElem?_eq_getElem (by rw [List.length_append]; exact hi)]
    exact congrArg Nat.succ ih
theorem mkFnK (ix : List Nat) (Df : FunD K x qual params body scope [] [] f fd) (hF : FnG P w K mg base k f fd ps (spD G K rk ps.length m)) (hm : mg x = some (.ref f)) (hix : ∀ i ∈ ix, i < n + ks.length) (hl : ix.length = ps.length)
    (hb : ∀ (kV doc pm : Value) (an : Option Addr) (cdv ct : Value) (us ws : List Value), us.length = n → ws.length = ks.length → bindArgs (PySem.W.fnOf x qual params body scope .none kV doc pm an cdv ct) ⟨us, ks.zip ws⟩ = pure (ps.zip (permIx ix us ws))) : FnK G P w K mg base x k rk m n ks (permIx ix) := by
  obtain ⟨oc, od, dV, kV, doc, pm, an, cdv, ct, osl, e, lk, hcd, hD, hK⟩ := Df.ex
  rcases hD with ⟨_, rfl⟩ | ⟨e, _⟩
  · refine ⟨f, fd, ps, fun us ws => permIx ix us ws, fun us ws => permIx ix us ws, hF, hm, Df.kp, ⟨fun s us ws _ h1 h2 => ?_, fun r1 r2 => permIx_rel r1 r2 ix⟩, fun S vs zs ds es h1 h2 l1 l2 => ⟨permIx_rel h1 h2 ix, (permIx_len fun i hi => by rw [l1, l2]; exact hix i hi).trans hl⟩⟩
    subst e
    exact .of_eq (hb kV doc pm an cdv ct us ws h1 h2)
  · exact absurd rfl e
end
end WL

/-! WT: own classes: attributes, making. -/
namespace WL
open PySem PySem.Spec PyProof.Rows L2
/-- the attribute f of instances: at c = its place among those of the class c -/
structure AtOk (G : Glob) (K : PySem.W.Frag) (f : Str) (at_ : Nat → Option Nat) : Prop where
  ok : ∀ c i, at_ c = some i → ∃ C ns, G.ct c = some (C, ns) ∧ ns[i]? = some f ∧ ns.Nodup ∧ Cls K C ∧ NoAttr K C f
def fldD (at_ : Nat → Option Nat) (x : D) (P : D → Prop) : Prop := match x with
  | .ins c ds => (match at_ c with
    | some i => (match ds[i]? with
      | some d => P d
      | none => False)
    | none => False)
  | _ => False
theorem lookup_at' : ∀ {fs : List (Str × V)} {i : Nat} {f : Str} {p : Str × V}, (fs.map (·.1)).Nodup → (fs.map (·.1))[i]? = some f → fs[i]? = some p → fs.lookup f = some p.2
  | [], i, f, p, _, _, h2 => by simp at h2
  | q :: fs, 0, f, p, nd, h1, h2 => by
    simp only [List.map_cons, List.getElem?_cons_zero, Option.some.injEq] at h1 h2
    subst h2
    subst h1
    simp [List.lookup]
  | q :: fs, i + 1, f, p, nd, h1, h2 => by
    simp only [List.map_cons, List.getElem?_cons_succ, List.nodup_cons] at nd h1 h2
    have hm : f ∈ fs.map (·.1) := List.mem_of_getElem? h1
    have ne : (f == q.1) = false := by
      cases z : (f == q.1) with
      | false => rfl
      | true => rw [beq_iff_eq.mp z] at hm; exact absurd hm nd.1
    rw [List.lookup, ne]
    exact lookup_at' nd.2 h1 h2
theorem lookup_at {fs : List (Str × V)} {ns : List Str} {i : Nat} {f : Str} {p : Str × V} (e : fs.map (·.1) = ns) (nd : ns.Nodup) (h1 : ns[i]? = some f) (h2 : fs[i]? = some p) : fs.lookup f = some p.2 := by
  subst e
  exact lookup_at' nd h1 h2
section
variable {G : Glob} {X : Cx} {O : XO} {rk : Bool} {e o : Expr} {k ka : Kd} {c ca : Bool} {n na : Nat} {f fa : FE} {pos pos' np : Pos} {fl x : Str}
theorem e_fld (at_ : Nat → Option Nat) (ha : PDe G X O e ka ca na fa) (hat : AtOk G X.K fl at_) (hb : attributeBase e fl X.env (eval e X.env) = eval e X.env := by rfl) : PDe G X O (.Attribute e fl pos) .st ca na (fUn (fldD at_) fa) := by
  obtain ⟨ta, pa, qa⟩ := ha.run
  refine ⟨_, pe_fld pa hb, fun B S H σ ρ Kc Q I hb hf hq => ?_⟩
  refine qa B S H σ ρ _ _ I hb hf fun v H1 S1 ρ1 d I1 m1 c1 r1 h1 => ?_
  unfold fldD at h1
  split at h1
  · rename_i cc ds
    split at h1
    · rename_i i ei
      split at h1
      · rename_i y ey
        have r2 : Den G X.K S1 v (.ins cc ds) := by
          cases ka with
          | st => exact r1
          | fr => obtain ⟨a, o, _, e2, _, hc, _⟩ := r1; cases o <;> simp [Own.d, Own.con] at e2 hc
          | bo j => obtain ⟨a, o, _, e2, _, hc⟩ := r1; cases o <;> simp [Own.d, Own.con] at e2 hc
        cases r2 with
        | @ins a C dx fs _ ns _ h hct hn hl hd =>
          obtain ⟨C', ns', e1, e2, nd, cl, na'⟩ := hat.ok cc i ei
          rw [hct] at e1; cases e1
          have hi : i < ds.length := (List.getElem?_eq_some_iff.mp ey).1
          have hp : fs[i]? = some fs[i] := List.getElem?_eq_getElem (by omega)
          exact ⟨a, C, dx, fs, _, rfl, I1.le _ _ h, cl, na', lookup_at hn nd e2 hp, hq _ H1 S1 ρ1 y I1 m1 c1 (hd i _ _ hp ey) h1⟩
      · exact h1.elim
    · exact h1.elim
  · exact h1.elim
/-- self.f = e, a new attribute -/
def fSetF (i : Nat) (fl : Str) (f : FE) : FS := fun Ed ρ => f ρ fun ρ1 d => match ρ1[i]? with
  | some (some (.own (.ins c fs))) => (fl ∉ fs.map (·.1) ∧ fs.length < 1000) ∧ Ed.nx (ρ1.set i (some (.own (.ins c (fs ++ [(fl, d)])))))
  | _ => False
theorem putF_new {fl : Str} {v : V} : ∀ {vs : List (Str × V)}, fl ∉ vs.map (·.1) → putF fl v vs = vs ++ [(fl, v)]
  | [], _ => rfl
  | (g, x) :: r, h => by
    simp only [List.map_cons, List.mem_cons, not_or] at h
    unfold putF
    rw [if_neg (Ne.symm h.1), putF_new h.2]; rfl
theorem s_fld (i : Nat) (hcl : ∀ c C ns, G.ct c = some (C, ns) → Cls X.K C ∧ NoAttr X.K C fl) (hv : PDe G X O e .st c n f) (hN : X.N[i]? = some x := by rfl) (hx : Vis X.env.scope x := by first | exact Or.inl rfl | exact Or.inr (Or.inl rfl) | exact Or.inr (Or.inr rfl))
    (hs : swapsWith e (some (.Attribute (.Name x np) fl pos')) pos.line X.env = pure false := by rfl) (hd : (x == ("__debug__" : Str)) = false := by decide) (hcd : (x == ("__classdict__" : Str)) = false := by decide) :
    PDs G X O rk (.Assign [.Attribute (.Name x np) fl pos'] e pos) n (fSetF i fl f) := by
  obtain ⟨t, pt, q⟩ := hv.run
  refine ⟨_, ps_fld (pe_var hN hx hd hcd) pt hs, fun B S H σ ρ Ed D I hb hf E => ?_⟩
  refine q B S H σ ρ _ _ I hb hf fun v H1 S1 ρ1 d I1 m1 c1 r1 h1 => ?_
  split at h1
  · rename_i cc fs e0
    obtain ⟨⟨hnew, hlen⟩, h1⟩ := h1
    obtain ⟨a, ea, w⟩ := I1.ow i _ e0
    obtain ⟨C, ns, dx, vs, g1, g2, g3⟩ := w.at_
    obtain ⟨cl, na'⟩ := hcl _ _ _ g1
    have hn : fl ∉ vs.map (·.1) := by rw [g3.names]; exact hnew
    refine ⟨.ref a, ea, a, C, dx, vs, rfl, g2, cl, na', by rw [g3.length]; exact hlen, ?_⟩
    rw [putF_new hn]
    exact E.nx _ _ _ _ (I1.chgSlot (i := i) (a := a) (o := .ins cc fs) (o' := .ins cc (fs ++ [(fl, d)])) (u := .ins C dx (vs ++ [(fl, v)])) ⟨e0, ea⟩ ⟨C, ns, dx, _, g1, upd_same, Paired.snoc g3 ⟨rfl, r1⟩⟩) m1 h1
  · exact h1.elim
end

/-! ### making -/
abbrev Bs.init (H : Hp) (S : Fz) (a : Addr) : Bs := { H0 := fun p => if p = a then none else H p, S0 := S.h, tmp := [], self := a }
/-- what __init__ promises: self becomes an instance of the class c -/
def spI (G : Glob) (K : PySem.W.Frag) (n : Nat) (m : Spc) (c : Nat) : Sp := fun vs H Q E => ∃ (S : Fz) (ds : List D) (a dx C : Addr) (ns : List Str) (us : List V), vs = .ref a :: us ∧ us.length = n ∧ G.ct c = some (C, ns) ∧ H a = some (.ins C dx []) ∧ S a = none ∧ ¬ G.M a ∧
  Sta G K (Bs.init H S a) S H ∧ S.T + m.cost ≤ limT ∧ DenL G K S us ds ∧ m.pre ds ∧
  (∀ H' S' fs, Sta G K (Bs.init H S a) S' H' → Sub m.cost S S' → Den G K S' (.ref a) (.ins c fs) → m.post ds (.ins c fs) → Q .non H') ∧
  (∀ n cls dx S' H' x, Sta G K (Bs.init H S a) S' H' → S'.T ≤ S.T → Sub n S S' → DX G K S' H' cls dx x → m.exc ds x → E cls dx H')
def endsI (G : Glob) (c : Nat) (P : D → Prop) : EndsD := { nx := fun ρ => ∃ fs, ρ[0]? = some (some (.own (.ins c fs))) ∧ Own.full G (.ins c fs) ∧ P (.ins c (fs.map (·.2))), rt := fun _ => False }
def startI (c n : Nat) (ds : List D) : EnvD := some (.own (.ins c [])) :: startD n ds
section
variable {G : Glob} {P : Program} {w : World} {K : PySem.W.Frag} {mg : Str → Option Value} {base : Heap} {x qual : Str} {params : Arguments} {body : List Stmt} {scope : Scope} {dvs : List V} {kws : List (Str × V)} {f : Addr} {fd : FuncData} {N ps : List Str} {k : Nat} {m : Spc}
theorem fn_I (c : Nat) {pn : Str} (F : FunD K x qual params body scope dvs kws f fd) {n0 : Str} (Sc : FnScope (n0 :: N) (n0 :: ps) scope)
    (hb : ∀ (cdv : Value) (A : Around) (outer : List Env) (s : Shared) (H : Hp) (E : XK) (t0 : Nat) (ds : List D), Room k (A.deeper (envOfC qual scope s.heap.objs.size f cdv)) → A.guards = some [] → m.pre ds → ds.length = ps.length →
      Takes (cxOf (L2.CX P w) P w K mg base (n0 :: N) qual scope f cdv A outer s H E) (defO E (m.exc ds) t0).W →
      ∃ n g, PDb G (cxOf (L2.CX P w) P w K mg base (n0 :: N) qual scope f cdv A outer s H E) (defO E (m.exc ds) t0) false body n g ∧ n ≤ m.cost ∧ g (endsI G c (m.post ds)) (startI c N.length ds)) :
    FnG P w K mg base (k + 1) f fd (n0 :: ps) (spI G K ps.length m c) := by
  refine FunD.okG F Sc (fun vs H Q E h => ?_) (fun cdv A outer s H vs Q E hr gd h => ?_)
  · obtain ⟨S, ds, a, dx, C, ns, us, e, hl, _⟩ := h
    rw [e, List.length_cons, List.length_cons, hl]
  · obtain ⟨S, ds, a, dx, C, ns, us, e, hl, hct, ha, hs, hm, I, hb0, r, hp, hq, he⟩ := h
    subst e
    have hl' : ds.length = ps.length := by rw [← r.length]; exact hl
    obtain ⟨n, g, pb, hn, hg⟩ := hb cdv A outer s H E S.T ds hr gd hp hl' (takes_of rfl rfl rfl rfl)
    obtain ⟨t, pt, q⟩ := pb.run
    have eS : L2.start (n0 :: N) (V.ref a :: us) = some (V.ref a) :: L2.start N us := by
      unfold L2.start
      simp
    have lN : (L2.start N us).length = (startD N.length ds).length := by
      unfold L2.start startD
      rw [List.length_append, List.length_append, List.length_map, List.length_map, List.length_replicate, List.length_replicate, r.length]
    have ow : ∀ i b o, Owns (some (V.ref a) :: L2.start N us) (startI c N.length ds) i b o → i = 0 ∧ b = a ∧ o = .ins c [] := fun i b o z => by
      cases i with
      | zero =>
        obtain ⟨z1, z2⟩ := z
        simp [startI] at z1 z2
        exact ⟨rfl, z2.symm, z1.symm⟩
      | succ i =>
        have : (startD N.length ds)[i]? = some (some (.own o)) := by simpa [startI] using z.1
        exact (start_ow this).elim
    have I0 : Eok G K (defO E (m.exc ds) S.T) (Bs.init H S a) S H (some (V.ref a) :: L2.start N us) (startI c N.length ds) := by
      refine ⟨I, .inl (Nat.le_refl _), fun n2 cls dx S' H' σ' x t l2 m2 _ d z => he n2 cls dx S' H' x t l2 m2 d z, fun i d e => ?_, fun i o e => ?_, fun i j b o o' h1 h2 => ?_, fun j a o e => by simp at e, fun i j a o o' h1 e => by simp at e, fun i j a o o' e _ => by simp at e, by simp [startI, lN], fun i c' fs e => ?_⟩
      · cases i with
        | zero => simp [startI] at e
        | succ i =>
          obtain ⟨v, e1, e2⟩ := start_im (N := N) r i d (by simpa [startI] using e)
          exact ⟨v, by simpa using e1, e2⟩
      · cases i with
        | zero =>
          simp [startI] at e
          subst e
          exact ⟨a, rfl, hs, hm, if_pos rfl, C, ns, dx, [], hct, ha, .nil⟩
        | succ i => exact (start_ow (by simpa [startI] using e)).elim
      · exact (ow _ _ _ h1).1.trans (ow _ _ _ h2).1.symm
      · cases i with
        | zero => rfl
        | succ i => exact (start_ow (by simpa [startI] using e)).elim
    refine ⟨t, pt, ?_⟩
    rw [eS]
    refine q (Bs.init H S a) S H _ _ (endsI G c (m.post ds)) _ I0 (by omega) hg ⟨fun σ' H' S' ρ' I' m' h => ?_, fun v H' S' d I' m' r' h => h.elim, fun _ _ _ _ _ _ z => z.elim, fun _ _ _ _ _ _ z => z.elim⟩
    obtain ⟨fs, e0, hfull, hpost⟩ := h
    obtain ⟨a', e1, w1⟩ := I'.ow 0 _ e0
    have e2 := I'.sf 0 c fs e0
    have : a' = a := by
      rw [e1] at e2
      cases e2; rfl
    subst this
    obtain ⟨w2, nb⟩ := I'.take ⟨e0, e1⟩
    obtain ⟨S2, I2, m2, dn⟩ := I'.forget.freeze w2 hfull nb
    exact hq H' S2 _ I2.toSta ((m'.t0 m2).up hn) dn hpost
end
end WL

/-! WU: making instances of own classes. -/
namespace WL
open PySem PySem.Spec PyProof.Rows L2
/-- C(..): a new instance and its dict, then __init__; E may look at the locals -/
def tMakeSD (C : Addr) (sp : Sp) (dvs : List V) (E : L2.St → XK) (t : TA) : TE := fun σ H Q => t σ H fun vs H1 => ∀ x dx, H1 x = none → H1 dx = none → dx ≠ x →
  sp (.ref x :: (vs ++ dvs)) (upd (upd H1 dx (.own x)) x (.ins C dx [])) (fun v H2 => v = .non ∧ Q (.ref x) H2) (E σ)
section
variable {X : Cx} {k : Nat} {f C : Addr} {fd : FuncData} {ps : List Str} {sp : Sp} {dvs : List V} {ds : List Value} {E : L2.St → XK} {x : Str} {p pos : Pos} {e : Expr} {es : List Expr} {t : TA}
theorem run_makeG {pins : List (Addr × Obj)} {σ : L2.St} {H : Hp} {s : Shared} {Q : VK} {us : List Value} {vs : List V} (M : Mk X.K C f) (F : FnG X.prog X.w X.K X.mg X.base k f fd ps sp) (hr : Room (k + 1) X.A) (hgd : X.A.guards = some []) (hb : Binds X.K fd ps ds) (hd : Vals dvs ds)
    (hx : PassesAt (L2.CX X.prog X.w) X σ (E σ)) (I : Inv X pins σ H s) (r : Vals vs us)
    (h : ∀ x dx, H x = none → H dx = none → dx ≠ x → sp (.ref x :: (vs ++ dvs)) (upd (upd H dx (.own x)) x (.ins C dx [])) (fun v H2 => v = .non ∧ Q (.ref x) H2) (E σ)) :
    wpAny (model X.prog X.w) X.A (call (.ref C) us) (EP X pins σ Q) X.xe s := by
  have hq := h (s.heap.objs.size + 1) s.heap.objs.size (I.hok.fresh (Nat.le_succ _)) (I.hok.fresh (Nat.le_refl _)) (Nat.ne_of_lt (Nat.lt_succ_self _))
  have I2 := Inv.made (C := C) I
  have r2 : Vals (V.ref (s.heap.objs.size + 1) :: (vs ++ dvs)) (Value.ref (s.heap.objs.size + 1) :: (us ++ ds)) := .cons rfl (r.append hd)
  have hl : (Value.ref (s.heap.objs.size + 1) :: us ++ ds).length = ps.length := by
    have e := r2.length
    rw [F.len _ _ _ _ hq] at e
    exact e.symm
  have gd2 : (X.A.under (.builtin "type.__call__" ⟨.ref C :: us, []⟩)).guards = some [] := by
    first | exact hgd | simpa [Around.under, Around.guards, Code.envs, Code.isFrame] using hgd
  refine wpAny_call (make_map (f := f) I.kIn M.makes M.init (beq_iff_eq.mp M.fn) (codeAny_mono (F.run _ X.stack _ _ ⟨Value.ref (s.heap.objs.size + 1) :: us, []⟩ (Value.ref (s.heap.objs.size + 1) :: (us ++ ds)) _ _ (E σ) (hr.make C us []) gd2
    (I2.env0.make C us []) (hb _ (Value.ref (s.heap.objs.size + 1) :: us) I2.kIn hl) r2 hq) fun r s' hq' => ?_))
  cases r with
  | error e => exact hx pins _ _ e s' I2 hq'
  | ok fl =>
    cases fl with
    | ret u =>
      obtain ⟨v, H', I3, rv, ev, q3⟩ := I2.after hq'
      subst ev
      exact ⟨rv, ⟨V.ref (s.heap.objs.size + 1), H', I3, rfl, q3⟩⟩
    | next => exact False.elim hq'
    | brk => exact False.elim hq'
    | cont => exact False.elim hq'
theorem pe_makeG (M : Mk X.K C f) (F : FnG X.prog X.w X.K X.mg X.base k f fd ps sp) (hr : Room (k + 1) X.A) (hgd : X.A.guards = some []) (hg : Gl X x) (hm : X.mg x = some (.ref C)) (hb : Binds X.K fd ps ds) (hd : Vals dvs ds) (hx : ∀ σ, PassesAt (L2.CX X.prog X.w) X σ (E σ))
    (ha : PA X (e :: es) t) (hdb : (x == ("__debug__" : Str)) = false) (he : starEach (e :: es) X.env = (false, eval e X.env) :: starEach es X.env) (hpl : (backTo pos (starEach es X.env)).any (·.1) = false) :
    PE X (.Call (.Name x p) (e :: es) [] pos) (tMakeSD C sp dvs E t) := by
  refine ⟨fun pins s σ H Q I h => ?_⟩
  refine wpAny_Call_Name_kw (ld_glob I hg hm ?_ hdb)
  refine PySem.W.callWith_K (h₀ := X.base) I.ok.mod.kin M.kp (thn (ha.run pos pins s σ H _ I h) fun us s1 ⟨vs, H1, I1, r, q⟩ => ⟨I1.kIn, ?_⟩) he hpl
  exact run_makeG M F hr hgd hb hd (hx σ) I1 r q
end
section
variable {G : Glob} {K : PySem.W.Frag} {O : XO} {B : Bs} {S S' : Fz} {H H' : Hp}
theorem Sta.openI {x dx C : Addr} (I : Sta G K B S H) (hx : H x = none) (hdx : H dx = none) (ne : dx ≠ x) :
    Sta G K (Bs.init (upd (upd H dx (.own x)) x (.ins C dx [])) S x) S (upd (upd H dx (.own x)) x (.ins C dx [])) := by
  have I2 : Sta G K B S (upd (upd H dx (.own x)) x (.ins C dx [])) := (I.laid hdx).laid (by rw [upd_ne (Ne.symm ne)]; exact hx)
  refine ⟨I2.le, I2.sm, I2.j, fun a z => ?_, fun a z => .inl z, fun a o e _ _ => ?_⟩
  · by_cases h : a = x
    · exact absurd (if_pos h) z
    · have : (Bs.init (upd (upd H dx (.own x)) x (.ins C dx [])) S x).H0 a = (upd (upd H dx (.own x)) x (.ins C dx [])) a := if_neg h
      rw [this] at z; exact z
  · by_cases h : a = x
    · rw [show (Bs.init (upd (upd H dx (.own x)) x (.ins C dx [])) S x).H0 a = none from if_pos h] at e; cases e
    · rw [show (Bs.init (upd (upd H dx (.own x)) x (.ins C dx [])) S x).H0 a = (upd (upd H dx (.own x)) x (.ins C dx [])) a from if_neg h] at e; exact e
theorem Sta.shutI {x dx C : Addr} (hx : H x = none) (hdx : H dx = none) (J : Sta G K (Bs.init (upd (upd H dx (.own x)) x (.ins C dx [])) S x) S' H') : Sta G K (Bs.at H S) S' H' := by
  have key : ∀ a, H a ≠ none → (Bs.init (upd (upd H dx (.own x)) x (.ins C dx [])) S x).H0 a = H a := fun a z => by
    have n1 : a ≠ x := fun e => z (e ▸ hx)
    have n2 : a ≠ dx := fun e => z (e ▸ hdx)
    rw [show (Bs.init (upd (upd H dx (.own x)) x (.ins C dx [])) S x).H0 a = (upd (upd H dx (.own x)) x (.ins C dx [])) a from if_neg n1, upd_ne n1, upd_ne n2]
  refine ⟨J.le, J.sm, J.j, fun a z => ?_, fun a z => ?_, fun a o e m n => ?_⟩
  · have z : H a ≠ none := z
    exact J.dom a (by rw [key a z]; exact z)
  · rcases J.sn a z with z | z
    · exact .inl z
    · refine .inr ?_
      show H a = none
      cases q : H a with
      | none => rfl
      | some o => rw [key a (by rw [q]; exact fun z => nomatch z), q] at z; cases z
  · have e : H a = some o := e
    exact J.kept a o (by rw [key a (by rw [e]; exact fun z => nomatch z), e]) m n
end
/-- a class that is made by its own __init__ -/
structure MkI (G : Glob) (P : Program) (w : World) (K : PySem.W.Frag) (mg : Str → Option Value) (base : Heap) (x : Str) (k : Nat) (m : Spc) (c : Nat) (dds : List D) : Prop where
  ex : ∃ (C f : Addr) (fd : FuncData) (n0 : Str) (ps : List Str) (ds : List Value) (dvs : List V) (ns : List Str), Mk K C f ∧ FnG P w K mg base k f fd (n0 :: ps) (spI G K ps.length m c) ∧ mg x = some (.ref C) ∧ G.ct c = some (C, ns) ∧
    Binds K fd (n0 :: ps) ds ∧ Vals dvs ds ∧ (∀ S : Fz, DenL G K S dvs dds) ∧ ps.length = m.ar
section
variable {G : Glob} {X : Cx} {O : XO} {x : Str} {p pos : Pos} {e : Expr} {es : List Expr} {k j : Nat} {m : Spc} {dds : List D} {c : Bool} {cc na : Nat} {fa : FA}
theorem e_make (F : MkI G X.prog X.w X.K X.mg X.base x k m cc dds) (hr : Room (j + 1) X.A) (hgd : X.A.guards = some []) (hk : k ≤ j) (tk : Lets X O) (ha : PDa G X O (e :: es) c na fa) (hx0 : m.cost = 0 ∨ ∀ x, ¬ O.xd x := by first | exact .inl rfl | exact .inr fun _ z => z) (hg : Gl X x := by rfl) (hdb : (x == ("__debug__" : Str)) = false := by decide)
    (he : starEach (e :: es) X.env = (false, eval e X.env) :: starEach es X.env := by rfl) (hpl : (backTo pos (starEach es X.env)).any (·.1) = false := by rfl) : PDe G X O (.Call (.Name x p) (e :: es) [] pos) .st c (na + m.cost) (fCall O.xd m dds fa) := by
  obtain ⟨C, f, fd, n0, ps, ds, dvs, ns, M, F, hm, hct, hb, hv, hd, hlen⟩ := F.ex
  obtain ⟨t, pa, q⟩ := ha.run
  obtain ⟨E, hE, hW⟩ := tk.ex
  refine ⟨_, pe_makeG M F (hr.mono (by omega)) hgd hg hm hb hv hE pa hdb he hpl, fun B S H σ ρ Kc Q I hb hf hq => ?_⟩
  refine q B S H σ ρ _ _ I (by omega) hf fun vs H1 S1 ρ1 xs I1 m1 c1 r1 h1 => ?_
  intro y dy hy hdy hne
  obtain ⟨har, hp, hpost, hx⟩ := h1
  have r2 : DenL G X.K S1 (vs ++ dvs) (xs ++ dds) := paired_append r1 (hd S1)
  obtain ⟨sy, my, _⟩ := I1.toSta.new hy
  refine ⟨S1, xs ++ dds, y, dy, C, ns, vs ++ dvs, rfl, ?_, hct, upd_same, sy, my, I1.toSta.openI hy hdy hne, (by have := m1.lo; omega), r2, hp, fun H' S' fs J m' dn hpo => ⟨rfl, ?_⟩, fun n2 cls dx S' H' x' J l2 m' dd hxe => ?_⟩
  · rw [r2.length, List.length_append, har, hlen]
  · exact hq _ H' S' ρ1 _ (I1.call (J.shutI hy hdy) hx0 m') (m1.trans m') c1 dn (hpost _ hpo)
  · rcases I1.tz with z | z
    · exact hW _ _ _ _ x' (hx x' hxe) (I1.xr n2 cls dx S' H' σ x' (I1.toSta.call (J.shutI hy hdy)) (Nat.le_trans l2 z) m' (fun _ _ => rfl) dd (hx x' hxe))
    · exact absurd (hx x' hxe) (z x')
end

/-! ### methods -/
/-- o.m(..); E may look at the locals -/
def tMethSD (C : Addr) (m : Str) (sp : Sp) (dvs : List V) (E : L2.St → XK) (ta : TE) (t : TA) : TE := fun σ H Q => ta σ H fun x H1 => ∃ a dx fs, x = .ref a ∧ H1 a = some (.ins C dx fs) ∧ fs.lookup m = none ∧
  t σ H1 fun vs H2 => sp (x :: (vs ++ dvs)) H2 Q (E σ)
section
variable {X : Cx} {k : Nat} {f C : Addr} {fd : FuncData} {ps : List Str} {sp : Sp} {dvs : List V} {ds : List Value} {E : L2.St → XK} {m : Str} {apos pos : Pos} {e o : Expr} {es : List Expr} {ta : TE} {t : TA}
theorem pe_methG {pl : Sem Bool} (he : PE X o ta) (c : Cls X.K C) (hm : Meth X.K C m f) (F : FnG X.prog X.w X.K X.mg X.base k f fd ps sp) (hr : Room k X.A) (hgd : X.A.guards = some []) (hb : Binds X.K fd ps ds) (hd : Vals dvs ds) (hx : ∀ σ, PassesAt (L2.CX X.prog X.w) X σ (E σ)) (ha : PA X (e :: es) t)
    (hst : starEach (e :: es) X.env = (false, eval e X.env) :: starEach es X.env) (hpl : (backTo pos (starEach es X.env)).any (·.1) = false)
    (ht : eval (.Call (.Attribute o m apos) (e :: es) [] pos) X.env = (do
      let ov ← eval o X.env
      standAt apos.atName
      let (f, first) ← holding [ov] (getMethod ov m pl)
      callWith pos f first (backTo pos (starEach (e :: es) X.env)) (backToKw pos (keywordEach [] X.env)))) :
    PE X (.Call (.Attribute o m apos) (e :: es) [] pos) (tMethSD C m sp dvs E ta t) := by
  refine ⟨fun pins s σ H Q I h => ?_⟩
  refine PySem.W.methodCall_KW (pl := pl) (thn (he.run pins s σ H _ I h) fun u s1 ⟨x, H1, I1, rx, a, dx, fs, ex, ea, l, q⟩ => ?_) ht
  subst ex
  obtain rfl : u = Value.ref a := rx
  refine getmeth_ok I1 ea c hm l ?_
  refine PySem.W.callWith_K (first := [.ref a]) (h₀ := X.base) I.ok.mod.kin hm.kp (thn (ha.run pos pins s1 σ H1 _ I1 q) fun us s2 ⟨vs, H2, I2, r, q2⟩ => ⟨I2.kIn, ?_⟩) hst hpl
  exact run_Gp (us := .ref a :: us) (vs := .ref a :: vs) F hr hgd hb hd (hx σ) I2 (.cons rfl r) q2
theorem pe_methG0 {pl : Sem Bool} (he : PE X o ta) (c : Cls X.K C) (hm : Meth X.K C m f) (F : FnG X.prog X.w X.K X.mg X.base k f fd ps sp) (hr : Room k X.A) (hgd : X.A.guards = some []) (hb : Binds X.K fd ps ds) (hd : Vals dvs ds) (hx : ∀ σ, PassesAt (L2.CX X.prog X.w) X σ (E σ))
    (ht : eval (.Call (.Attribute o m apos) [] [] pos) X.env = (do
      let ov ← eval o X.env
      standAt apos.atName
      let (f, first) ← holding [ov] (getMethod ov m pl)
      callWith pos f first (backTo pos (starEach [] X.env)) (backToKw pos (keywordEach [] X.env)))) :
    PE X (.Call (.Attribute o m apos) [] [] pos) (tMethSD C m sp dvs E ta tNil) := by
  refine ⟨fun pins s σ H Q I h => ?_⟩
  refine PySem.W.methodCall_KW (pl := pl) (thn (he.run pins s σ H _ I h) fun u s1 ⟨x, H1, I1, rx, a, dx, fs, ex, ea, l, q⟩ => ?_) ht
  subst ex
  obtain rfl : u = Value.ref a := rx
  refine getmeth_ok I1 ea c hm l ?_
  exact PySem.W.callWith_K0 (first := [.ref a]) I1.kIn hm.kp (run_Gp (us := [.ref a]) (vs := [.ref a]) F hr hgd hb hd (hx σ) I1 (.cons rfl .nil) q)
end

/-- a method of the class c -/
structure Mt (G : Glob) (P : Program) (w : World) (K : PySem.W.Frag) (mg : Str → Option Value) (base : Heap) (cc : Nat) (nm : Str) (k : Nat) (rk : Bool) (m : Spc) (dds : List D) : Prop where
  ex : ∃ (C f : Addr) (fd : FuncData) (ps : List Str) (ds : List Value) (dvs : List V) (ns : List Str), FnG P w K mg base k f fd ps (spD G K rk ps.length m) ∧ G.ct cc = some (C, ns) ∧ nm ∉ ns ∧ Cls K C ∧ Meth K C nm f ∧ Binds K fd ps ds ∧ Vals dvs ds ∧ (∀ S : Fz, DenL G K S dvs dds) ∧ ps.length = m.ar
theorem lookup_none {fs : List (Str × V)} {f : Str} (h : f ∉ fs.map (·.1)) : fs.lookup f = none := by
  induction fs with
  | nil => rfl
  | cons p r ih =>
    simp only [List.map_cons, List.mem_cons, not_or] at h
    have e : (f == p.1) = false := by
      cases z : (f == p.1) with
      | false => rfl
      | true => exact absurd (beq_iff_eq.mp z) h.1
    rw [List.lookup, e]
    exact ih h.2
def fMeth (cc : Nat) (xd : D → Prop) (m : Spc) (dds : List D) (fo : FE) (fa : FA) : FE := fun ρ Kc => fo ρ fun ρ1 x => (∃ fs, x = .ins cc fs) ∧ fa ρ1 fun ρ2 ds => 1 + ds.length + dds.length = m.ar ∧ m.pre (x :: (ds ++ dds)) ∧ (∀ d, m.post (x :: (ds ++ dds)) d → Kc ρ2 d) ∧ ∀ z, m.exc (x :: (ds ++ dds)) z → xd z
section
variable {G : Glob} {X : Cx} {O : XO} {rk : Bool} {ko : Kd} {nm : Str} {apos pos : Pos} {e o : Expr} {es : List Expr} {k j : Nat} {m : Spc} {dds : List D} {c co : Bool} {cc na no : Nat} {fo : FE} {fa : FA}
theorem e_meth {pl : Sem Bool} (F : Mt G X.prog X.w X.K X.mg X.base cc nm k rk m dds) (hr : Room j X.A) (hgd : X.A.guards = some []) (hk : k ≤ j) (tk : Lets X O) (ho : PDe G X O o .st co no fo) (ha : PDa G X O (e :: es) c na fa) (hx0 : m.cost = 0 ∨ ∀ x, ¬ O.xd x := by first | exact .inl rfl | exact .inr fun _ z => z)
    (he : starEach (e :: es) X.env = (false, eval e X.env) :: starEach es X.env := by rfl) (hpl : (backTo pos (starEach es X.env)).any (·.1) = false := by rfl)
    (ht : eval (.Call (.Attribute o nm apos) (e :: es) [] pos) X.env = (do
      let ov ← eval o X.env
      standAt apos.atName
      let (f, first) ← holding [ov] (getMethod ov nm pl)
      callWith pos f first (backTo pos (starEach (e :: es) X.env)) (backToKw pos (keywordEach [] X.env))) := by rfl) :
    PDe G X O (.Call (.Attribute o nm apos) (e :: es) [] pos) (rkK rk) (co && c) (no + na + m.cost) (fMeth cc O.xd m dds fo fa) := by
  obtain ⟨C, f, fd, ps, ds, dvs, ns, F, hct, hns, cl, mt, hb, hv, hd, hlen⟩ := F.ex
  obtain ⟨to, po, qo⟩ := ho.run
  obtain ⟨t, pa, q⟩ := ha.run
  obtain ⟨E, hE, hW⟩ := tk.ex
  refine ⟨_, pe_methG po cl mt (F.mono hk) hr hgd hb hv hE pa he hpl ht, fun B S H σ ρ Kc Q I hb hf hq => ?_⟩
  refine qo B S H σ ρ _ _ I (by omega) hf fun x H0 S0 ρ0 xd I0 m0 c0 r0 h0 => ?_
  obtain ⟨⟨fs0, rfl⟩, h0⟩ := h0
  have r0 : Den G X.K S0 x (.ins cc fs0) := r0
  have r0' := r0
  cases r0 with
  | @ins a C' dx fs _ ns' _ h hct' hn hl hdf =>
    rw [hct] at hct'; cases hct'
    refine ⟨a, dx, fs, rfl, I0.le _ _ h, lookup_none (by rw [hn]; exact hns), ?_⟩
    refine q B S0 H0 σ ρ0 _ _ I0 (by have := m0.lo; omega) h0 fun vs H1 S1 ρ1 xs I1 m1 c1 r1 h1 => ?_
    obtain ⟨har, hp, hpost, hx⟩ := h1
    have r2 : DenL G X.K S1 (.ref a :: (vs ++ dvs)) (.ins cc fs0 :: (xs ++ dds)) := .cons (r0'.mono m1) (paired_append r1 (hd S1))
    refine ⟨S1, _, ?_, I1.toSta.enter, (by have := m0.lo; have := m1.lo; omega), r2, hp, fun v H' S' d J m' r' hpo => ?_, fun n2 cls dx S' H' x' J l2 m' dd hxe => ?_⟩
    · rw [r2.length, List.length_cons, List.length_append, hlen]; omega
    · exact hq v H' S' ρ1 d (I1.call J hx0 m') ((m0.trans m1).trans m') (fun z => by
        simp only [Bool.and_eq_true] at z
        rw [c1 z.2, c0 z.1]) (I1.answer J m' r') (hpost d hpo)
    · rcases I1.tz with z | z
      · exact hW _ _ _ _ x' (hx x' hxe) (I1.xr n2 cls dx S' H' σ x' (I1.toSta.call J) (Nat.le_trans l2 z) m' (fun _ _ => rfl) dd (hx x' hxe))
      · exact absurd (hx x' hxe) (z x')
end
end WL

/-! WV: properties of own classes. -/
namespace WL
open PySem PySem.Spec PyProof.Rows L2
section
variable {X : Cx} {k : Nat} {C p g a dx : Addr} {fs : List (Str × V)} {f : Str} {fd : FuncData} {ps : List Str} {sp : Sp} {e : Expr} {pos : Pos} {ta : TE}
theorem getprop_G {pins : List (Addr × Obj)} {σ : L2.St} {H : Hp} {s : Shared} {Q : VK} {b : Bool} {E' : Value → Shared → Prop} (I : Inv X pins σ H s) (ea : H a = some (.ins C dx fs)) (c : Cls X.K C) (hp : PropOf X.K C f p g)
    (F : FnG X.prog X.w X.K X.mg X.base k g fd ps sp) (hr : Room (k + 1) X.A) (hgd : X.A.guards = some []) (hb : Binds X.K fd ps []) (h : sp [.ref a] H Q (fun _ _ _ => False)) :
    wpAny (model X.prog X.w) X.A (getAttr (.ref a) f b) (EP X pins σ Q) E' s := by
  obtain ⟨mA, O, _, _, _, _⟩ := ins_get I.hok ea
  obtain ⟨od, J, _⟩ := O.look
  obtain ⟨rest, hrec⟩ := hp.rec_
  have I1 := I.tok (s.toks + 1)
  have hl : ([Value.ref a] ++ []).length = ps.length := by
    rw [← F.len _ _ _ _ h]; rfl
  have hc : (PySem.W.clsIn X.K C).isSome = true := by
    obtain ⟨cd, hc, _⟩ := PySem.W.any_some c.hd
    rw [hc]
    rfl
  have gd2 : X.A.in1.guards = some [] := by first | exact hgd | simpa [Around.in1] using hgd
  refine PySem.W.get_bind I.kIn J (PySem.W.plainGet_of (c.get f)).1 (PySem.W.findObj_data hc hp.at_ hp.get hp.tak) (PySem.W.plainGet_of (c.get f)).2 (wpAny_call (PySem.W.prop_get (s := { s with toks := s.toks + 1 }) I.kIn hrec ?_))
  refine codeAny_mono (F.run X.A.in1 X.stack { s with toks := s.toks + 1 } H ⟨[.ref a], []⟩ [.ref a] [.ref a] Q (fun _ _ _ => False) hr.in1 gd2 I1.env0.in1 (hb _ [.ref a] I1.kIn hl) (.cons rfl .nil) h) fun r s' hq => ?_
  cases r with
  | error er =>
    obtain ⟨a, B, H', cls, d, _, _, _, _, _, _, _, z⟩ := hq
    exact z.elim
  | ok fl =>
    cases fl with
    | ret u =>
      obtain ⟨v, H', I3, rv, q3⟩ := I1.after hq
      show wpAny _ _ (handedOut u) _ _ _
      rw [PySem.W.handedOut_of (handed_of rv)]
      exact wpAny_pure ⟨v, H', I3, rv, q3⟩
    | next => exact False.elim hq
    | brk => exact False.elim hq
    | cont => exact False.elim hq
def tPropG (C : Addr) (sp : Sp) (ta : TE) : TE := fun σ H Q => ta σ H fun x H1 => ∃ a dx fs, x = .ref a ∧ H1 a = some (.ins C dx fs) ∧ sp [.ref a] H1 Q (fun _ _ _ => False)
theorem pe_propG (he : PE X e ta) (c : Cls X.K C) (hp : PropOf X.K C f p g) (F : FnG X.prog X.w X.K X.mg X.base k g fd ps sp) (hr : Room (k + 1) X.A) (hgd : X.A.guards = some []) (hb : Binds X.K fd ps [])
    (hab : attributeBase e f X.env (eval e X.env) = eval e X.env) : PE X (.Attribute e f pos) (tPropG C sp ta) := by
  refine ⟨fun pins s σ H Q I h => ?_⟩
  refine attr_of hab (thn (he.run pins s σ H _ I h) fun u s1 ⟨x, H1, I1, rx, a, dx, fs, ex, ea, q⟩ => ?_)
  subst ex
  obtain rfl : u = Value.ref a := rx
  exact getprop_G I1 ea c hp F hr hgd hb q
end

/-- a property of the class cc whose getter raises nothing -/
structure Pr (G : Glob) (P : Program) (w : World) (K : PySem.W.Frag) (mg : Str → Option Value) (base : Heap) (cc : Nat) (nm : Str) (k : Nat) (rk : Bool) (m : Spc) : Prop where
  ex : ∃ (C p g : Addr) (fd : FuncData) (pn : Str) (ns : List Str), FnG P w K mg base k g fd [pn] (spD G K rk 1 m) ∧ G.ct cc = some (C, ns) ∧ Cls K C ∧ PropOf K C nm p g ∧ Binds K fd [pn] [] ∧ (∀ ds x, ¬ m.exc ds x)
def fProp (cc : Nat) (m : Spc) (fo : FE) : FE := fun ρ Kc => fo ρ fun ρ1 x => (∃ fs, x = .ins cc fs) ∧ m.pre [x] ∧ ∀ d, m.post [x] d → Kc ρ1 d
section
variable {G : Glob} {X : Cx} {O : XO} {rk : Bool} {nm : Str} {pos : Pos} {o : Expr} {k j : Nat} {m : Spc} {co : Bool} {cc no : Nat} {fo : FE}
theorem e_prop (F : Pr G X.prog X.w X.K X.mg X.base cc nm k rk m) (hr : Room (j + 1) X.A) (hgd : X.A.guards = some []) (hk : k ≤ j) (ho : PDe G X O o .st co no fo) (hx0 : m.cost = 0 ∨ ∀ x, ¬ O.xd x := by first | exact .inl rfl | exact .inr fun _ z => z)
    (hab : attributeBase o nm X.env (eval o X.env) = eval o X.env := by rfl) : PDe G X O (.Attribute o nm pos) (rkK rk) co (no + m.cost) (fProp cc m fo) := by
  obtain ⟨C, p, g, fd, pn, ns, F, hct, cl, pr, hb, hex⟩ := F.ex
  obtain ⟨to, po, qo⟩ := ho.run
  refine ⟨_, pe_propG po cl pr (F.mono hk) hr hgd hb hab, fun B S H σ ρ Kc Q I hb hf hq => ?_⟩
  refine qo B S H σ ρ _ _ I (by omega) hf fun x H0 S0 ρ0 xd I0 m0 c0 r0 h0 => ?_
  obtain ⟨⟨fs0, rfl⟩, hp, hpost⟩ := h0
  have r0 : Den G X.K S0 x (.ins cc fs0) := r0
  have r0' := r0
  cases r0 with
  | @ins a C' dx fs _ ns' _ h hct' hn hl hdf =>
    rw [hct] at hct'; cases hct'
    refine ⟨a, dx, fs, rfl, I0.le _ _ h, ?_⟩
    refine ⟨S0, _, rfl, I0.toSta.enter, (by have := m0.lo; omega), .cons r0' .nil, hp, fun v H' S' d J m' r' hpo => ?_, fun n2 cls dx S' H' x' J l2 m' dd hxe => (hex _ _ hxe).elim⟩
    exact hq v H' S' ρ0 d (I0.call J hx0 m') (m0.trans m') c0 (I0.answer J m' r') (hpost d hpo)
end
end WL

/-! WW: methods and makes without arguments. -/
namespace WL
open PySem PySem.Spec PyProof.Rows L2
section
variable {G : Glob} {X : Cx} {O : XO} {rk : Bool} {nm : Str} {apos pos : Pos} {o : Expr} {k j : Nat} {m : Spc} {dds : List D} {co : Bool} {cc no : Nat} {fo : FE}
def fMeth0 (cc : Nat) (xd : D → Prop) (m : Spc) (dds : List D) (fo : FE) : FE := fun ρ Kc => fo ρ fun ρ1 x => (∃ fs, x = .ins cc fs) ∧ 1 + dds.length = m.ar ∧ m.pre (x :: dds) ∧ (∀ d, m.post (x :: dds) d → Kc ρ1 d) ∧ ∀ z, m.exc (x :: dds) z → xd z
theorem e_meth0 {pl : Sem Bool} (F : Mt G X.prog X.w X.K X.mg X.base cc nm k rk m dds) (hr : Room j X.A) (hgd : X.A.guards = some []) (hk : k ≤ j) (tk : Lets X O) (ho : PDe G X O o .st co no fo) (hx0 : m.cost = 0 ∨ ∀ x, ¬ O.xd x := by first | exact .inl rfl | exact .inr fun _ z => z)
    (ht : eval (.Call (.Attribute o nm apos) [] [] pos) X.env = (do
      let ov ← eval o X.env
      standAt apos.atName
      let (f, first) ← holding [ov] (getMethod ov nm pl)
      callWith pos f first (backTo pos (starEach [] X.env)) (backToKw pos (keywordEach [] X.env))) := by rfl) :
    PDe G X O (.Call (.Attribute o nm apos) [] [] pos) (rkK rk) co (no + m.cost) (fMeth0 cc O.xd m dds fo) := by
  obtain ⟨C, f, fd, ps, ds, dvs, ns, F, hct, hns, cl, mt, hb, hv, hd, hlen⟩ := F.ex
  obtain ⟨to, po, qo⟩ := ho.run
  obtain ⟨E, hE, hW⟩ := tk.ex
  refine ⟨_, pe_methG0 po cl mt (F.mono hk) hr hgd hb hv hE ht, fun B S H σ ρ Kc Q I hb hf hq => ?_⟩
  refine qo B S H σ ρ _ _ I (by omega) hf fun x H0 S0 ρ0 xd I0 m0 c0 r0 h0 => ?_
  obtain ⟨⟨fs0, rfl⟩, har, hp, hpost, hx⟩ := h0
  have r0 : Den G X.K S0 x (.ins cc fs0) := r0
  have r0' := r0
  cases r0 with
  | @ins a C' dx fs _ ns' _ h hct' hn hl hdf =>
    rw [hct] at hct'; cases hct'
    refine ⟨a, dx, fs, rfl, I0.le _ _ h, lookup_none (by rw [hn]; exact hns), ?_⟩
    have r2 : DenL G X.K S0 (.ref a :: dvs) (.ins cc fs0 :: dds) := .cons r0' (hd S0)
    refine ⟨S0, _, ?_, I0.toSta.enter, (by have := m0.lo; omega), r2, hp, fun v H' S' d J m' r' hpo => ?_, fun n2 cls dx S' H' x' J l2 m' dd hxe => ?_⟩
    · show (V.ref a :: dvs).length = ps.length
      rw [r2.length, List.length_cons, hlen]; omega
    · exact hq v H' S' ρ0 d (I0.call J hx0 m') (m0.trans m') c0 (I0.answer J m' r') (hpost d hpo)
    · rcases I0.tz with z | z
      · exact hW _ _ _ _ x' (hx x' hxe) (I0.xr n2 cls dx S' H' σ x' (I0.toSta.call J) (Nat.le_trans l2 z) m' (fun _ _ => rfl) dd (hx x' hxe))
      · exact absurd (hx x' hxe) (z x')
end

section
variable {X : Cx} {k : Nat} {f C : Addr} {fd : FuncData} {ps : List Str} {sp : Sp} {dvs : List V} {ds : List Value} {E : L2.St → XK} {x : Str} {p pos : Pos}
theorem pe_makeG0 (M : Mk X.K C f) (F : FnG X.prog X.w X.K X.mg X.base k f fd ps sp) (hr : Room (k + 1) X.A) (hgd : X.A.guards = some []) (hg : Gl X x) (hm : X.mg x = some (.ref C)) (hb : Binds X.K fd ps ds) (hd : Vals dvs ds) (hx : ∀ σ, PassesAt (L2.CX X.prog X.w) X σ (E σ))
    (hdb : (x == ("__debug__" : Str)) = false) : PE X (.Call (.Name x p) [] [] pos) (tMakeSD C sp dvs E tNil) := by
  refine ⟨fun pins s σ H Q I h => ?_⟩
  refine wpAny_Call_Name_kw (ld_glob I hg hm ?_ hdb)
  exact PySem.W.callWith_K0 I.kIn M.kp (run_makeG (us := []) M F hr hgd hb hd (hx σ) I .nil h)
end

def fCall0 (xd : D → Prop) (m : Spc) (dds : List D) : FE := fun ρ Kc => dds.length = m.ar ∧ m.pre dds ∧ (∀ d, m.post dds d → Kc ρ d) ∧ ∀ x, m.exc dds x → xd x
section
variable {G : Glob} {X : Cx} {O : XO} {x : Str} {p pos : Pos} {k j : Nat} {m : Spc} {dds : List D} {cc : Nat}
theorem e_make0 (F : MkI G X.prog X.w X.K X.mg X.base x k m cc dds) (hr : Room (j + 1) X.A) (hgd : X.A.guards = some []) (hk : k ≤ j) (tk : Lets X O) (hx0 : m.cost = 0 ∨ ∀ x, ¬ O.xd x := by first | exact .inl rfl | exact .inr fun _ z => z) (hg : Gl X x := by rfl) (hdb : (x == ("__debug__" : Str)) = false := by decide) :
    PDe G X O (.Call (.Name x p) [] [] pos) .st true m.cost (fCall0 O.xd m dds) := by
  obtain ⟨C, f, fd, n0, ps, ds, dvs, ns, M, F, hm, hct, hb, hv, hd, hlen⟩ := F.ex
  obtain ⟨E, hE, hW⟩ := tk.ex
  refine ⟨_, pe_makeG0 M F (hr.mono (by omega)) hgd hg hm hb hv hE hdb, fun B S H σ ρ Kc Q I hb hf hq => ?_⟩
  obtain ⟨har, hp, hpost, hx⟩ := hf
  intro y dy hy hdy hne
  obtain ⟨sy, my, _⟩ := I.toSta.new hy
  refine ⟨S, dds, y, dy, C, ns, dvs, rfl, ?_, hct, upd_same, sy, my, I.toSta.openI hy hdy hne, hb, hd S, hp, fun H' S' fs J m' dn hpo => ⟨rfl, ?_⟩, fun n2 cls dx S' H' x' J l2 m' dd hxe => ?_⟩
  · rw [(hd S).length, har, hlen]
  · exact hq _ H' S' ρ _ (I.call (J.shutI hy hdy) hx0 m') m' (fun _ => rfl) dn (hpost _ hpo)
  · rcases I.tz with z | z
    · exact hW _ _ _ _ x' (hx x' hxe) (I.xr n2 cls dx S' H' σ x' (I.toSta.call (J.shutI hy hdy)) (Nat.le_trans l2 z) m' (fun _ _ => rfl) dd (hx x' hxe))
    · exact absurd (hx x' hxe) (z x')
end
end WL

/-! WX: making with keywords. -/
namespace WL
open PySem PySem.Spec PyProof.Rows L2
def tMakeGK (C : Addr) (n m : Nat) (sp : Sp) (gV : List V → List V → List V) (E : L2.St → XK) (t tk : TA) : TE := fun σ H Q => t σ H fun vs H1 => tk σ H1 fun zs H2 => vs.length = n ∧ zs.length = m ∧
  ∀ x dx, H2 x = none → H2 dx = none → dx ≠ x → sp (gV (.ref x :: vs) zs) (upd (upd H2 dx (.own x)) x (.ins C dx [])) (fun v H3 => v = .non ∧ Q (.ref x) H3) (E σ)
section
variable {X : Cx} {k n : Nat} {f C : Addr} {fd : FuncData} {ps ks : List Str} {sp : Sp} {E : L2.St → XK} {x : Str} {p pos : Pos} {e : Expr} {es : List Expr} {kws : List Keyword} {t tk : TA} {g : List Value → List Value → List Value} {gV : List V → List V → List V}
theorem run_makeGK {pins : List (Addr × Obj)} {σ : L2.St} {H : Hp} {s : Shared} {Q : VK} {us ws : List Value} {vs zs : List V} (M : Mk X.K C f) (F : FnG X.prog X.w X.K X.mg X.base k f fd ps sp) (hr : Room (k + 1) X.A) (hgd : X.A.guards = some []) (hb : KBn X.K fd ps (n + 1) ks g gV)
    (hx : PassesAt (L2.CX X.prog X.w) X σ (E σ)) (I : Inv X pins σ H s) (r : Vals vs us) (rz : Vals zs ws) (l1 : vs.length = n) (l2 : zs.length = ks.length)
    (h : ∀ x dx, H x = none → H dx = none → dx ≠ x → sp (gV (.ref x :: vs) zs) (upd (upd H dx (.own x)) x (.ins C dx [])) (fun v H2 => v = .non ∧ Q (.ref x) H2) (E σ)) :
    wpAny (model X.prog X.w) X.A (call (.ref C) us (ks.zip ws)) (EP X pins σ Q) X.xe s := by
  have hq := h (s.heap.objs.size + 1) s.heap.objs.size (I.hok.fresh (Nat.le_succ _)) (I.hok.fresh (Nat.le_refl _)) (Nat.ne_of_lt (Nat.lt_succ_self _))
  have I2 := Inv.made (C := C) I
  have r1 : Vals (V.ref (s.heap.objs.size + 1) :: vs) (Value.ref (s.heap.objs.size + 1) :: us) := .cons rfl r
  have r2 := hb.rel r1 rz
  have e1 : (Value.ref (s.heap.objs.size + 1) :: us).length = n + 1 := r1.length.symm.trans (congrArg Nat.succ l1)
  have e2 : ws.length = ks.length := rz.length.symm.trans l2
  have gd2 : (X.A.under (.builtin "type.__call__" ⟨.ref C :: us, ks.zip ws⟩)).guards = some [] := by
    first | exact hgd | simpa [Around.under, Around.guards, Code.envs, Code.isFrame] using hgd
  refine wpAny_call (make_map (f := f) I.kIn M.makes M.init (beq_iff_eq.mp M.fn) (codeAny_mono (F.run _ X.stack _ _ ⟨Value.ref (s.heap.objs.size + 1) :: us, ks.zip ws⟩ (g (Value.ref (s.heap.objs.size + 1) :: us) ws) _ _ (E σ) (hr.make C us (ks.zip ws)) gd2
    (I2.env0.make C us (ks.zip ws)) (hb.to _ (Value.ref (s.heap.objs.size + 1) :: us) ws I2.kIn e1 e2) r2 hq) fun r s' hq' => ?_))
  cases r with
  | error e => exact hx pins _ _ e s' I2 hq'
  | ok fl =>
    cases fl with
    | ret u =>
      obtain ⟨v, H', I3, rv, ev, q3⟩ := I2.after hq'
      subst ev
      exact ⟨rv, ⟨V.ref (s.heap.objs.size + 1), H', I3, rfl, q3⟩⟩
    | next => exact False.elim hq'
    | brk => exact False.elim hq'
    | cont => exact False.elim hq'
theorem pe_makeGK (M : Mk X.K C f) (F : FnG X.prog X.w X.K X.mg X.base k f fd ps sp) (hr : Room (k + 1) X.A) (hgd : X.A.guards = some []) (hg : Gl X x) (hm : X.mg x = some (.ref C)) (hb : KBn X.K fd ps (n + 1) ks g gV) (hx : ∀ σ, PassesAt (L2.CX X.prog X.w) X σ (E σ))
    (ha : PA X (e :: es) t) (hkw : PK X kws tk) (hall : (backToKw pos (keywordEach kws X.env)).all (·.1.isSome) = true) (hks : (backToKw pos (keywordEach kws X.env)).filterMap (·.1) = ks)
    (hdb : (x == ("__debug__" : Str)) = false) (he : starEach (e :: es) X.env = (false, eval e X.env) :: starEach es X.env)
    (hpl : ((backTo pos (starEach (e :: es) X.env)).any (·.1) || (backToKw pos (keywordEach kws X.env)).any (·.1.isNone)) = false) :
    PE X (.Call (.Name x p) (e :: es) kws pos) (tMakeGK C n ks.length sp gV E t tk) := by
  refine ⟨fun pins s σ H Q I h => ?_⟩
  refine wpAny_Call_Name_kw (ld_glob I hg hm ?_ hdb)
  refine PySem.W.callWith_KW (h₀ := X.base) I.ok.mod.kin M.kp hall (thn (ha.run pos pins s σ H _ I h) fun us s1 ⟨vs, H1, I1, r, q⟩ => ?_) hpl he
  refine thn (hkw.run pos pins s1 σ H1 _ I1 q) fun ws s2 ⟨zs, H2, I2, rz, l1, l2, q2⟩ => ⟨I2.kIn, ?_⟩
  rw [hks]
  exact run_makeGK M F hr hgd hb (hx σ) I2 r rz l1 l2 q2
end

/-- a class made with n positional values and the keywords ks -/
structure MkIK (G : Glob) (P : Program) (w : World) (K : PySem.W.Frag) (mg : Str → Option Value) (base : Heap) (x : Str) (k : Nat) (m : Spc) (cc n : Nat) (ks : List Str) (gD : List D → List D → List D) : Prop where
  ex : ∃ (C f : Addr) (fd : FuncData) (n0 : Str) (ps : List Str) (ns : List Str) (g : List Value → List Value → List Value) (gV gV' : List V → List V → List V), Mk K C f ∧ FnG P w K mg base k f fd (n0 :: ps) (spI G K ps.length m cc) ∧ mg x = some (.ref C) ∧ G.ct cc = some (C, ns) ∧
    KBn K fd (n0 :: ps) (n + 1) ks g gV ∧ (∀ (v : V) vs zs, gV (v :: vs) zs = v :: gV' vs zs) ∧
    (∀ (S : Fz) vs zs ds es, DenL G K S vs ds → DenL G K S zs es → vs.length = n → zs.length = ks.length → DenL G K S (gV' vs zs) (gD ds es) ∧ (gV' vs zs).length = ps.length)
section
variable {G : Glob} {X : Cx} {O : XO} {x : Str} {p pos : Pos} {e : Expr} {es : List Expr} {kws : List Keyword} {k j n cc : Nat} {m : Spc} {ks : List Str} {gD : List D → List D → List D} {ca cb : Bool} {na nb : Nat} {fa fk : FA}
theorem e_makeK (F : MkIK G X.prog X.w X.K X.mg X.base x k m cc n ks gD) (hr : Room (j + 1) X.A) (hgd : X.A.guards = some []) (hk : k ≤ j) (tk : Lets X O) (ha : PDa G X O (e :: es) ca na fa) (hb : PDk G X O kws cb nb fk) (hx0 : m.cost = 0 ∨ ∀ x, ¬ O.xd x := by first | exact .inl rfl | exact .inr fun _ z => z) (hg : Gl X x := by rfl)
    (hall : (backToKw pos (keywordEach kws X.env)).all (·.1.isSome) = true := by rfl) (hks : (backToKw pos (keywordEach kws X.env)).filterMap (·.1) = ks := by rfl) (hdb : (x == ("__debug__" : Str)) = false := by decide)
    (he : starEach (e :: es) X.env = (false, eval e X.env) :: starEach es X.env := by rfl) (hpl : ((backTo pos (starEach (e :: es) X.env)).any (·.1) || (backToKw pos (keywordEach kws X.env)).any (·.1.isNone)) = false := by rfl) :
    PDe G X O (.Call (.Name x p) (e :: es) kws pos) .st (ca && cb) (na + nb + m.cost) (fCallK O.xd m n ks.length gD fa fk) := by
  obtain ⟨C, f, fd, n0, ps, ns, g, gV, gV', M, F, hm, hct, hkb, hgv, hD⟩ := F.ex
  obtain ⟨E, hE, hW⟩ := tk.ex
  obtain ⟨t, pa, qa⟩ := ha.run
  obtain ⟨t2, pb, qb⟩ := hb.run
  refine ⟨_, pe_makeGK M F (hr.mono (by omega)) hgd hg hm hkb hE pa pb hall hks hdb he hpl, fun B S H σ ρ Kc Q I hb hf hq => ?_⟩
  refine qa B S H σ ρ _ _ I (by omega) hf fun vs H1 S1 ρ1 xs I1 m1 c1 r1 h1 => ?_
  refine qb B S1 H1 σ ρ1 _ _ I1 (by have := m1.lo; omega) h1 fun zs H2 S2 ρ2 ys I2 m2 c2 r2 h2 => ?_
  obtain ⟨⟨l1, l2⟩, hp, hpost, hx⟩ := h2
  have r1' := DenL.mono m2 r1
  have l1' := r1.length.trans l1
  have l2' := r2.length.trans l2
  obtain ⟨r3, l3⟩ := hD S2 vs zs xs ys r1' r2 l1' l2'
  refine ⟨l1', l2', fun y dy hy hdy hne => ?_⟩
  obtain ⟨sy, my, _⟩ := I2.toSta.new hy
  refine ⟨S2, gD xs ys, y, dy, C, ns, gV' vs zs, hgv _ _ _, l3, hct, upd_same, sy, my, I2.toSta.openI hy hdy hne, (by have := m1.lo; have := m2.lo; omega), r3, hp, fun H' S' fs J m' dn hpo => ⟨rfl, ?_⟩, fun n2 cls dx S' H' x' J l2 m' dd hxe => ?_⟩
  · exact hq _ H' S' ρ2 _ (I2.call (J.shutI hy hdy) hx0 m') ((m1.trans m2).trans m') (fun z => by
      have := Bool.and_eq_true_iff.mp z
      rw [c2 this.2, c1 this.1]) dn (hpost _ hpo)
  · rcases I2.tz with z | z
    · exact hW _ _ _ _ x' (hx x' hxe) (I2.xr n2 cls dx S' H' σ x' (I2.toSta.call (J.shutI hy hdy)) (Nat.le_trans l2 z) m' (fun _ _ => rfl) dd (hx x' hxe))
    · exact absurd (hx x' hxe) (z x')
end
end WL

/-! WY: errors as values: made, read, asked for their class. -/
namespace WL
open PySem PySem.Spec PyProof.Rows L2
/-- what is asked of an own error class -/
structure ErrC (K : PySem.W.Frag) (C : Addr) : Prop where
  ox : OexC K C
  xf : XfC K C
  xc : ExcC K C
def oexB (K : PySem.W.Frag) (C : Addr) : Bool := match K.lookup C with
  | some ⟨.type "type", _, .cls cd, sl⟩ => (match cd.mro, sl.toList with
    | .ref C' :: bm, [_, _, _, _, some (.builtin n), _] => C' == C && n == "ValueError.__new__" && !cd.hasDel && cd.hasDict && PySem.HandSPX.refsVE bm
    | _, _ => false)
  | _ => false
def errB (K : PySem.W.Frag) (C : Addr) : Bool := oexB K C && (decide (PySem.W.findIn K (.ref C) "__setattr__" = some (some (.builtin "object.__setattr__"))) && (decide (PySem.W.typeIn K (.ref C) = some (.type "type")) && (PySem.W.keepIn K (.ref C) && (xfB K C &&
  (decide (PySem.W.findIn K (.ref C) "__class__" = some (some (.builtin "object.__class__"))) && (decide (PySem.W.specialIn K (.builtin "object.__class__") "__get__" = some (some (.builtin "getset_descriptor.__get__"))) && (decide (PySem.W.takesIn K (.builtin "object.__class__") = some true) && decide (PySem.W.mroIn K C (.type "object") = some true))))))))
theorem errB_ok {K : PySem.W.Frag} {C : Addr} (h : errB K C = true) : ErrC K C := by
  obtain ⟨h0, h⟩ := Bool.and_eq_true_iff.mp h
  obtain ⟨h1, h⟩ := Bool.and_eq_true_iff.mp h
  obtain ⟨h2, h⟩ := Bool.and_eq_true_iff.mp h
  obtain ⟨h3, h⟩ := Bool.and_eq_true_iff.mp h
  obtain ⟨h4, h⟩ := Bool.and_eq_true_iff.mp h
  obtain ⟨h5, h⟩ := Bool.and_eq_true_iff.mp h
  obtain ⟨h6, h⟩ := Bool.and_eq_true_iff.mp h
  obtain ⟨h7, h8⟩ := Bool.and_eq_true_iff.mp h
  have xf := xfB_ok h4
  refine ⟨⟨?_, of_decide_eq_true h1, xf.exC, of_decide_eq_true h2, h3⟩, xf, ⟨xf.ga, xf.gg, xf.exC, xf.hdC, of_decide_eq_true h5, of_decide_eq_true h6, of_decide_eq_true h7, of_decide_eq_true h8⟩⟩
  unfold oexB at h0
  split at h0
  · rename_i dd cd sl ho
    split at h0
    · rename_i C' bm k0 k1 k2 k3 n k5 hm hs
      simp only [Bool.and_eq_true, beq_iff_eq, Bool.not_eq_true'] at h0
      obtain ⟨⟨⟨⟨rfl, rfl⟩, hdel⟩, hdd⟩, ht⟩ := h0
      obtain ⟨nm, bs, mro, ns, qn, hd, sn, sub, ab, col, del⟩ := cd
      dsimp only at hm hdel hdd
      subst hm hdel hdd
      have hsl : sl = #[k0, k1, k2, k3, some (.builtin "ValueError.__new__"), k5] := by
        obtain ⟨l⟩ := sl
        simp only at hs
        rw [hs]
      subst hsl
      exact ⟨nm, qn, ns, bs, bm, sn, sub, ab, col, dd, k0, k1, k2, k3, k5, ho, ht⟩
    · cases h0
  · cases h0
/-- an error that is held -/
def Held (H : Hp) (a C : Addr) : Prop := H a = some (ExO (.ref C) a) ∨ ∃ dx fs, H a = some (exo a C (some dx)) ∧ H dx = some (exd dx fs)
section
variable {X : Cx} {pins : List (Addr × Obj)} {σ : L2.St} {H : Hp} {s : Shared} {a C : Addr}
theorem held_inst (I : Inv X pins σ H s) (h : Held H a C) : ∃ oe od, PySem.W.InstAt s.heap a oe C od := by
  rcases h with h | ⟨dx, fs, h, hd⟩
  · obtain ⟨⟨oe, vs, ho, hz, hd, _⟩, _, _⟩ := (show ObjOk X.prog X.w H s.heap a (.ext _) from I.hok a _ h)
    exact ⟨oe, none, ho, hz.1, by unfold PySem.W.notCls; rw [hd] <;> rfl, by rw [hz.2]; trivial⟩
  · obtain ⟨t1, ho⟩ := exo_at I.hok h
    obtain ⟨mA, hns, _⟩ := exd_at I.hok hd
    obtain ⟨od, hod, _⟩ := lookIn_ns hns
    exact ⟨_, some od, ho, rfl, rfl, hod⟩
end
/-- isinstance(x, c), x an error that is held -/
def rIsX (K : PySem.W.Frag) : List V → Hp → VK → Prop := fun xs H Q => ∃ (a C : Addr) (c : V) (cv : Value) (b : Bool), xs = [.ref a, c] ∧ Held H a C ∧ ErrC K C ∧ (∀ u, RelV c u → u = cv) ∧ PySem.W.kitOne K (.ref C) cv = some b ∧ Q (.bl b) H
theorem call_isX {X : Cx} : CallR X (.builtin "isinstance") (rIsX X.K) := by
  intro pins s σ H xs us Q I r h
  obtain ⟨a, C, c, cv, b, rfl, hh, T, hcv, e, q⟩ := h
  obtain ⟨u1, u2, rfl, r1, r2⟩ := vals2 r
  obtain rfl : u1 = Value.ref a := r1
  have ec := hcv _ r2
  subst ec
  obtain ⟨oe, od, J⟩ := held_inst I hh
  have hcl : (PySem.W.clsIn X.K C).isSome = true := by
    obtain ⟨cd, hc, _⟩ := PySem.W.any_some T.xc.hd
    rw [hc]; rfl
  exact PySem.W.kia_one (PySem.W.kitx_exc hcl T.xc.hg T.xc.hk T.xc.hs T.xc.ha T.xc.hn T.xc.ht T.xc.hm) I.kIn J e (fun z => nomatch z) fun tk => ⟨.bl b, H, I.tok tk, rfl, q⟩
/-- err.n -/
def tXfv (K : PySem.W.Frag) (n : Str) (te : TE) : TE := fun σ H Q => te σ H fun x H1 => ∃ (a C dd : Addr) (fs : List (Str × V)) (v : V), x = .ref a ∧ XfC K C ∧ PySem.W.findIn K (.ref C) n = some none ∧ H1 a = some (exo a C (some dd)) ∧ H1 dd = some (exd dd fs) ∧ fs.lookup n = some v ∧ Q v H1
theorem pe_xfv {X : Cx} {e : Expr} {te : TE} {pos : Pos} {n : Str} (he : PE X e te) (hb : attributeBase e n X.env (eval e X.env) = eval e X.env := by rfl) : PE X (.Attribute e n pos) (tXfv X.K n te) := by
  refine ⟨fun pins s σ H Q I h => ?_⟩
  refine attr_of hb (thn (he.run pins s σ H _ I h) fun u s1 hh => ?_)
  obtain ⟨x, H1, I1, rx, a, C, dd, fs, v, ex, T, hno, ea, ed, l, q⟩ := hh
  subst ex
  obtain rfl : u = Value.ref a := rx
  obtain ⟨t1, ho⟩ := exo_at I1.hok ea
  obtain ⟨mA, hns, hr⟩ := exd_at I1.hok ed
  obtain ⟨od, hod, hl⟩ := lookIn_ns hns
  obtain ⟨u, hu, ru⟩ := RelO.some_of (v := v) (o := mA n) (by rw [← l]; exact hr n)
  have J : PySem.W.InstAt s1.heap a _ C (some od) := ⟨ho, rfl, rfl, hod⟩
  exact HandSPX.exc_get I1.kIn J T.ga T.gg T.exC (PySem.W.findObj_own T.hdC hno rfl (by rw [hl, hu])) (handed_of ru) ⟨v, H1, I1.tok _, ru, q⟩
/-- C(e, ..), C an error class with an own __init__: the error as a value -/
def tMkX (C : Addr) (sp : Sp) (dvs : List V) (E : L2.St → XK) (ta : TA) : TE := fun σ H Q => ta σ H fun vs H1 => vs.length ≤ 1000 ∧ ∀ a, H1 a = none → sp (.ref a :: (vs ++ dvs)) (upd H1 a (exo a C none)) (fun v H2 => v = .non ∧ Q (.ref a) H2) (E σ)
section
variable {X : Cx} {k : Nat} {fI C : Addr} {fd : FuncData} {ps : List Str} {sp : Sp} {dvs : List V} {ds : List Value} {E : L2.St → XK} {x : Str} {p pos : Pos} {e : Expr} {es : List Expr} {ta : TA}
theorem pe_oex (T : OexC X.K C) (iC : PySem.W.findIn X.K (.ref C) "__init__" = some (some (.ref fI))) (tI : PySem.W.typeIn X.K (.ref fI) = some (.type "function")) (F1 : FnG X.prog X.w X.K X.mg X.base k fI fd ps sp) (hr : Room (k + 1) X.A) (hgd : X.A.guards = some []) (hb : Binds X.K fd ps ds) (hd : Vals dvs ds)
    (hx : ∀ σ, PassesAt (L2.CX X.prog X.w) X σ (E σ)) (hg : Gl X x) (hm : X.mg x = some (.ref C)) (ha : PA X (e :: es) ta) (hdb : (x == ("__debug__" : Str)) = false) (he : starEach (e :: es) X.env = (false, eval e X.env) :: starEach es X.env) (hpl : (backTo pos (starEach es X.env)).any (·.1) = false) :
    PE X (.Call (.Name x p) (e :: es) [] pos) (tMkX C sp dvs E ta) := by
  refine ⟨fun pins s σ H Q I h => ?_⟩
  obtain ⟨nm, q, N, bs, bm, sn, sub, ab, col, dd, k0, k1, k2, k3, k5, hC, hbm⟩ := T.cls
  refine wpAny_Call_Name_kw (ld_glob I hg hm ?_ hdb)
  refine PySem.W.callWith_K (h₀ := X.base) I.ok.mod.kin T.kC (thn (ha.run pos pins s σ H _ I h) fun us s1 ⟨vs, H1, I1, r1, hz, q1⟩ => ⟨I1.kIn, ?_⟩) he hpl
  show wpAny _ _ (call (.ref C) us) _ _ _
  obtain ⟨hp, g, dr, tk, os⟩ := s1
  have hsz : hp.objs.size ≤ hp.objs.size + 1 := Nat.le_succ _
  have hn : H1 (hp.objs.size + 1) = none := I1.hok.fresh hsz
  have hq := q1 (hp.objs.size + 1) hn
  have kk : ∀ b o, hp.get? b = some o → ((hp.push (PySem.W.kdv_tup us)).push (PySem.HandSPX.excO C hp.objs.size)).get? b = some o := fun b o e => Heap.get?_push_of_some _ (Heap.get?_push_of_some _ e)
  have hget : ((hp.push (PySem.W.kdv_tup us)).push (PySem.HandSPX.excO C hp.objs.size)).get? (hp.objs.size + 1) = some (PySem.HandSPX.excO C hp.objs.size) := by heap_get
  have I2 : Inv X pins σ (upd H1 (hp.objs.size + 1) (exo (hp.objs.size + 1) C none)) ⟨(hp.push (PySem.W.kdv_tup us)).push (PySem.HandSPX.excO C hp.objs.size), g, dr, tk, os⟩ :=
    I1.laid (t' := tk) (a := hp.objs.size + 1) (o := exo (hp.objs.size + 1) C none) (h' := (hp.push (PySem.W.kdv_tup us)).push (PySem.HandSPX.excO C hp.objs.size)) kk hsz (exo_ok hget)
  have r2 : Vals (V.ref (hp.objs.size + 1) :: (vs ++ dvs)) (Value.ref (hp.objs.size + 1) :: (us ++ ds)) := .cons rfl (r1.append hd)
  have hl : (Value.ref (hp.objs.size + 1) :: us ++ ds).length = ps.length := by
    have e := r2.length
    rw [F1.len _ _ _ _ hq] at e
    exact e.symm
  have hus : us.length ≤ sizeLine := by
    rw [← Paired.length r1, sizeLine_eq]
    omega
  have gd2 : (X.A.under (.builtin "type.__call__" ⟨.ref C :: us, []⟩)).guards = some [] := by
    first | exact hgd | simpa [Around.under, Around.guards, Code.envs, Code.isFrame] using hgd
  refine wpAny_call (PySem.HandSPX.call_own F.excBase_ValueError (fun Y => PySem.HandSPX.refsVE_contains Y bm hbm) (I1.kIn _ _ hC) (PySem.W.looks_findIn I1.kIn iC) (fun self => PySem.W.bind_fn I1.kIn self tI) hus
    (codeAny_mono (F1.run _ X.stack _ _ ⟨Value.ref (hp.objs.size + 1) :: us, []⟩ (Value.ref (hp.objs.size + 1) :: (us ++ ds)) _ _ (E σ) (hr.make C us []) gd2 (I2.env0.make C us []) (hb _ (Value.ref (hp.objs.size + 1) :: us) I2.kIn hl) r2 hq) fun r s' hq' => ?_))
  cases r with
  | error er => exact hx σ pins _ _ er s' I2 hq'
  | ok fl =>
    cases fl with
    | ret u =>
      obtain ⟨v, H', I3, rv, ev, q3⟩ := I2.after hq'
      subst ev
      exact ⟨rv, ⟨V.ref (hp.objs.size + 1), H', I3, rfl, q3⟩⟩
    | next => exact False.elim hq'
    | brk => exact False.elim hq'
    | cont => exact False.elim hq'
end
/-- what an error's __init__ promises: self.f = y -/
def spErr (K : PySem.W.Frag) (f : Str) : Sp := fun vs H Q _ => ∃ (a C : Addr) (y : V), vs = [.ref a, y] ∧ OexC K C ∧ PySem.W.findIn K (.ref C) f = some none ∧ H a = some (exo a C none) ∧ ∀ dx, H dx = none → dx ≠ a → Q .non (upd (upd H dx (exd dx [(f, y)])) a (exo a C (some dx)))
theorem fn_err {P : Program} {w : World} {K : PySem.W.Frag} {mg : Str → Option Value} {base : Heap} {x qual f n0 n1 : Str} {params : Arguments} {scope : Scope} {fI : Addr} {fd : FuncData} {body : List Stmt}
    (F : FunD K x qual params body scope [] [] fI fd) (Sc : FnScope [n0, n1] [n0, n1] scope)
    (hps : ∀ (cdv : Value) (A : Around) (outer : List Env) (s : Shared) (H : Hp) (E : XK), ∃ to te : TE, PSs (cxOf (L2.CX P w) P w K mg base [n0, n1] qual scope fI cdv A outer s H E) body (tOst K f to te) ∧ to = tVar 0 ∧ te = tVar 1) :
    FnG P w K mg base 1 fI fd [n0, n1] (spErr K f) := by
  refine FunD.okG (k := 0) F Sc (fun vs H Q E ⟨a, C, y, e, _⟩ => by rw [e]; rfl) fun cdv A outer s H vs Q E hr gd h => ?_
  obtain ⟨to, te, p, rfl, rfl⟩ := hps cdv A outer s H E
  refine ⟨_, p, ?_⟩
  obtain ⟨a, C, y, rfl, T, hno, ha, q⟩ := h
  refine ⟨y, rfl, .ref a, rfl, a, C, rfl, T, hno, .inl ⟨ha, q⟩⟩
end WL

/-! WZ: errors as values, over data; what the program's error classes must say. -/
namespace WL
open PySem PySem.Spec PyProof.Rows L2
/-- the error classes: ns names them (and their attribute, if any); the first is the base of all others, which stand directly under it -/
structure ErTb (G : Glob) (K : PySem.W.Frag) (mg : Str → Option Value) (ns : List (Str × Option Str)) : Prop where
  ec : ∀ c x fl, ns[c]? = some (x, fl) → ∃ C, mg x = some (.ref C) ∧ G.ec c = some (C, fl) ∧ ErrC K C ∧ PySem.W.kitOne K (.ref C) (.type "ValueError") = some true ∧
    (fl = none → PySem.W.excIn K C He.veBase "ValueError.__new__" = true) ∧ (∀ f, fl = some f → PySem.W.findIn K (.ref C) f = some none) ∧
    ∀ d y gl D, ns[d]? = some (y, gl) → mg y = some (.ref D) → PySem.W.kitOne K (.ref C) (.ref D) = some (c == d || d == 0)
  inv : ∀ c C fl, G.ec c = some (C, fl) → ∃ x, ns[c]? = some (x, fl)
theorem Den.exc_held {G : Glob} {K : PySem.W.Frag} {S : Fz} {H : Hp} {v : V} {c : Nat} {fs : List D} (h : Den G K S v (.exc c fs)) (le : ∀ a o, S a = some o → H a = some o) : ∃ a C fl, v = .ref a ∧ G.ec c = some (C, fl) ∧ Held H a C := by
  cases h with
  | exc0 h e => exact ⟨_, _, _, rfl, h, .inl (le _ _ e)⟩
  | exc1 h e g _ => exact ⟨_, _, _, rfl, h, .inr ⟨_, _, le _ _ e, le _ _ g⟩⟩
theorem ROk.exc {G : Glob} {K : PySem.W.Frag} {B : Bs} {S : Fz} {H : Hp} {σ : L2.St} {ρ : EnvD} {v : V} {c : Nat} {fs : List D} {k : Kd} (r : ROk G K B S H σ ρ v (.exc c fs) k) : Den G K S v (.exc c fs) := by
  cases k with
  | st => exact r
  | fr => obtain ⟨a, o, _, e2, _⟩ := r; cases o <;> simp [Own.d] at e2
  | bo j => obtain ⟨a, o, _, e2, _⟩ := r; cases o <;> simp [Own.d] at e2
def opIsE (d : Nat) (x : D) (P : D → Prop) : Prop := match x with
  | .exc c _ => P (.bl (c == d || d == 0))
  | _ => False
def opIsV (x : D) (P : D → Prop) : Prop := match x with
  | .exc _ _ => P (.bl true)
  | _ => False
def opXf (ns : List (Str × Option Str)) (n : Str) (x : D) (P : D → Prop) : Prop := match x with
  | .exc c [y] => (ns[c]?.bind (·.2)) = some n ∧ P y
  | _ => False
def fErr0 (c : Nat) (fa : FE) : FE := fun ρ Kc => fa ρ fun ρ1 _ => Kc ρ1 (.exc c [])
def fErr1 (c : Nat) (fa : FE) : FE := fun ρ Kc => fa ρ fun ρ1 y => Kc ρ1 (.exc c [y])
section
variable {G : Glob} {X : Cx} {O : XO} {e : Expr} {k ka : Kd} {ca : Bool} {na : Nat} {fa : FE} {p p2 pos : Pos} {x y : Str} {fl : Option Str} {ns : List (Str × Option Str)}
theorem e_isE (d : Nat) (T : ErTb G X.K X.mg ns) (ha : PDe G X O e ka ca na fa) (hm : X.mg "isinstance" = none) (hd : ns[d]? = some (y, fl) := by rfl) (hg : Gl X "isinstance" := by rfl) (hgT : Gl X y := by rfl)
    (he : starEach [e, .Name y p2] X.env = (false, eval e X.env) :: starEach [.Name y p2] X.env := by rfl) (he2 : starEach [.Name y p2] X.env = (false, eval (.Name y p2) X.env) :: starEach [] X.env := by rfl) (hpl : (backTo pos (starEach [.Name y p2] X.env)).any (·.1) = false := by rfl)
    (hdb : (y == ("__debug__" : Str)) = false := by decide) : PDe G X O (.Call (.Name "isinstance" p) [e, .Name y p2] [] pos) .st ca na (fUn (opIsE d) fa) := by
  obtain ⟨ta, pa, qa⟩ := ha.run
  obtain ⟨D, hD, _⟩ := T.ec d y fl hd
  refine ⟨_, pe_callB call_isX hg hm (by rfl) (pa_cons pa (pa_cons (pe_glob (v := .ref D) hgT hD rfl hdb) pa_nil he2) he) (by decide) (by decide) he hpl, fun B S H σ ρ Kc Q I hb hf hq => ?_⟩
  refine qa B S H σ ρ _ _ I (by omega) hf fun v H1 S1 ρ1 d1 I1 m1 c1 r1 h1 => ?_
  unfold opIsE at h1
  split at h1
  · rename_i c fs
    obtain ⟨a, C, fl', rfl, hc, hh⟩ := r1.exc.exc_held I1.le
    obtain ⟨x, hx⟩ := T.inv c C fl' hc
    obtain ⟨C', _, hc', E, _, _, _, hk⟩ := T.ec c x fl' hx
    rw [hc] at hc'; cases hc'
    exact ⟨a, C, .ref D, .ref D, _, rfl, hh, E, fun u r => r, hk d y fl D hd hD, hq _ H1 S1 ρ1 _ I1 m1 c1 (Den.bl _) h1⟩
  · exact h1.elim
theorem e_isV (T : ErTb G X.K X.mg ns) (ha : PDe G X O e ka ca na fa) (hm : X.mg "isinstance" = none) (hmT : X.mg "ValueError" = none) (hg : Gl X "isinstance" := by rfl) (hgT : Gl X "ValueError" := by rfl)
    (he : starEach [e, .Name "ValueError" p2] X.env = (false, eval e X.env) :: starEach [.Name "ValueError" p2] X.env := by rfl) (he2 : starEach [.Name "ValueError" p2] X.env = (false, eval (.Name "ValueError" p2) X.env) :: starEach [] X.env := by rfl) (hpl : (backTo pos (starEach [.Name "ValueError" p2] X.env)).any (·.1) = false := by rfl) :
    PDe G X O (.Call (.Name "isinstance" p) [e, .Name "ValueError" p2] [] pos) .st ca na (fUn opIsV fa) := by
  obtain ⟨ta, pa, qa⟩ := ha.run
  refine ⟨_, pe_callB call_isX hg hm (by rfl) (pa_cons pa (pa_cons (pe_bltn (v := .ty "ValueError") hgT hmT (by rfl) rfl (by decide) (by decide)) pa_nil he2) he) (by decide) (by decide) he hpl, fun B S H σ ρ Kc Q I hb hf hq => ?_⟩
  refine qa B S H σ ρ _ _ I (by omega) hf fun v H1 S1 ρ1 d1 I1 m1 c1 r1 h1 => ?_
  unfold opIsV at h1
  split at h1
  · rename_i c fs
    obtain ⟨a, C, fl', rfl, hc, hh⟩ := r1.exc.exc_held I1.le
    obtain ⟨x, hx⟩ := T.inv c C fl' hc
    obtain ⟨C', _, hc', E, hv, _⟩ := T.ec c x fl' hx
    rw [hc] at hc'; cases hc'
    exact ⟨a, C, .ty "ValueError", .type "ValueError", _, rfl, hh, E, fun u r => r, hv, hq _ H1 S1 ρ1 _ I1 m1 c1 (Den.bl _) h1⟩
  · exact h1.elim
theorem e_xf {n : Str} (T : ErTb G X.K X.mg ns) (ha : PDe G X O e ka ca na fa) (hb : attributeBase e n X.env (eval e X.env) = eval e X.env := by rfl) : PDe G X O (.Attribute e n pos) .st ca na (fUn (opXf ns n) fa) := by
  obtain ⟨ta, pa, qa⟩ := ha.run
  refine ⟨_, pe_xfv pa hb, fun B S H σ ρ Kc Q I hb hf hq => ?_⟩
  refine qa B S H σ ρ _ _ I (by omega) hf fun v H1 S1 ρ1 d1 I1 m1 c1 r1 h1 => ?_
  unfold opXf at h1
  split at h1
  · rename_i c y
    obtain ⟨h0, h1⟩ := h1
    have r := r1.exc
    cases r with
    | @exc1 a C dx _ f v _ hc e g dn =>
      obtain ⟨x, hx⟩ := T.inv c C (some f) hc
      obtain ⟨C', _, hc', E, _, _, hno, _⟩ := T.ec c x (some f) hx
      rw [hc] at hc'; cases hc'
      rw [hx] at h0
      have h0 : some f = some n := h0
      cases h0
      exact ⟨a, C, dx, _, v, rfl, E.xf, hno n rfl, I1.le _ _ e, I1.le _ _ g, by simp [List.lookup], hq _ H1 S1 ρ1 _ I1 m1 c1 dn h1⟩
  · exact h1.elim
theorem e_err0 (c : Nat) (T : ErTb G X.K X.mg ns) (ha : PDe G X O e ka ca na fa) (hc : ns[c]? = some (x, none) := by rfl) (hg : Gl X x := by rfl) (hs : starEach [e] X.env = (false, eval e X.env) :: starEach [] X.env := by rfl) (hdb : (x == ("__debug__" : Str)) = false := by decide) :
    PDe G X O (.Call (.Name x p) [e] [] pos) .st ca na (fErr0 c fa) := by
  obtain ⟨ta, pa, qa⟩ := ha.run
  obtain ⟨C, hm, he, E, _, h0, _⟩ := T.ec c x none hc
  refine ⟨_, pe_exc1 PySem.F.excBase_ValueError (h0 rfl) hm E.ox.kC hg pa hs hdb, fun B S H σ ρ Kc Q I hb hf hq => ?_⟩
  refine qa B S H σ ρ _ _ I (by omega) hf fun v H1 S1 ρ1 d1 I1 m1 c1 r1 h1 => fun a ha => ?_
  obtain ⟨I2, m2⟩ := I1.laysF (u := ExO (.ref C) a) ha
  exact hq _ _ _ ρ1 _ I2 (m1.t0 m2) c1 (.exc0 he Fz.put_same) h1
/-- an error class with its own __init__, which sets its attribute -/
structure MkE (P : Program) (w : World) (K : PySem.W.Frag) (mg : Str → Option Value) (base : Heap) (x f : Str) : Prop where
  ex : ∀ C, mg x = some (.ref C) → ∃ (fI : Addr) (fd : FuncData) (n0 n1 : Str), PySem.W.findIn K (.ref C) "__init__" = some (some (.ref fI)) ∧ PySem.W.typeIn K (.ref fI) = some (.type "function") ∧ FnG P w K mg base 1 fI fd [n0, n1] (spErr K f) ∧ Binds K fd [n0, n1] []
theorem e_err1 {j : Nat} {f : Str} (c : Nat) (T : ErTb G X.K X.mg ns) (F : MkE X.prog X.w X.K X.mg X.base x f) (hr : Room (j + 2) X.A) (hgd : X.A.guards = some []) (ha : PDe G X O e .st ca na fa) (hc : ns[c]? = some (x, some f) := by rfl) (hg : Gl X x := by rfl) (hdb : (x == ("__debug__" : Str)) = false := by decide)
    (he : starEach [e] X.env = (false, eval e X.env) :: starEach [] X.env := by rfl) (hpl : (backTo pos (starEach [] X.env)).any (·.1) = false := by rfl) : PDe G X O (.Call (.Name x p) [e] [] pos) .st ca na (fErr1 c fa) := by
  obtain ⟨C, hm, hec, E, _, _, hno, _⟩ := T.ec c x (some f) hc
  obtain ⟨fI, fd, n0, n1, iC, tI, F1, hb⟩ := F.ex C hm
  obtain ⟨ta, pa, qa⟩ := ha.run
  have hx : ∀ σ, PassesAt (L2.CX X.prog X.w) X σ (fun _ _ _ => False) := fun σ => fun pins H s e s' I c => by
    obtain ⟨a, B, H', cls, d, _, _, _, _, _, _, _, z⟩ := c
    exact z.elim
  refine ⟨_, pe_oex (k := 1) (E := fun _ _ _ _ => False) E.ox iC tI F1 (hr.mono (by omega)) hgd hb .nil hx hg hm (pa_cons pa pa_nil he) hdb he hpl, fun B S H σ ρ Kc Q I hb hf hq => ?_⟩
  refine qa B S H σ ρ _ _ I (by omega) hf fun v H1 S1 ρ1 d1 I1 m1 c1 r1 h1 => ⟨by simp, fun a ha => ?_⟩
  refine ⟨a, C, v, rfl, E.ox, hno f rfl, upd_same, fun dx hdx hne => ⟨rfl, ?_⟩⟩
  have hdx1 : H1 dx = none := by rw [upd_ne hne] at hdx; exact hdx
  have eH : upd (upd (upd H1 a (exo a C none)) dx (exd dx [(f, v)])) a (exo a C (some dx)) = upd (upd H1 dx (exd dx [(f, v)])) a (exo a C (some dx)) := by
    funext b
    by_cases h : b = a
    · rw [h, upd_same, upd_same]
    · rw [upd_ne h, upd_ne h]
      by_cases h2 : b = dx
      · rw [h2, upd_same, upd_same]
      · rw [upd_ne h2, upd_ne h2, upd_ne h]
  rw [eH]
  obtain ⟨I2, m2⟩ := I1.laysF (u := exd dx [(f, v)]) hdx1
  obtain ⟨I3, m3⟩ := I2.laysF (u := exo a C (some dx)) (a := a) (by rw [upd_ne (Ne.symm hne)]; exact ha)
  refine hq _ _ _ ρ1 _ I3 ((m1.t0 m2).t0 m3) c1 (.exc1 hec Fz.put_same ?_ (Den.mono m3 (Den.mono m2 r1))) h1
  rw [Fz.put_ne hne]
  exact Fz.put_same
end

/-! ### the end of the top says more -/
abbrev AlX : Type := Bool × He.AlD
def obsX (fx : List (PySem.W.Frag → Bool)) (fa : List He.Fa) (fn : List He.DefD) (K : PySem.W.Frag) : AlX := (fx.all fun f => f K, He.obsD fa fn K)
def SaysX (fx : List (PySem.W.Frag → Bool)) (fa : List He.Fa) (fn : List He.DefD) (K : PySem.W.Frag) : Prop := obsX fx fa fn K = (true, He.valD fn)
def obsXG (n : Nat) (fx : List (PySem.W.Frag → Bool)) (fa : List He.Fa) (fn : List He.DefD) (g : Addr → Option Obj) : AlX := obsX fx fa fn (He.frG g (He.asD g n))
def hookX (n : Nat) (fx : List (PySem.W.Frag → Bool)) (fa : List He.Fa) (fn : List He.DefD) : PySem.W.Hook where
  α := AlX
  obs := fun s => obsXG n fx fa fn s.heap.get?
  val := fun _ => (true, He.valD fn)
  says := fun _ h => ∃ K : PySem.W.Frag, K.In h ∧ SaysX fx fa fn K
  of := fun _ _ e => ⟨_, He.frG_in, e⟩
  keeps := fun _ _ _ ⟨K, hK, c⟩ k => ⟨K, PySem.W.Frag.In.keeps hK k, c⟩
theorem obsXG_eq {n : Nat} {fx : List (PySem.W.Frag → Bool)} {fa : List He.Fa} {fn : List He.DefD} {g : Addr → Option Obj} {s : Shared} (h : ∀ a, g a = s.heap.get? a) : obsXG n fx fa fn g = (hookX n fx fa fn).obs s := by
  have e : g = s.heap.get? := funext h
  rw [e] <;> rfl
section
variable {fx : List (PySem.W.Frag → Bool)} {fa : List He.Fa} {fn : List He.DefD} {K : PySem.W.Frag}
theorem SaysX.d (c : SaysX fx fa fn K) : He.SaysD fa fn K := congrArg (fun z : AlX => z.2) c
theorem SaysX.x (c : SaysX fx fa fn K) (i : Nat) {f : PySem.W.Frag → Bool} (h : fx[i]? = some f := by rfl) : f K = true :=
  List.all_eq_true.mp (show (fx.all fun f => f K) = true from congrArg (fun z : AlX => z.1) c) f (List.mem_of_getElem? h)
end
/-- the facts of ErTb -/
def erOne (K : PySem.W.Frag) (ns : List (Str × Option Str)) (c : Nat) (p : Str × Option Str) : Bool :=
  He.eqO (PySem.W.nsIn K mainGlobals p.1) (some (some (.ref (He.ga K p.1)))) && (errB K (He.ga K p.1) && (decide (PySem.W.kitOne K (.ref (He.ga K p.1)) (.type "ValueError") = some true) && ((match p.2 with
    | none => PySem.W.excIn K (He.ga K p.1) He.veBase "ValueError.__new__"
    | some f => decide (PySem.W.findIn K (.ref (He.ga K p.1)) f = some none)) && (List.range ns.length).all fun d => match ns[d]? with
      | some q => decide (PySem.W.kitOne K (.ref (He.ga K p.1)) (.ref (He.ga K q.1)) = some (c == d || d == 0))
      | none => false)))
def erTbB (ns : List (Str × Option Str)) (K : PySem.W.Frag) : Bool := (List.range ns.length).all fun c => match ns[c]? with
  | some p => erOne K ns c p
  | none => false
/-- the error classes' addresses -/
def ecOf (K : PySem.W.Frag) (ns : List (Str × Option Str)) (c : Nat) : Option (Addr × Option Str) := ns[c]?.map fun p => (He.ga K p.1, p.2)
theorem erTb_ok {G : Glob} {K : PySem.W.Frag} {h : Heap} {mg : Str → Option Value} {ns : List (Str × Option Str)} (X : K.In h) (Gn : h.Ns mainGlobals mg) (e : G.ec = ecOf K ns) (c : erTbB ns K = true) : ErTb G K mg ns := by
  have one : ∀ (i : Nat) (p : Str × Option Str), ns[i]? = some p → erOne K ns i p = true := fun i p h => by
    have := List.all_eq_true.mp c i (List.mem_range.mpr (List.getElem?_eq_some_iff.mp h).1)
    rw [h] at this
    exact this
  have gl : ∀ (i : Nat) (x : Str) (fl : Option Str), ns[i]? = some (x, fl) → mg x = some (.ref (He.ga K x)) := fun i x fl h => by
    obtain ⟨h0, _⟩ := He.ba (one i _ h)
    exact PySem.W.mg_of X Gn (He.eqO_ok h0)
  refine ⟨fun i x fl h => ?_, fun i C fl h => ?_⟩
  · obtain ⟨h0, h1⟩ := He.ba (one i _ h)
    obtain ⟨h1, h2⟩ := He.ba h1
    obtain ⟨h2, h3⟩ := He.ba h2
    obtain ⟨h3, h4⟩ := He.ba h3
    refine ⟨He.ga K x, gl i x fl h, by rw [e]; unfold ecOf; rw [h]; rfl, errB_ok h1, of_decide_eq_true h2, fun z => ?_, fun f z => ?_, fun d y gl' D hd hm => ?_⟩
    · subst z; exact h3
    · subst z; exact of_decide_eq_true h3
    · have := List.all_eq_true.mp h4 d (List.mem_range.mpr (List.getElem?_eq_some_iff.mp hd).1)
      rw [hd] at this
      rw [gl d y gl' hd] at hm
      cases hm
      exact of_decide_eq_true this
  · rw [e] at h
    unfold ecOf at h
    cases q : ns[i]? with
    | none => rw [q] at h; cases h
    | some p =>
      rw [q] at h
      obtain ⟨x, fl'⟩ := p
      simp at h
      exact ⟨x, by rw [h.2]⟩
end WL

namespace K01
open PySem PySem.Spec PyProof.Rows L2 WL
def top (i : Nat) : Stmt := PySem.Challenge.pw_worthlevels_k01_errors_made.main.body.getD i (.Pass ⟨0, 0, 0, 0⟩)
abbrev FnP (K : PySem.W.Frag) (x : Str) (i : Nat) (f : Addr) (fd : FuncData) : Prop := FunD K x x (defArgs (top i)) (defBody (top i)) (defScope (top i)) [] [] f fd
/-- the names of the module that are the built-in ones; its constants -/
structure BY (mg : Str → Option Value) : Prop where
  b_ValueError : mg "ValueError" = none
  b_int : mg "int" = none
  b_isinstance : mg "isinstance" = none
  b_len : mg "len" = none
  b_list : mg "list" = none
  b_min : mg "min" = none
  b_range : mg "range" = none
  b_repr : mg "repr" = none
abbrev errNs : List (Str × Option Str) := [("LevelError", none), ("BadTask", some "part"), ("BadBacklog", some "name"), ("NoTask", some "name"), ("SameName", some "name"), ("NotBeginning", some "thing"), ("BadOrder", some "name"), ("BadPrice", none), ("BadFit", some "name"), ("TooMany", some "most"), ("BadNumber", none), ("NotWoven", none), ("OtherNames", none), ("BadDeed", some "deed"), ("NothingLeft", none), ("BadText", some "line")]
section
variable {P : Program} {w : World} {K : PySem.W.Frag} {mg : Str → Option Value} {base : Heap} {f : Addr} {fd : FuncData}
theorem sc_BadTask : FnScope ["self", "part"] ["self", "part"] (defScope (inClass (top 2) 0)) := ⟨rfl, rfl, rfl, by decide +kernel, rfl, by decide +kernel, by decide +kernel⟩
theorem ok_BadTask (F : FunD K "__init__" "BadTask.__init__" (defArgs (inClass (top 2) 0)) (defBody (inClass (top 2) 0)) (defScope (inClass (top 2) 0)) [] [] f fd) : FnG P w K mg base 1 f fd ["self", "part"] (spErr K "part") :=
  fn_err F sc_BadTask fun cdv A outer s H E => ⟨_, _, pss_one (ps_ost (pe_var (i := 0) rfl (Or.inl rfl)) (pe_var (i := 1) rfl (Or.inl rfl))), rfl, rfl⟩
theorem sc_BadBacklog : FnScope ["self", "name"] ["self", "name"] (defScope (inClass (top 3) 0)) := ⟨rfl, rfl, rfl, by decide +kernel, rfl, by decide +kernel, by decide +kernel⟩
theorem ok_BadBacklog (F : FunD K "__init__" "BadBacklog.__init__" (defArgs (inClass (top 3) 0)) (defBody (inClass (top 3) 0)) (defScope (inClass (top 3) 0)) [] [] f fd) : FnG P w K mg base 1 f fd ["self", "name"] (spErr K "name") :=
  fn_err F sc_BadBacklog fun cdv A outer s H E => ⟨_, _, pss_one (ps_ost (pe_var (i := 0) rfl (Or.inl rfl)) (pe_var (i := 1) rfl (Or.inl rfl))), rfl, rfl⟩
theorem sc_NoTask : FnScope ["self", "name"] ["self", "name"] (defScope (inClass (top 4) 0)) := ⟨rfl, rfl, rfl, by decide +kernel, rfl, by decide +kernel, by decide +kernel⟩
theorem ok_NoTask (F : FunD K "__init__" "NoTask.__init__" (defArgs (inClass (top 4) 0)) (defBody (inClass (top 4) 0)) (defScope (inClass (top 4) 0)) [] [] f fd) : FnG P w K mg base 1 f fd ["self", "name"] (spErr K "name") :=
  fn_err F sc_NoTask fun cdv A outer s H E => ⟨_, _, pss_one (ps_ost (pe_var (i := 0) rfl (Or.inl rfl)) (pe_var (i := 1) rfl (Or.inl rfl))), rfl, rfl⟩
theorem sc_SameName : FnScope ["self", "name"] ["self", "name"] (defScope (inClass (top 5) 0)) := ⟨rfl, rfl, rfl, by decide +kernel, rfl, by decide +kernel, by decide +kernel⟩
theorem ok_SameName (F : FunD K "__init__" "SameName.__init__" (defArgs (inClass (top 5) 0)) (defBody (inClass (top 5) 0)) (defScope (inClass (top 5) 0)) [] [] f fd) : FnG P w K mg base 1 f fd ["self", "name"] (spErr K "name") :=
  fn_err F sc_SameName fun cdv A outer s H E => ⟨_, _, pss_one (ps_ost (pe_var (i := 0) rfl (Or.inl rfl)) (pe_var (i := 1) rfl (Or.inl rfl))), rfl, rfl⟩
theorem sc_NotBeginning : FnScope ["self", "thing"] ["self", "thing"] (defScope (inClass (top 6) 0)) := ⟨rfl, rfl, rfl, by decide +kernel, rfl, by decide +kernel, by decide +kernel⟩
theorem ok_NotBeginning (F : FunD K "__init__" "NotBeginning.__init__" (defArgs (inClass (top 6) 0)) (defBody (inClass (top 6) 0)) (defScope (inClass (top 6) 0)) [] [] f fd) : FnG P w K mg base 1 f fd ["self", "thing"] (spErr K "thing") :=
  fn_err F sc_NotBeginning fun cdv A outer s H E => ⟨_, _, pss_one (ps_ost (pe_var (i := 0) rfl (Or.inl rfl)) (pe_var (i := 1) rfl (Or.inl rfl))), rfl, rfl⟩
theorem sc_BadOrder : FnScope ["self", "name"] ["self", "name"] (defScope (inClass (top 7) 0)) := ⟨rfl, rfl, rfl, by decide +kernel, rfl, by decide +kernel, by decide +kernel⟩
theorem ok_BadOrder (F : FunD K "__init__" "BadOrder.__init__" (defArgs (inClass (top 7) 0)) (defBody (inClass (top 7) 0)) (defScope (inClass (top 7) 0)) [] [] f fd) : FnG P w K mg base 1 f fd ["self", "name"] (spErr K "name") :=
  fn_err F sc_BadOrder fun cdv A outer s H E => ⟨_, _, pss_one (ps_ost (pe_var (i := 0) rfl (Or.inl rfl)) (pe_var (i := 1) rfl (Or.inl rfl))), rfl, rfl⟩
theorem sc_BadFit : FnScope ["self", "name"] ["self", "name"] (defScope (inClass (top 9) 0)) := ⟨rfl, rfl, rfl, by decide +kernel, rfl, by decide +kernel, by decide +kernel⟩
theorem ok_BadFit (F : FunD K "__init__" "BadFit.__init__" (defArgs (inClass (top 9) 0)) (defBody (inClass (top 9) 0)) (defScope (inClass (top 9) 0)) [] [] f fd) : FnG P w K mg base 1 f fd ["self", "name"] (spErr K "name") :=
  fn_err F sc_BadFit fun cdv A outer s H E => ⟨_, _, pss_one (ps_ost (pe_var (i := 0) rfl (Or.inl rfl)) (pe_var (i := 1) rfl (Or.inl rfl))), rfl, rfl⟩
theorem sc_TooMany : FnScope ["self", "most"] ["self", "most"] (defScope (inClass (top 10) 0)) := ⟨rfl, rfl, rfl, by decide +kernel, rfl, by decide +kernel, by decide +kernel⟩
theorem ok_TooMany (F : FunD K "__init__" "TooMany.__init__" (defArgs (inClass (top 10) 0)) (defBody (inClass (top 10) 0)) (defScope (inClass (top 10) 0)) [] [] f fd) : FnG P w K mg base 1 f fd ["self", "most"] (spErr K "most") :=
  fn_err F sc_TooMany fun cdv A outer s H E => ⟨_, _, pss_one (ps_ost (pe_var (i := 0) rfl (Or.inl rfl)) (pe_var (i := 1) rfl (Or.inl rfl))), rfl, rfl⟩
theorem sc_BadDeed : FnScope ["self", "deed"] ["self", "deed"] (defScope (inClass (top 14) 0)) := ⟨rfl, rfl, rfl, by decide +kernel, rfl, by decide +kernel, by decide +kernel⟩
theorem ok_BadDeed (F : FunD K "__init__" "BadDeed.__init__" (defArgs (inClass (top 14) 0)) (defBody (inClass (top 14) 0)) (defScope (inClass (top 14) 0)) [] [] f fd) : FnG P w K mg base 1 f fd ["self", "deed"] (spErr K "deed") :=
  fn_err F sc_BadDeed fun cdv A outer s H E => ⟨_, _, pss_one (ps_ost (pe_var (i := 0) rfl (Or.inl rfl)) (pe_var (i := 1) rfl (Or.inl rfl))), rfl, rfl⟩
theorem sc_BadText : FnScope ["self", "line"] ["self", "line"] (defScope (inClass (top 16) 0)) := ⟨rfl, rfl, rfl, by decide +kernel, rfl, by decide +kernel, by decide +kernel⟩
theorem ok_BadText (F : FunD K "__init__" "BadText.__init__" (defArgs (inClass (top 16) 0)) (defBody (inClass (top 16) 0)) (defScope (inClass (top 16) 0)) [] [] f fd) : FnG P w K mg base 1 f fd ["self", "line"] (spErr K "line") :=
  fn_err F sc_BadText fun cdv A outer s H E => ⟨_, _, pss_one (ps_ost (pe_var (i := 0) rfl (Or.inl rfl)) (pe_var (i := 1) rfl (Or.inl rfl))), rfl, rfl⟩
end
/-- the letters -/
abbrev abc : Str := "abcdefghijklmnopqrstuvwxyz"
def isNameD : D → Bool
  | .str z => decide (1 ≤ z.length) && (decide (z.length ≤ 8) && z.cps.toList.all fun c => subS ⟨#[c]⟩ abc)
  | _ => false
def isNum : D → Bool
  | .int _ => true
  | _ => false
def isFrD : D → Bool
  | .tup [.int a, .int b] => decide (1 ≤ b) && decide (Int.gcd a b = 1)
  | _ => false
/-- of a type that is told -/
def okV (v : D) : Prop := (tyN v).isSome = true ∧ (∀ z, v = .str z → z.length ≤ 1000) ∧ ∀ xs, v = .tup xs → ∀ x ∈ xs, (tyN x).isSome = true
theorem strD_len (z : Str) : (strD z).length = z.length := by simp [strD, Str.length]
theorem boolsL_all {f : D → Bool} (xs : List D) : boolsL (xs.map fun x => D.bl (f x)) = some (xs.map f) := by
  induction xs with
  | nil => rfl
  | cons x xs ih => simp [boolsL, ih]
theorem sz (n : Nat) (h : n ≤ 1000) : n ≤ 16777216 := by omega
theorem seq_gen {g1 g2 : FS} {Ed : EndsD} {ρ : EnvD} (h : ∀ nx : EnvD → Prop, (∀ ρ', g2 Ed ρ' → nx ρ') → g1 { Ed with nx := nx } ρ) : fSeq g1 g2 Ed ρ := h (g2 Ed) fun _ z => z
theorem noOwn_nil {ρ : EnvD} {i : Nat} (h : ∀ o, ρ[i]? ≠ some (some (.own o))) : noOwn ρ [i] := fun j hj => by
  rw [List.mem_singleton.mp hj]; exact h
theorem abs_nat (i : Int) : (if i < 0 then -i else i) = (i.natAbs : Int) := by split <;> omega
theorem gcd_step (x y : Nat) : Nat.gcd y (x % y) = Nat.gcd x y := by rw [Nat.gcd_comm x y, Nat.gcd_rec y x, Nat.gcd_comm]
theorem log2_lt {n k : Nat} (h : n < 2 ^ k) (hk : 0 < k) : n.log2 < k := by
  by_cases e : n = 0
  · rw [e]; exact hk
  · exact (Nat.log2_lt e).mpr h
theorem log2_small {n : Nat} (h : n ≤ 16777216) : n.log2 < 9000 := Nat.lt_of_lt_of_le (log2_lt (k := 30) (by omega) (by decide)) (by decide)
theorem pyEq_ii (a b : Int) : pyEq (.int a) (.int b) = decide (a = b) := by
  simp [pyEq, toPy, PyData.eqv]
  exact Bool.eq_iff_iff.mpr (by simp)
theorem atI_0 (x : D) (xs : List D) : atI (x :: xs) 0 = some x := by simp [atI, ixN]
theorem atI_1 (x y : D) (xs : List D) : atI (x :: y :: xs) 1 = some y := by
  have : (1 : Int) < ((xs.length : Nat) : Int) + 1 + 1 := by omega
  simp [atI, ixN, this]
theorem atI_lt {α : Type} {xs : List α} {i : Int} (h : 0 ≤ i) (h2 : i < (xs.length : Nat)) : ∃ d, atI xs i = some d ∧ d ∈ xs := by
  have hn : i.toNat < xs.length := by omega
  refine ⟨xs[i.toNat], ?_, List.getElem_mem hn⟩
  simp [atI, ixN, h, h2, hn]
theorem ints_of {ys : List D} (h : ∀ y ∈ ys, ∃ i : Int, y = D.int i) : ∃ ws : List Int, ys = ws.map D.int := by
  induction ys with
  | nil => exact ⟨[], rfl⟩
  | cons y ys ih =>
    obtain ⟨i, rfl⟩ := h y (List.mem_cons_self ..)
    obtain ⟨ws, rfl⟩ := ih fun z hz => h z (List.mem_cons_of_mem _ hz)
    exact ⟨i :: ws, rfl⟩
theorem limT_32 : limT * 4294967296 < 2 ^ 9033 := by
  have e : limT * 4294967296 = 2 ^ (9000 + 32) := (Nat.pow_add 2 9000 32).symm
  rw [e]
  exact Nat.pow_lt_pow_right (by decide) (by decide)
theorem pyEq_ss (s : Str) : pyEq (.str s) (.str s) = true := by simp [pyEq, toPy, PyData.eqv]
theorem rp2 (b : Bool) : isRefD (.lst [.bl b, .bl b]) = true ∧ plainR (.lst [.bl b, .bl b]) = true ∧ (toR (.lst [.bl b, .bl b])).showable = true ∧ (toR (.lst [.bl b, .bl b])).shown.length ≤ 16777216 ∧ (toR (.lst [.bl b, .bl b])).depth ≤ 60 ∧ PyData.strOk (toR (.lst [.bl b, .bl b])).shown = true := by
  cases b <;> decide +kernel
theorem log2_mono {a b : Nat} (h : a ≤ b) : a.log2 ≤ b.log2 := by
  by_cases e : a = 0
  · rw [e]; exact Nat.zero_le _
  · have hb : b ≠ 0 := by omega
    exact (Nat.le_log2 hb).mpr (Nat.le_trans (Nat.log2_self_le e) h)

def oddL : List D := [.non, .int 5, .int 0, .int (-1), .bl true, .bl false, .str "", .str "a", .str "A b", .lst [], .lst [.str "a"], .tup [], .tup [.str "a", .str "b"], .dct [], .dct (mergeD [(.str "a", .int 1)]), .int (10 ^ 20), .tup [.int 0, .int 1], .lst [.lst []], .tup [.str "a"], .lst [.non], .tup [.int 2, .int 1, .int 0]]
def okR (d : D) : Bool := isRefD (.lst [d]) && (plainR (.lst [d]) && ((toR (.lst [d])).showable && (decide ((toR (.lst [d])).shown.length ≤ 1000) && (decide ((toR (.lst [d])).depth ≤ 60) && PyData.strOk (toR (.lst [d])).shown))))
theorem oddL_ok : (oddL.all okR) = true := by decide +kernel
theorem okR_of {d : D} (h : okR d = true) : isRefD (.lst [d]) = true ∧ plainR (.lst [d]) = true ∧ (toR (.lst [d])).showable = true ∧ (toR (.lst [d])).shown.length ≤ 16777216 ∧ (toR (.lst [d])).depth ≤ 60 ∧ PyData.strOk (toR (.lst [d])).shown = true := by
  simp only [okR, Bool.and_eq_true, decide_eq_true_eq] at h
  obtain ⟨h1, h2, h3, h4, h5, h6⟩ := h
  exact ⟨h1, h2, h3, by omega, h5, h6⟩
theorem odd_ok {d : D} (h : d ∈ oddL) : okR d = true := List.all_eq_true.mp oddL_ok d h
/-- which classes have an attribute -/
def hasF (w : Int) : Bool := decide (w ≠ 6) && (decide (w ≠ 9) && (decide (w ≠ 10) && (decide (w ≠ 11) && decide (w ≠ 13))))
def errD (w : Int) (x : D) : D := .exc (w.toNat + 1) (if hasF w then [x] else [])
def heldD (w : Int) (x : D) : List D := if hasF w then [x] else []
def marksD (c : Nat) : List D := (List.range 15).map fun i => .bl (c == i + 1)
theorem way15 {w : Int} (h0 : 0 ≤ w) (h : w < 15) : w = 0 ∨ w = 1 ∨ w = 2 ∨ w = 3 ∨ w = 4 ∨ w = 5 ∨ w = 6 ∨ w = 7 ∨ w = 8 ∨ w = 9 ∨ w = 10 ∨ w = 11 ∨ w = 12 ∨ w = 13 ∨ w = 14 := by omega
theorem pyEq_bools : ∀ bs : List Bool, PyData.eqvAll (toPys (bs.map D.bl)) (toPys (bs.map D.bl)) = true
  | [] => rfl
  | b :: bs => by
    simp only [List.map_cons, toPys, PyData.eqvAll, pyEq_bools bs, Bool.and_true]
    cases b <;> rfl
theorem marks_eq (c : Nat) : pyEq (.lst (marksD c)) (.lst (marksD c)) = true := by
  have e : marksD c = ((List.range 15).map fun i => c == i + 1).map D.bl := by simp only [marksD, List.map_map]; rfl
  rw [e]
  simp only [pyEq, toPy, PyData.eqv]
  exact pyEq_bools _
def atD (w : Int) : D → D
  | .int i => .bl (decide (i = w))
  | _ => .non
theorem at_marks {w : Int} (h : 0 ≤ w) : (rngD 0 15).map (atD w) = marksD (w.toNat + 1) := by
  simp only [rngD, marksD, List.map_map]
  refine List.map_congr_left fun i hi => ?_
  show D.bl (decide (0 + (i : Int) = w)) = D.bl (w.toNat + 1 == i + 1)
  congr 1
  rw [Bool.eq_iff_iff]
  simp
  omega

/-! ### _law_marks -/
def m__law_marks : Spc := { ar := 1, pre := fun ds => ∃ c fs, ds = [.exc c fs], post := fun ds d => ∃ c fs, ds = [.exc c fs] ∧ d = .lst (marksD c) }
/-! ### _law_attributes -/
def m__law_attributes : Spc := { ar := 2, pre := fun ds => ∃ w x, ds = [errD w x, .int w] ∧ 0 ≤ w ∧ w < 15, post := fun ds d => ∃ w x, ds = [errD w x, .int w] ∧ d = .lst (heldD w x) }
/-! ### _law_pick -/
def m__law_pick : Spc := { ar := 2, pre := fun ds => (∃ xs, ds = [.tok 0, .lst xs] ∧ 0 < xs.length ∧ xs.length ≤ 1000) ∨ ∃ z, ds = [.tok 0, .str z] ∧ 0 < z.length ∧ z.length ≤ 1000, post := fun ds d => (∃ xs, ds = [.tok 0, .lst xs] ∧ d ∈ xs) ∨ ∃ z c, ds = [.tok 0, .str z] ∧ c ∈ z.cps.toList ∧ d = .str ⟨#[c]⟩, cost := 1 }
/-! ### _law_made_later -/
def m__law_made_later : Spc := { ar := 2, pre := fun ds => ∃ w x, ds = [.int w, x] ∧ 8 ≤ w ∧ w < 15, post := fun ds d => ∃ w x, ds = [.int w, x] ∧ d = errD w x }
/-! ### _law_made -/
def m__law_made : Spc := { ar := 2, pre := fun ds => ∃ w x, ds = [.int w, x] ∧ 0 ≤ w ∧ w < 15, post := fun ds d => ∃ w x, ds = [.int w, x] ∧ d = errD w x }
/-! ### _law_odd -/
def m__law_odd : Spc := { ar := 1, pre := fun ds => ds = [.tok 0], post := fun ds d => d ∈ oddL, cost := 1 }
/-! ### law -/

theorem sc__law_begun : FnScope ["_law_script", "_law_wide", "_law_cell"] ["_law_script"] (defScope (top 18)) := ⟨rfl, rfl, rfl, by decide +kernel, rfl, by decide +kernel, by decide +kernel⟩
theorem sc__law_blend : FnScope ["_law_draw", "_law_found", "_law_prime", "_law_blend_here", "_law_cell"] ["_law_draw"] (defScope (top 19)) := ⟨rfl, rfl, rfl, by decide +kernel, rfl, by decide +kernel, by decide +kernel⟩
theorem sc__law_marks : FnScope ["_law_error", "_law_some"] ["_law_error"] (defScope (top 22)) := ⟨rfl, rfl, rfl, by decide +kernel, rfl, by decide +kernel, by decide +kernel⟩
theorem sc__law_attributes : FnScope ["_law_error", "_law_way"] ["_law_error", "_law_way"] (defScope (top 23)) := ⟨rfl, rfl, rfl, by decide +kernel, rfl, by decide +kernel, by decide +kernel⟩
theorem sc__law_take : FnScope ["_law_draw", "_law_size", "_law_found"] ["_law_draw", "_law_size"] (defScope (top 20)) := ⟨rfl, rfl, rfl, by decide +kernel, rfl, by decide +kernel, by decide +kernel⟩
theorem sc__law_pick : FnScope ["_law_draw", "_law_some"] ["_law_draw", "_law_some"] (defScope (top 21)) := ⟨rfl, rfl, rfl, by decide +kernel, rfl, by decide +kernel, by decide +kernel⟩
theorem sc__law_made_later : FnScope ["_law_way", "_law_item"] ["_law_way", "_law_item"] (defScope (top 25)) := ⟨rfl, rfl, rfl, by decide +kernel, rfl, by decide +kernel, by decide +kernel⟩
theorem sc__law_made : FnScope ["_law_way", "_law_item"] ["_law_way", "_law_item"] (defScope (top 24)) := ⟨rfl, rfl, rfl, by decide +kernel, rfl, by decide +kernel, by decide +kernel⟩
theorem sc__law_odd : FnScope ["_law_draw", "_law_some"] ["_law_draw"] (defScope (top 26)) := ⟨rfl, rfl, rfl, by decide +kernel, rfl, by decide +kernel, by decide +kernel⟩
theorem sc_law : FnScope ["_law_script", "_law_draw", "_law_turn", "_law_way", "_law_item", "_law_error", "_law_at", "_law_held", "_law_plain"] ["_law_script"] (defScope (top 27)) := ⟨rfl, rfl, rfl, by decide +kernel, rfl, by decide +kernel, by decide +kernel⟩
section
variable {P : Program} {w : World} {K : PySem.W.Frag} {mg : Str → Option Value} {base : Heap} {G : Glob} {f : Addr} {fd : FuncData}
theorem ok__law_begun (Y : BY mg)  (F : FnP K "_law_begun" 18 f fd) : FnG P w K mg base 1 f fd ["_law_script"] (spD G0 K true 1 mBegun) := by
  refine fn_D (k := 0) (ps := ["_law_script"]) F sc__law_begun fun cdv A outer s H E t0 ds hr gd hp hl tk => ⟨_, _, (b_cons (s_setOLc (own := [("_law_cell", 2)]) 1 rfl sc__law_begun.nd (i_any (e_var 0)) (BlkOk.mk (N := ["_law_script", "_law_wide", "_law_cell"]) (sc := defScope (top 18)) rfl (by decide +kernel) (by decide +kernel) (by decide +kernel) (by decide +kernel)) (fun _ _ _ _ _ => (g_name 2 sc__law_begun.nd)) (fun _ _ _ _ _ => (ts_one (t_cmp op_ge s_ge (e_var 2) (e_op op_powW s_pow e_int e_int)))) (fun _ _ _ _ _ => (e_op op_sub s_sub (e_var 2) (e_op op_powW s_pow e_int e_int))))
    (b_still 1 (b_one (s_retF (e_disp (p_cons e_str (e_var 1) (p_cons e_str (e_fz (e_list (e_var 0) Y.b_list)) (p_cons e_str e_int (p_cons e_str e_int p_nil))))))))), by decide, ?_⟩
  obtain ⟨ns, rfl, hn⟩ := hp
  simp only [fSeq, fErr0, fErr1, WL.opIsE, WL.opIsV, WL.opXf, fSet, fSetO, fRet, fIfS, fT, fOp, fUn, fVar, fOwn, fC, fCons, fNil, fTup, fLst, fCB, fNot, fAnd, fOr, fAndV, fOrV, fNotV, fIf, fChain, fPar, fPar3, fUnp, fDrop, fStill, fNext, fFor, fForN, fRng1, fRng2, fLc, fYes, fCall, fCallK, fDisp, fPCons, fPNil, fSl, fNoO, fSomeO, fJoin, fDPut, fBrk, fCnt, fRetN, hName, hTup, hCons, hNil,
    wipeD, WL.isIn, startD, endsD, WL.isB, WL.intOf, WL.strOf, WL.seqOf, int1, int2, lstOf, tupOf, tupOf', WL.itOf, WL.ownOf, WL.opAdd, opCat, WL.opI, WL.opI0, WL.opSub, WL.opMul, WL.opDiv, WL.opMod, WL.opPow, WL.opLt, WL.opLe, WL.opGt, WL.opGe, WL.opEq, WL.opNe, WL.opIx, WL.opIn, opIsi, opIsi2, opRepr, opSl, opSlL, opJoin, uInt, WL.lenD, WL.allD, WL.anyD, WL.sumD, WL.intD, WL.listD, WL.tupleD, c2Int, tyN, isiT, WL.plain, WL.plains, WL.deep, WL.deeps, defO, XO.none, rkK,
    List.map_cons, List.map_nil, List.length_cons, List.length_nil, List.replicate, List.getElem?_cons_zero, List.getElem?_cons_succ, List.set_cons_zero, List.set_cons_succ, List.cons_append, List.nil_append, List.append_nil, Option.some.injEq, WL.Slot.imm.injEq, WL.Slot.own.injEq, exists_eq_left', exists_eq_left, reduceCtorEq, true_and, and_true, false_and, and_false, if_true, if_false, Bool.true_eq_false, Bool.false_eq_true, not_true, not_false_eq_true, sizeLine_eq, Nat.reduceAdd, Nat.reduceLeDiff, Nat.zero_add, Nat.le_refl, Int.reduceToNat, Int.reducePow, WL.plain, WL.deep, pyEq_ii, atI_0, atI_1, beq_self_eq_true, String.reduceBEq, Bool.true_or, Bool.or_true, Bool.false_or, Bool.or_false, Bool.true_and, Bool.and_true, Bool.false_and, Bool.and_false, Bool.not_true, Bool.not_false, decide_true, decide_false, Int.reduceEq, Int.reduceLT, Int.reduceLE, Int.cast_ofNat_Int, Own.con, Nat.reduceBEq]
  refine ⟨noOwn_nil (by simp), by rw [List.length_map]; exact sz _ (by omega), lcL_rel (fun x o => ∀ y, o = some y → ∃ i : Int, y = D.int i) _ _ (fun x hx Kp hk => ?_) fun ys ho => ?_⟩
  · obtain ⟨c, _, rfl⟩ := List.mem_map.mp hx
    simp only [fSeq, fErr0, fErr1, WL.opIsE, WL.opIsV, WL.opXf, fSet, fSetO, fRet, fIfS, fT, fOp, fUn, fVar, fOwn, fC, fCons, fNil, fTup, fLst, fCB, fNot, fAnd, fOr, fAndV, fOrV, fNotV, fIf, fChain, fPar, fPar3, fUnp, fDrop, fStill, fNext, fFor, fForN, fRng1, fRng2, fLc, fYes, fCall, fCallK, fDisp, fPCons, fPNil, fSl, fNoO, fSomeO, fJoin, fDPut, fBrk, fCnt, fRetN, hName, hTup, hCons, hNil,
    wipeD, WL.isIn, startD, endsD, WL.isB, WL.intOf, WL.strOf, WL.seqOf, int1, int2, lstOf, tupOf, tupOf', WL.itOf, WL.ownOf, WL.opAdd, opCat, WL.opI, WL.opI0, WL.opSub, WL.opMul, WL.opDiv, WL.opMod, WL.opPow, WL.opLt, WL.opLe, WL.opGt, WL.opGe, WL.opEq, WL.opNe, WL.opIx, WL.opIn, opIsi, opIsi2, opRepr, opSl, opSlL, opJoin, uInt, WL.lenD, WL.allD, WL.anyD, WL.sumD, WL.intD, WL.listD, WL.tupleD, c2Int, tyN, isiT, WL.plain, WL.plains, WL.deep, WL.deeps, defO, XO.none, rkK,
    List.map_cons, List.map_nil, List.length_cons, List.length_nil, List.replicate, List.getElem?_cons_zero, List.getElem?_cons_succ, List.set_cons_zero, List.set_cons_succ, List.cons_append, List.nil_append, List.append_nil, Option.some.injEq, WL.Slot.imm.injEq, WL.Slot.own.injEq, exists_eq_left', exists_eq_left, reduceCtorEq, true_and, and_true, false_and, and_false, if_true, if_false, Bool.true_eq_false, Bool.false_eq_true, not_true, not_false_eq_true, sizeLine_eq, Nat.reduceAdd, Nat.reduceLeDiff, Nat.zero_add, Nat.le_refl, Int.reduceToNat, Int.reducePow, WL.plain, WL.deep, pyEq_ii, atI_0, atI_1, beq_self_eq_true, String.reduceBEq, Bool.true_or, Bool.or_true, Bool.false_or, Bool.or_false, Bool.true_and, Bool.and_true, Bool.false_and, Bool.and_false, Bool.not_true, Bool.not_false, decide_true, decide_false, Int.reduceEq, Int.reduceLT, Int.reduceLE, Int.cast_ofNat_Int, Own.con, Nat.reduceBEq]
    have h10 : CPowW 10 18 := ⟨by decide, by decide, by decide⟩
    refine ⟨h10, ?_⟩
    split
    · exact ⟨h10, hk _ fun y e => ⟨_, (Option.some.inj e).symm⟩⟩
    · exact hk _ fun y e => nomatch e
  · obtain ⟨ws, rfl⟩ := ints_of fun y hy => Outs.all (Pr := fun y => ∃ i : Int, y = D.int i) (fun x y h => h y rfl) ho y hy
    have hl := ho.len
    rw [List.length_map, List.length_map] at hl
    exact ⟨rfl, ws, ns, rfl, by omega⟩

theorem ok__law_blend (Y : BY mg) (F : FnP K "_law_blend" 19 f fd) : FnG P w K mg base 1 f fd ["_law_draw"] spBlend := by
  refine blend_of rfl fun a b c ws cs r => fn_D (k := 0) (ps := ["_law_draw"]) F sc__law_blend fun cdv A outer s H E t0 ds hr gd hp hl tk => ⟨_, _, (b_cons (gb_tick 0 (u1 hr) (fun _ z => z))
    (b_cons (s_set 1 e_int sc__law_blend.nd)
    (b_cons (s_for (passes_of rfl) rfl (i_any (e_fz (e_lst (a_cons e_int (a_cons e_int (a_cons e_int (a_cons e_int (a_cons e_int (a_cons e_int a_nil))))))))) (g_name 2 sc__law_blend.nd) (b_cons (s_set 3 (e_op op_addA s_addA (e_op op_mul s_mul e_int (gb_turn 0 (u1 hr))) (e_op op_fdivW s_div (e_var 2) e_int)) sc__law_blend.nd)
    (b_cons (s_for (passes_of rfl) rfl (gb_cells 0 (u1 hr)) (g_name 4 sc__law_blend.nd) (b_one (s_set 3 (e_op op_mod s_mod (e_intc (e_op op_addA s_addA (e_op op_mul s_mul (e_var 3) e_int) (e_var 4)) Y.b_int) (e_var 2)) sc__law_blend.nd)))
    (b_one (s_set 1 (e_op op_addA s_addA (e_op op_mul s_mul (e_var 1) e_int) (e_op op_mod s_mod (e_intc (e_op op_powW s_pow (e_var 3) e_int) Y.b_int) (e_var 2))) sc__law_blend.nd)))))
    (b_one (s_ret (e_var 1)))))), by decide, ?_⟩
  obtain rfl := hp
  simp only [fSeq, fErr0, fErr1, WL.opIsE, WL.opIsV, WL.opXf, fSet, fSetO, fRet, fIfS, fT, fOp, fUn, fVar, fOwn, fC, fCons, fNil, fTup, fLst, fCB, fNot, fAnd, fOr, fAndV, fOrV, fNotV, fIf, fChain, fPar, fPar3, fUnp, fDrop, fStill, fNext, fFor, fForN, fRng1, fRng2, fLc, fYes, fCall, fCallK, fDisp, fPCons, fPNil, fSl, fNoO, fSomeO, fJoin, fDPut, fBrk, fCnt, fRetN, hName, hTup, hCons, hNil,
    wipeD, WL.isIn, startD, endsD, WL.isB, WL.intOf, WL.strOf, WL.seqOf, int1, int2, lstOf, tupOf, tupOf', WL.itOf, WL.ownOf, WL.opAdd, opCat, WL.opI, WL.opI0, WL.opSub, WL.opMul, WL.opDiv, WL.opMod, WL.opPow, WL.opLt, WL.opLe, WL.opGt, WL.opGe, WL.opEq, WL.opNe, WL.opIx, WL.opIn, opIsi, opIsi2, opRepr, opSl, opSlL, opJoin, uInt, WL.lenD, WL.allD, WL.anyD, WL.sumD, WL.intD, WL.listD, WL.tupleD, c2Int, tyN, isiT, WL.plain, WL.plains, WL.deep, WL.deeps, defO, XO.none, rkK,
    List.map_cons, List.map_nil, List.length_cons, List.length_nil, List.replicate, List.getElem?_cons_zero, List.getElem?_cons_succ, List.set_cons_zero, List.set_cons_succ, List.cons_append, List.nil_append, List.append_nil, Option.some.injEq, WL.Slot.imm.injEq, WL.Slot.own.injEq, exists_eq_left', exists_eq_left, reduceCtorEq, true_and, and_true, false_and, and_false, if_true, if_false, Bool.true_eq_false, Bool.false_eq_true, not_true, not_false_eq_true, sizeLine_eq, Nat.reduceAdd, Nat.reduceLeDiff, Nat.zero_add, Nat.le_refl, Int.reduceToNat, Int.reducePow, WL.plain, WL.deep, pyEq_ii, atI_0, atI_1, beq_self_eq_true, String.reduceBEq, Bool.true_or, Bool.or_true, Bool.false_or, Bool.or_false, Bool.true_and, Bool.and_true, Bool.false_and, Bool.and_false, Bool.not_true, Bool.not_false, decide_true, decide_false, Int.reduceEq, Int.reduceLT, Int.reduceLE, Int.cast_ofNat_Int, Own.con, Nat.reduceBEq]
  refine ⟨rfl, ?_⟩
  simp only [fSeq, fErr0, fErr1, WL.opIsE, WL.opIsV, WL.opXf, fSet, fSetO, fRet, fIfS, fT, fOp, fUn, fVar, fOwn, fC, fCons, fNil, fTup, fLst, fCB, fNot, fAnd, fOr, fAndV, fOrV, fNotV, fIf, fChain, fPar, fPar3, fUnp, fDrop, fStill, fNext, fFor, fForN, fRng1, fRng2, fLc, fYes, fCall, fCallK, fDisp, fPCons, fPNil, fSl, fNoO, fSomeO, fJoin, fDPut, fBrk, fCnt, fRetN, hName, hTup, hCons, hNil,
    wipeD, WL.isIn, startD, endsD, WL.isB, WL.intOf, WL.strOf, WL.seqOf, int1, int2, lstOf, tupOf, tupOf', WL.itOf, WL.ownOf, WL.opAdd, opCat, WL.opI, WL.opI0, WL.opSub, WL.opMul, WL.opDiv, WL.opMod, WL.opPow, WL.opLt, WL.opLe, WL.opGt, WL.opGe, WL.opEq, WL.opNe, WL.opIx, WL.opIn, opIsi, opIsi2, opRepr, opSl, opSlL, opJoin, uInt, WL.lenD, WL.allD, WL.anyD, WL.sumD, WL.intD, WL.listD, WL.tupleD, c2Int, tyN, isiT, WL.plain, WL.plains, WL.deep, WL.deeps, defO, XO.none, rkK,
    List.map_cons, List.map_nil, List.length_cons, List.length_nil, List.replicate, List.getElem?_cons_zero, List.getElem?_cons_succ, List.set_cons_zero, List.set_cons_succ, List.cons_append, List.nil_append, List.append_nil, Option.some.injEq, WL.Slot.imm.injEq, WL.Slot.own.injEq, exists_eq_left', exists_eq_left, reduceCtorEq, true_and, and_true, false_and, and_false, if_true, if_false, Bool.true_eq_false, Bool.false_eq_true, not_true, not_false_eq_true, sizeLine_eq, Nat.reduceAdd, Nat.reduceLeDiff, Nat.zero_add, Nat.le_refl, Int.reduceToNat, Int.reducePow, WL.plain, WL.deep, pyEq_ii, atI_0, atI_1, beq_self_eq_true, String.reduceBEq, Bool.true_or, Bool.or_true, Bool.false_or, Bool.or_false, Bool.true_and, Bool.and_true, Bool.false_and, Bool.and_false, Bool.not_true, Bool.not_false, decide_true, decide_false, Int.reduceEq, Int.reduceLT, Int.reduceLE, Int.cast_ofNat_Int, Own.con, Nat.reduceBEq]
  refine forL_inv (fun ρ => ∃ (i : Int) (p q r : Option WL.Slot), ρ = [some (.imm (.tok 0)), some (.imm (.int i)), p, q, r]) (fun ρ ⟨i, p, q, r, e⟩ => ?_) _ _ ⟨_, _, _, _, rfl⟩ fun x hx ρ nx ⟨i, p, q, r, e⟩ hk => ?_
  · subst e
    simp only [fSeq, fErr0, fErr1, WL.opIsE, WL.opIsV, WL.opXf, fSet, fSetO, fRet, fIfS, fT, fOp, fUn, fVar, fOwn, fC, fCons, fNil, fTup, fLst, fCB, fNot, fAnd, fOr, fAndV, fOrV, fNotV, fIf, fChain, fPar, fPar3, fUnp, fDrop, fStill, fNext, fFor, fForN, fRng1, fRng2, fLc, fYes, fCall, fCallK, fDisp, fPCons, fPNil, fSl, fNoO, fSomeO, fJoin, fDPut, fBrk, fCnt, fRetN, hName, hTup, hCons, hNil,
    wipeD, WL.isIn, startD, endsD, WL.isB, WL.intOf, WL.strOf, WL.seqOf, int1, int2, lstOf, tupOf, tupOf', WL.itOf, WL.ownOf, WL.opAdd, opCat, WL.opI, WL.opI0, WL.opSub, WL.opMul, WL.opDiv, WL.opMod, WL.opPow, WL.opLt, WL.opLe, WL.opGt, WL.opGe, WL.opEq, WL.opNe, WL.opIx, WL.opIn, opIsi, opIsi2, opRepr, opSl, opSlL, opJoin, uInt, WL.lenD, WL.allD, WL.anyD, WL.sumD, WL.intD, WL.listD, WL.tupleD, c2Int, tyN, isiT, WL.plain, WL.plains, WL.deep, WL.deeps, defO, XO.none, rkK,
    List.map_cons, List.map_nil, List.length_cons, List.length_nil, List.replicate, List.getElem?_cons_zero, List.getElem?_cons_succ, List.set_cons_zero, List.set_cons_succ, List.cons_append, List.nil_append, List.append_nil, Option.some.injEq, WL.Slot.imm.injEq, WL.Slot.own.injEq, exists_eq_left', exists_eq_left, reduceCtorEq, true_and, and_true, false_and, and_false, if_true, if_false, Bool.true_eq_false, Bool.false_eq_true, not_true, not_false_eq_true, sizeLine_eq, Nat.reduceAdd, Nat.reduceLeDiff, Nat.zero_add, Nat.le_refl, Int.reduceToNat, Int.reducePow, WL.plain, WL.deep, pyEq_ii, atI_0, atI_1, beq_self_eq_true, String.reduceBEq, Bool.true_or, Bool.or_true, Bool.false_or, Bool.or_false, Bool.true_and, Bool.and_true, Bool.false_and, Bool.and_false, Bool.not_true, Bool.not_false, decide_true, decide_false, Int.reduceEq, Int.reduceLT, Int.reduceLE, Int.cast_ofNat_Int, Own.con, Nat.reduceBEq]
    exact ⟨_, rfl⟩
  · subst e
    obtain ⟨pr, rfl, h0, h1⟩ : ∃ pr : Int, x = .int pr ∧ 0 < pr ∧ pr < 2 ^ 31 := by
      simp only [List.mem_cons, List.not_mem_nil, or_false] at hx
      rcases hx with e | e | e | e | e | e <;> subst e <;> exact ⟨_, rfl, by decide, by decide⟩
    simp only [fSeq, fErr0, fErr1, WL.opIsE, WL.opIsV, WL.opXf, fSet, fSetO, fRet, fIfS, fT, fOp, fUn, fVar, fOwn, fC, fCons, fNil, fTup, fLst, fCB, fNot, fAnd, fOr, fAndV, fOrV, fNotV, fIf, fChain, fPar, fPar3, fUnp, fDrop, fStill, fNext, fFor, fForN, fRng1, fRng2, fLc, fYes, fCall, fCallK, fDisp, fPCons, fPNil, fSl, fNoO, fSomeO, fJoin, fDPut, fBrk, fCnt, fRetN, hName, hTup, hCons, hNil,
    wipeD, WL.isIn, startD, endsD, WL.isB, WL.intOf, WL.strOf, WL.seqOf, int1, int2, lstOf, tupOf, tupOf', WL.itOf, WL.ownOf, WL.opAdd, opCat, WL.opI, WL.opI0, WL.opSub, WL.opMul, WL.opDiv, WL.opMod, WL.opPow, WL.opLt, WL.opLe, WL.opGt, WL.opGe, WL.opEq, WL.opNe, WL.opIx, WL.opIn, opIsi, opIsi2, opRepr, opSl, opSlL, opJoin, uInt, WL.lenD, WL.allD, WL.anyD, WL.sumD, WL.intD, WL.listD, WL.tupleD, c2Int, tyN, isiT, WL.plain, WL.plains, WL.deep, WL.deeps, defO, XO.none, rkK,
    List.map_cons, List.map_nil, List.length_cons, List.length_nil, List.replicate, List.getElem?_cons_zero, List.getElem?_cons_succ, List.set_cons_zero, List.set_cons_succ, List.cons_append, List.nil_append, List.append_nil, Option.some.injEq, WL.Slot.imm.injEq, WL.Slot.own.injEq, exists_eq_left', exists_eq_left, reduceCtorEq, true_and, and_true, false_and, and_false, if_true, if_false, Bool.true_eq_false, Bool.false_eq_true, not_true, not_false_eq_true, sizeLine_eq, Nat.reduceAdd, Nat.reduceLeDiff, Nat.zero_add, Nat.le_refl, Int.reduceToNat, Int.reducePow, WL.plain, WL.deep, pyEq_ii, atI_0, atI_1, beq_self_eq_true, String.reduceBEq, Bool.true_or, Bool.or_true, Bool.false_or, Bool.or_false, Bool.true_and, Bool.and_true, Bool.false_and, Bool.and_false, Bool.not_true, Bool.not_false, decide_true, decide_false, Int.reduceEq, Int.reduceLT, Int.reduceLE, Int.cast_ofNat_Int, Own.con, Nat.reduceBEq]
    refine ⟨rfl, fun j hj => ?_⟩
    simp only [fSeq, fErr0, fErr1, WL.opIsE, WL.opIsV, WL.opXf, fSet, fSetO, fRet, fIfS, fT, fOp, fUn, fVar, fOwn, fC, fCons, fNil, fTup, fLst, fCB, fNot, fAnd, fOr, fAndV, fOrV, fNotV, fIf, fChain, fPar, fPar3, fUnp, fDrop, fStill, fNext, fFor, fForN, fRng1, fRng2, fLc, fYes, fCall, fCallK, fDisp, fPCons, fPNil, fSl, fNoO, fSomeO, fJoin, fDPut, fBrk, fCnt, fRetN, hName, hTup, hCons, hNil,
    wipeD, WL.isIn, startD, endsD, WL.isB, WL.intOf, WL.strOf, WL.seqOf, int1, int2, lstOf, tupOf, tupOf', WL.itOf, WL.ownOf, WL.opAdd, opCat, WL.opI, WL.opI0, WL.opSub, WL.opMul, WL.opDiv, WL.opMod, WL.opPow, WL.opLt, WL.opLe, WL.opGt, WL.opGe, WL.opEq, WL.opNe, WL.opIx, WL.opIn, opIsi, opIsi2, opRepr, opSl, opSlL, opJoin, uInt, WL.lenD, WL.allD, WL.anyD, WL.sumD, WL.intD, WL.listD, WL.tupleD, c2Int, tyN, isiT, WL.plain, WL.plains, WL.deep, WL.deeps, defO, XO.none, rkK,
    List.map_cons, List.map_nil, List.length_cons, List.length_nil, List.replicate, List.getElem?_cons_zero, List.getElem?_cons_succ, List.set_cons_zero, List.set_cons_succ, List.cons_append, List.nil_append, List.append_nil, Option.some.injEq, WL.Slot.imm.injEq, WL.Slot.own.injEq, exists_eq_left', exists_eq_left, reduceCtorEq, true_and, and_true, false_and, and_false, if_true, if_false, Bool.true_eq_false, Bool.false_eq_true, not_true, not_false_eq_true, sizeLine_eq, Nat.reduceAdd, Nat.reduceLeDiff, Nat.zero_add, Nat.le_refl, Int.reduceToNat, Int.reducePow, WL.plain, WL.deep, pyEq_ii, atI_0, atI_1, beq_self_eq_true, String.reduceBEq, Bool.true_or, Bool.or_true, Bool.false_or, Bool.or_false, Bool.true_and, Bool.and_true, Bool.false_and, Bool.and_false, Bool.not_true, Bool.not_false, decide_true, decide_false, Int.reduceEq, Int.reduceLT, Int.reduceLE, Int.cast_ofNat_Int, Own.con, Nat.reduceBEq]
    have small : ∀ z : Int, 0 ≤ z → z < pr → z.natAbs.log2 < 100000 := fun z z0 z1 => Nat.lt_of_lt_of_le (log2_lt (k := 31) (by omega) (by decide)) (by decide)
    have first : (91283 * j + pr / 19).natAbs.log2 < 100000 := by
      have hd : 0 ≤ pr / 19 ∧ pr / 19 ≤ pr := ⟨Int.ediv_nonneg (by omega) (by decide), Int.ediv_le_self _ (by omega)⟩
      have one : 1 ≤ limT := Nat.le_trans (by decide) limT_big
      have le : (91283 * j + pr / 19).natAbs ≤ limT * 4294967296 := by omega
      exact Nat.lt_of_lt_of_le (log2_lt (k := 9033) (Nat.lt_of_le_of_lt le limT_32) (by decide)) (by decide)
    refine ⟨.inl ⟨by decide, by decide⟩, ⟨by decide, by decide⟩, rfl, forL_inv (fun ρ => ∃ (bh : Int) (u : Option WL.Slot), bh.natAbs.log2 < 100000 ∧ ρ = [some (.imm (.tok 0)), some (.imm (.int i)), some (.imm (.int pr)), some (.imm (.int bh)), u]) (fun ρ ⟨bh, u, hb, e⟩ => ?_) _ _ ⟨_, _, first, rfl⟩ fun x hx ρ nx2 ⟨bh, u, hb, e⟩ hk2 => ?_⟩
    · subst e
      simp only [fSeq, fErr0, fErr1, WL.opIsE, WL.opIsV, WL.opXf, fSet, fSetO, fRet, fIfS, fT, fOp, fUn, fVar, fOwn, fC, fCons, fNil, fTup, fLst, fCB, fNot, fAnd, fOr, fAndV, fOrV, fNotV, fIf, fChain, fPar, fPar3, fUnp, fDrop, fStill, fNext, fFor, fForN, fRng1, fRng2, fLc, fYes, fCall, fCallK, fDisp, fPCons, fPNil, fSl, fNoO, fSomeO, fJoin, fDPut, fBrk, fCnt, fRetN, hName, hTup, hCons, hNil,
    wipeD, WL.isIn, startD, endsD, WL.isB, WL.intOf, WL.strOf, WL.seqOf, int1, int2, lstOf, tupOf, tupOf', WL.itOf, WL.ownOf, WL.opAdd, opCat, WL.opI, WL.opI0, WL.opSub, WL.opMul, WL.opDiv, WL.opMod, WL.opPow, WL.opLt, WL.opLe, WL.opGt, WL.opGe, WL.opEq, WL.opNe, WL.opIx, WL.opIn, opIsi, opIsi2, opRepr, opSl, opSlL, opJoin, uInt, WL.lenD, WL.allD, WL.anyD, WL.sumD, WL.intD, WL.listD, WL.tupleD, c2Int, tyN, isiT, WL.plain, WL.plains, WL.deep, WL.deeps, defO, XO.none, rkK,
    List.map_cons, List.map_nil, List.length_cons, List.length_nil, List.replicate, List.getElem?_cons_zero, List.getElem?_cons_succ, List.set_cons_zero, List.set_cons_succ, List.cons_append, List.nil_append, List.append_nil, Option.some.injEq, WL.Slot.imm.injEq, WL.Slot.own.injEq, exists_eq_left', exists_eq_left, reduceCtorEq, true_and, and_true, false_and, and_false, if_true, if_false, Bool.true_eq_false, Bool.false_eq_true, not_true, not_false_eq_true, sizeLine_eq, Nat.reduceAdd, Nat.reduceLeDiff, Nat.zero_add, Nat.le_refl, Int.reduceToNat, Int.reducePow, WL.plain, WL.deep, pyEq_ii, atI_0, atI_1, beq_self_eq_true, String.reduceBEq, Bool.true_or, Bool.or_true, Bool.false_or, Bool.or_false, Bool.true_and, Bool.and_true, Bool.false_and, Bool.and_false, Bool.not_true, Bool.not_false, decide_true, decide_false, Int.reduceEq, Int.reduceLT, Int.reduceLE, Int.cast_ofNat_Int, Own.con, Nat.reduceBEq]
      exact ⟨.inr ⟨by decide, by decide⟩, ⟨by decide, by decide, hb⟩, h0, hk _ ⟨_, _, _, _, rfl⟩⟩
    · subst e
      obtain ⟨c, _, rfl⟩ := List.mem_map.mp hx
      simp only [fSeq, fErr0, fErr1, WL.opIsE, WL.opIsV, WL.opXf, fSet, fSetO, fRet, fIfS, fT, fOp, fUn, fVar, fOwn, fC, fCons, fNil, fTup, fLst, fCB, fNot, fAnd, fOr, fAndV, fOrV, fNotV, fIf, fChain, fPar, fPar3, fUnp, fDrop, fStill, fNext, fFor, fForN, fRng1, fRng2, fLc, fYes, fCall, fCallK, fDisp, fPCons, fPNil, fSl, fNoO, fSomeO, fJoin, fDPut, fBrk, fCnt, fRetN, hName, hTup, hCons, hNil,
    wipeD, WL.isIn, startD, endsD, WL.isB, WL.intOf, WL.strOf, WL.seqOf, int1, int2, lstOf, tupOf, tupOf', WL.itOf, WL.ownOf, WL.opAdd, opCat, WL.opI, WL.opI0, WL.opSub, WL.opMul, WL.opDiv, WL.opMod, WL.opPow, WL.opLt, WL.opLe, WL.opGt, WL.opGe, WL.opEq, WL.opNe, WL.opIx, WL.opIn, opIsi, opIsi2, opRepr, opSl, opSlL, opJoin, uInt, WL.lenD, WL.allD, WL.anyD, WL.sumD, WL.intD, WL.listD, WL.tupleD, c2Int, tyN, isiT, WL.plain, WL.plains, WL.deep, WL.deeps, defO, XO.none, rkK,
    List.map_cons, List.map_nil, List.length_cons, List.length_nil, List.replicate, List.getElem?_cons_zero, List.getElem?_cons_succ, List.set_cons_zero, List.set_cons_succ, List.cons_append, List.nil_append, List.append_nil, Option.some.injEq, WL.Slot.imm.injEq, WL.Slot.own.injEq, exists_eq_left', exists_eq_left, reduceCtorEq, true_and, and_true, false_and, and_false, if_true, if_false, Bool.true_eq_false, Bool.false_eq_true, not_true, not_false_eq_true, sizeLine_eq, Nat.reduceAdd, Nat.reduceLeDiff, Nat.zero_add, Nat.le_refl, Int.reduceToNat, Int.reducePow, WL.plain, WL.deep, pyEq_ii, atI_0, atI_1, beq_self_eq_true, String.reduceBEq, Bool.true_or, Bool.or_true, Bool.false_or, Bool.or_false, Bool.true_and, Bool.and_true, Bool.false_and, Bool.and_false, Bool.not_true, Bool.not_false, decide_true, decide_false, Int.reduceEq, Int.reduceLT, Int.reduceLE, Int.cast_ofNat_Int, Own.con, Nat.reduceBEq]
      exact ⟨.inr ⟨by decide, by decide⟩, h0, hk2 _ ⟨_, _, small _ (Int.emod_nonneg _ (by omega)) (Int.emod_lt_of_pos _ h0), rfl⟩⟩

theorem ok__law_marks (Y : BY mg) (ErT : ErTb G K mg errNs) (F : FnP K "_law_marks" 22 f fd) : FnG P w K mg base 1 f fd ["_law_error"] (spD G K false 1 m__law_marks) := by
  refine fn_D (k := 0) (ps := ["_law_error"]) F sc__law_marks fun cdv A outer s H E t0 ds hr gd hp hl tk => ⟨_, _, (b_cons (s_set 1 (e_fz (e_lst (a_cons (e_isE 1 ErT (e_var 0) Y.b_isinstance) (a_cons (e_isE 2 ErT (e_var 0) Y.b_isinstance) (a_cons (e_isE 3 ErT (e_var 0) Y.b_isinstance) a_nil))))) sc__law_marks.nd)
    (b_cons (s_set 1 (e_op op_addA s_addA (e_var 1) (e_lst (a_cons (e_isE 4 ErT (e_var 0) Y.b_isinstance) (a_cons (e_isE 5 ErT (e_var 0) Y.b_isinstance) (a_cons (e_isE 6 ErT (e_var 0) Y.b_isinstance) a_nil))))) sc__law_marks.nd)
    (b_cons (s_set 1 (e_op op_addA s_addA (e_var 1) (e_lst (a_cons (e_isE 7 ErT (e_var 0) Y.b_isinstance) (a_cons (e_isE 8 ErT (e_var 0) Y.b_isinstance) (a_cons (e_isE 9 ErT (e_var 0) Y.b_isinstance) a_nil))))) sc__law_marks.nd)
    (b_cons (s_set 1 (e_op op_addA s_addA (e_var 1) (e_lst (a_cons (e_isE 10 ErT (e_var 0) Y.b_isinstance) (a_cons (e_isE 11 ErT (e_var 0) Y.b_isinstance) (a_cons (e_isE 12 ErT (e_var 0) Y.b_isinstance) a_nil))))) sc__law_marks.nd)
    (b_one (s_ret (e_op op_addA s_addA (e_var 1) (e_lst (a_cons (e_isE 13 ErT (e_var 0) Y.b_isinstance) (a_cons (e_isE 14 ErT (e_var 0) Y.b_isinstance) (a_cons (e_isE 15 ErT (e_var 0) Y.b_isinstance) a_nil))))))))))), by decide, ?_⟩
  obtain ⟨c, fs, rfl⟩ := hp
  simp only [fSeq, fErr0, fErr1, WL.opIsE, WL.opIsV, WL.opXf, fSet, fSetO, fRet, fIfS, fT, fOp, fUn, fVar, fOwn, fC, fCons, fNil, fTup, fLst, fCB, fNot, fAnd, fOr, fAndV, fOrV, fNotV, fIf, fChain, fPar, fPar3, fUnp, fDrop, fStill, fNext, fFor, fForN, fRng1, fRng2, fLc, fYes, fCall, fCallK, fDisp, fPCons, fPNil, fSl, fNoO, fSomeO, fJoin, fDPut, fBrk, fCnt, fRetN, hName, hTup, hCons, hNil,
    wipeD, WL.isIn, startD, endsD, WL.isB, WL.intOf, WL.strOf, WL.seqOf, int1, int2, lstOf, tupOf, tupOf', WL.itOf, WL.ownOf, WL.opAdd, opCat, WL.opI, WL.opI0, WL.opSub, WL.opMul, WL.opDiv, WL.opMod, WL.opPow, WL.opLt, WL.opLe, WL.opGt, WL.opGe, WL.opEq, WL.opNe, WL.opIx, WL.opIn, opIsi, opIsi2, opRepr, opSl, opSlL, opJoin, uInt, WL.lenD, WL.allD, WL.anyD, WL.sumD, WL.intD, WL.listD, WL.tupleD, c2Int, tyN, isiT, WL.plain, WL.plains, WL.deep, WL.deeps, defO, XO.none, rkK,
    List.map_cons, List.map_nil, List.length_cons, List.length_nil, List.replicate, List.getElem?_cons_zero, List.getElem?_cons_succ, List.set_cons_zero, List.set_cons_succ, List.cons_append, List.nil_append, List.append_nil, Option.some.injEq, WL.Slot.imm.injEq, WL.Slot.own.injEq, exists_eq_left', exists_eq_left, reduceCtorEq, true_and, and_true, false_and, and_false, if_true, if_false, Bool.true_eq_false, Bool.false_eq_true, not_true, not_false_eq_true, sizeLine_eq, Nat.reduceAdd, Nat.reduceLeDiff, Nat.zero_add, Nat.le_refl, Int.reduceToNat, Int.reducePow, WL.plain, WL.deep, pyEq_ii, atI_0, atI_1, beq_self_eq_true, String.reduceBEq, Bool.true_or, Bool.or_true, Bool.false_or, Bool.or_false, Bool.true_and, Bool.and_true, Bool.false_and, Bool.and_false, Bool.not_true, Bool.not_false, decide_true, decide_false, Int.reduceEq, Int.reduceLT, Int.reduceLE, Int.cast_ofNat_Int, Own.con, Nat.reduceBEq]
  exact ⟨_, _, rfl, rfl⟩
theorem ok__law_attributes (Y : BY mg) (ErT : ErTb G K mg errNs) (F : FnP K "_law_attributes" 23 f fd) : FnG P w K mg base 1 f fd ["_law_error", "_law_way"] (spD G K false 2 m__law_attributes) := by
  refine fn_D (k := 0) (ps := ["_law_error", "_law_way"]) F sc__law_attributes fun cdv A outer s H E t0 ds hr gd hp hl tk => ⟨_, _, (b_cons (s_if (t_cmp (op_eqD (u64 hr)) s_eq (e_var 1) e_int) (b_one (s_ret (e_lst (a_cons (e_xf (n := "part") ErT (e_var 0)) a_nil)))) b_nil)
    (b_cons (s_if (t_cmp (op_inA (u1 hr)) s_in (e_var 1) (e_lst (a_cons e_int (a_cons e_int (a_cons e_int (a_cons e_int (a_cons e_int a_nil))))))) (b_one (s_ret (e_lst (a_cons (e_xf (n := "name") ErT (e_var 0)) a_nil)))) b_nil)
    (b_cons (s_if (t_cmp (op_eqD (u64 hr)) s_eq (e_var 1) e_int) (b_one (s_ret (e_lst (a_cons (e_xf (n := "thing") ErT (e_var 0)) a_nil)))) b_nil)
    (b_cons (s_if (t_cmp (op_eqD (u64 hr)) s_eq (e_var 1) e_int) (b_one (s_ret (e_lst (a_cons (e_xf (n := "most") ErT (e_var 0)) a_nil)))) b_nil)
    (b_cons (s_if (t_cmp (op_eqD (u64 hr)) s_eq (e_var 1) e_int) (b_one (s_ret (e_lst (a_cons (e_xf (n := "deed") ErT (e_var 0)) a_nil)))) b_nil)
    (b_one (s_ret (e_if (t_cmp (op_eqD (u64 hr)) s_eq (e_var 1) e_int) (e_fz (e_lst (a_cons (e_xf (n := "line") ErT (e_var 0)) a_nil))) (e_fz (e_lst a_nil)))))))))), by decide, ?_⟩
  obtain ⟨w, x, rfl, h0, h1⟩ := hp
  have fin : ∀ xs, heldD w x = xs → m__law_attributes.post [errD w x, .int w] (.lst xs) := fun xs e => ⟨w, x, rfl, by rw [e]⟩
  rcases way15 (by omega) h1 with e | e | e | e | e | e | e | e | e | e | e | e | e | e | e <;> subst e
  all_goals
    refine (fun (h : _) => h) ?_
    simp only [errD, hasF, Int.reduceToNat, Nat.reduceAdd, ne_eq, decide_not, Int.reduceEq, decide_false, decide_true, Bool.not_false, Bool.not_true, Bool.true_and, Bool.false_and, Bool.and_true, Bool.and_false, if_true, if_false, Bool.false_eq_true]
    simp only [fSeq, fErr0, fErr1, WL.opIsE, WL.opIsV, WL.opXf, fSet, fSetO, fRet, fIfS, fT, fOp, fUn, fVar, fOwn, fC, fCons, fNil, fTup, fLst, fCB, fNot, fAnd, fOr, fAndV, fOrV, fNotV, fIf, fChain, fPar, fPar3, fUnp, fDrop, fStill, fNext, fFor, fForN, fRng1, fRng2, fLc, fYes, fCall, fCallK, fDisp, fPCons, fPNil, fSl, fNoO, fSomeO, fJoin, fDPut, fBrk, fCnt, fRetN, hName, hTup, hCons, hNil,
    wipeD, WL.isIn, startD, endsD, WL.isB, WL.intOf, WL.strOf, WL.seqOf, int1, int2, lstOf, tupOf, tupOf', WL.itOf, WL.ownOf, WL.opAdd, opCat, WL.opI, WL.opI0, WL.opSub, WL.opMul, WL.opDiv, WL.opMod, WL.opPow, WL.opLt, WL.opLe, WL.opGt, WL.opGe, WL.opEq, WL.opNe, WL.opIx, WL.opIn, opIsi, opIsi2, opRepr, opSl, opSlL, opJoin, uInt, WL.lenD, WL.allD, WL.anyD, WL.sumD, WL.intD, WL.listD, WL.tupleD, c2Int, tyN, isiT, WL.plain, WL.plains, WL.deep, WL.deeps, defO, XO.none, rkK,
    List.map_cons, List.map_nil, List.length_cons, List.length_nil, List.replicate, List.getElem?_cons_zero, List.getElem?_cons_succ, List.set_cons_zero, List.set_cons_succ, List.cons_append, List.nil_append, List.append_nil, Option.some.injEq, WL.Slot.imm.injEq, WL.Slot.own.injEq, exists_eq_left', exists_eq_left, reduceCtorEq, true_and, and_true, false_and, and_false, if_true, if_false, Bool.true_eq_false, Bool.false_eq_true, not_true, not_false_eq_true, sizeLine_eq, Nat.reduceAdd, Nat.reduceLeDiff, Nat.zero_add, Nat.le_refl, Int.reduceToNat, Int.reducePow, WL.plain, WL.deep, pyEq_ii, atI_0, atI_1, beq_self_eq_true, String.reduceBEq, Bool.true_or, Bool.or_true, Bool.false_or, Bool.or_false, Bool.true_and, Bool.and_true, Bool.false_and, Bool.and_false, Bool.not_true, Bool.not_false, decide_true, decide_false, Int.reduceEq, Int.reduceLT, Int.reduceLE, Int.cast_ofNat_Int, Own.con, Nat.reduceBEq]
    first
      | exact ⟨rfl, fin _ rfl⟩
      | refine ⟨⟨rfl, rfl⟩, ?_⟩
        first
          | (rw [if_pos (by decide +kernel)]; exact ⟨rfl, fin _ rfl⟩)
          | (rw [if_neg (by decide +kernel)]; first | exact ⟨rfl, fin _ rfl⟩ | exact fin _ rfl)
theorem ok__law_take (Y : BY mg) {fB : Addr} {fdB : FuncData} (hB : FnG P w K mg base 1 fB fdB ["_law_draw"] spBlend) (mB : mg "_law_blend" = some (.ref fB)) (kB : PySem.W.keepIn K (.ref fB) = true) (bB : Binds K fdB ["_law_draw"] []) (F : FnP K "_law_take" 20 f fd) : FnG P w K mg base 2 f fd ["_law_draw", "_law_size"] spTake := by
  refine FunD.okG (k := 1) F sc__law_take (fun vs H Q E ⟨a, b, c, ws, cs, r, t, m, e, _⟩ => by rw [e]; rfl) fun cdv A outer s H vs Q E hr gd h => ⟨tTake K (fun _ _ _ _ => False), ?_, take_reads (D := { nx := fun _ H' => Q .non H', rt := Q }) h⟩
  have hx : ∀ σ, PassesAt (L2.CX P w) (cxOf (L2.CX P w) P w K mg base ["_law_draw", "_law_size", "_law_found"] "_law_take" (defScope (top 20)) f cdv A outer s H E) σ (fun _ _ _ => False) := fun σ pins H s e s' I c => by
    obtain ⟨_, _, _, _, _, _, _, _, _, _, _, _, z⟩ := c
    exact z.elim
  exact pss_cons (ps_if (pt_cmpR op_eq (pe_ix (ix_dict (u1 hr)) (pe_var (i := 0) rfl (Or.inl rfl)) pe_str (fun _ _ => rfl)) pe_int rfl) (pss_one (ps_dput (u1 hr) (pe_var (i := 0) rfl (Or.inl rfl)) pe_str
      (pe_ifExp (pt_cmpR (op_neD (u64 hr)) (pe_ix (ix_dict (u1 hr)) (pe_var (i := 0) rfl (Or.inl rfl)) pe_str (fun _ _ => rfl)) (pe_lst pa_nil) rfl)
        (pe_bm PySem.F.plainAttrs_list PySem.F.slot_list_pop PySem.F.type_list_pop mt_popAt (pe_ix (ix_dict (u1 hr)) (pe_var (i := 0) rfl (Or.inl rfl)) pe_str (fun _ _ => rfl)) (pa_cons pe_int pa_nil))
        (pe_callG hB hr gd rfl mB kB bB .nil hx (pa_cons (pe_var (i := 0) rfl (Or.inl rfl)) pa_nil) (by decide) rfl rfl)) rfl)) pss_nil)
    (pss_cons (ps_set (i := 2) sc__law_take.nd rfl (Or.inl rfl) (pe_op op_mod (pe_callTy call_int1 rfl Y.b_int (by rfl) (pa_cons (pe_ix (ix_dict (u1 hr)) (pe_var (i := 0) rfl (Or.inl rfl)) pe_str (fun _ _ => rfl)) pa_nil)) (pe_var (i := 1) rfl (Or.inl rfl))))
      (pss_cons (ps_dput (u1 hr) (pe_var (i := 0) rfl (Or.inl rfl)) pe_str (pe_op op_fdivW (pe_ix (ix_dict (u1 hr)) (pe_var (i := 0) rfl (Or.inl rfl)) pe_str (fun _ _ => rfl)) (pe_var (i := 1) rfl (Or.inl rfl))) rfl) (pss_one (ps_ret (pe_var (i := 2) rfl (Or.inl rfl))))))
theorem ok__law_pick (Y : BY mg) (F__law_take : Fn G P w K mg base "_law_take" 2 false mTake []) (F : FnP K "_law_pick" 21 f fd) : FnG P w K mg base 3 f fd ["_law_draw", "_law_some"] (spD G K false 2 m__law_pick) := by
  refine fn_D (k := 2) (ps := ["_law_draw", "_law_some"]) F sc__law_pick fun cdv A outer s H E t0 ds hr gd hp hl tk => ⟨_, _, (b_one (s_ret (e_ix (u1 hr) (e_var 1) (e_call (rk := false) F__law_take hr gd (by decide) (lets0 fun _ z => z) (a_cons (e_var 0) (a_cons (e_len (e_var 1) Y.b_len) a_nil)))))), by decide, ?_⟩
  rcases hp with ⟨xs, rfl, h1, h2⟩ | ⟨z, rfl, h1, h2⟩
  · simp only [fSeq, fErr0, fErr1, WL.opIsE, WL.opIsV, WL.opXf, fSet, fSetO, fRet, fIfS, fT, fOp, fUn, fVar, fOwn, fC, fCons, fNil, fTup, fLst, fCB, fNot, fAnd, fOr, fAndV, fOrV, fNotV, fIf, fChain, fPar, fPar3, fUnp, fDrop, fStill, fNext, fFor, fForN, fRng1, fRng2, fLc, fYes, fCall, fCallK, fDisp, fPCons, fPNil, fSl, fNoO, fSomeO, fJoin, fDPut, fBrk, fCnt, fRetN, hName, hTup, hCons, hNil,
    wipeD, WL.isIn, startD, endsD, WL.isB, WL.intOf, WL.strOf, WL.seqOf, int1, int2, lstOf, tupOf, tupOf', WL.itOf, WL.ownOf, WL.opAdd, opCat, WL.opI, WL.opI0, WL.opSub, WL.opMul, WL.opDiv, WL.opMod, WL.opPow, WL.opLt, WL.opLe, WL.opGt, WL.opGe, WL.opEq, WL.opNe, WL.opIx, WL.opIn, opIsi, opIsi2, opRepr, opSl, opSlL, opJoin, uInt, WL.lenD, WL.allD, WL.anyD, WL.sumD, WL.intD, WL.listD, WL.tupleD, c2Int, tyN, isiT, WL.plain, WL.plains, WL.deep, WL.deeps, defO, XO.none, rkK,
    List.map_cons, List.map_nil, List.length_cons, List.length_nil, List.replicate, List.getElem?_cons_zero, List.getElem?_cons_succ, List.set_cons_zero, List.set_cons_succ, List.cons_append, List.nil_append, List.append_nil, Option.some.injEq, WL.Slot.imm.injEq, WL.Slot.own.injEq, exists_eq_left', exists_eq_left, reduceCtorEq, true_and, and_true, false_and, and_false, if_true, if_false, Bool.true_eq_false, Bool.false_eq_true, not_true, not_false_eq_true, sizeLine_eq, Nat.reduceAdd, Nat.reduceLeDiff, Nat.zero_add, Nat.le_refl, Int.reduceToNat, Int.reducePow, WL.plain, WL.deep, pyEq_ii, atI_0, atI_1, beq_self_eq_true, String.reduceBEq, Bool.true_or, Bool.or_true, Bool.false_or, Bool.or_false, Bool.true_and, Bool.and_true, Bool.false_and, Bool.and_false, Bool.not_true, Bool.not_false, decide_true, decide_false, Int.reduceEq, Int.reduceLT, Int.reduceLE, Int.cast_ofNat_Int, Own.con, Nat.reduceBEq]
    refine ⟨rfl, ⟨_, rfl, by omega, log2_small (by omega)⟩, ?_, fun _ z => z.elim⟩
    rintro _ ⟨n, i, e, rfl, h3, h4⟩
    simp at e
    obtain ⟨d, e1, e2⟩ := atI_lt (xs := xs) h3 (by omega)
    dsimp only
    rw [e1]
    exact .inl ⟨xs, rfl, e2⟩
  · simp only [fSeq, fErr0, fErr1, WL.opIsE, WL.opIsV, WL.opXf, fSet, fSetO, fRet, fIfS, fT, fOp, fUn, fVar, fOwn, fC, fCons, fNil, fTup, fLst, fCB, fNot, fAnd, fOr, fAndV, fOrV, fNotV, fIf, fChain, fPar, fPar3, fUnp, fDrop, fStill, fNext, fFor, fForN, fRng1, fRng2, fLc, fYes, fCall, fCallK, fDisp, fPCons, fPNil, fSl, fNoO, fSomeO, fJoin, fDPut, fBrk, fCnt, fRetN, hName, hTup, hCons, hNil,
    wipeD, WL.isIn, startD, endsD, WL.isB, WL.intOf, WL.strOf, WL.seqOf, int1, int2, lstOf, tupOf, tupOf', WL.itOf, WL.ownOf, WL.opAdd, opCat, WL.opI, WL.opI0, WL.opSub, WL.opMul, WL.opDiv, WL.opMod, WL.opPow, WL.opLt, WL.opLe, WL.opGt, WL.opGe, WL.opEq, WL.opNe, WL.opIx, WL.opIn, opIsi, opIsi2, opRepr, opSl, opSlL, opJoin, uInt, WL.lenD, WL.allD, WL.anyD, WL.sumD, WL.intD, WL.listD, WL.tupleD, c2Int, tyN, isiT, WL.plain, WL.plains, WL.deep, WL.deeps, defO, XO.none, rkK,
    List.map_cons, List.map_nil, List.length_cons, List.length_nil, List.replicate, List.getElem?_cons_zero, List.getElem?_cons_succ, List.set_cons_zero, List.set_cons_succ, List.cons_append, List.nil_append, List.append_nil, Option.some.injEq, WL.Slot.imm.injEq, WL.Slot.own.injEq, exists_eq_left', exists_eq_left, reduceCtorEq, true_and, and_true, false_and, and_false, if_true, if_false, Bool.true_eq_false, Bool.false_eq_true, not_true, not_false_eq_true, sizeLine_eq, Nat.reduceAdd, Nat.reduceLeDiff, Nat.zero_add, Nat.le_refl, Int.reduceToNat, Int.reducePow, WL.plain, WL.deep, pyEq_ii, atI_0, atI_1, beq_self_eq_true, String.reduceBEq, Bool.true_or, Bool.or_true, Bool.false_or, Bool.or_false, Bool.true_and, Bool.and_true, Bool.false_and, Bool.and_false, Bool.not_true, Bool.not_false, decide_true, decide_false, Int.reduceEq, Int.reduceLT, Int.reduceLE, Int.cast_ofNat_Int, Own.con, Nat.reduceBEq]
    refine ⟨sz _ h2, rfl, ⟨_, rfl, by omega, log2_small (by omega)⟩, ?_, fun _ z => z.elim⟩
    rintro _ ⟨n, i, e, rfl, h3, h4⟩
    simp at e
    obtain ⟨d, e1, e2⟩ := atI_lt (xs := z.cps.toList) h3 (by rw [Array.length_toList]; show i < ((z.length : Nat) : Int); omega)
    dsimp only
    rw [e1]
    exact ⟨sz _ h2, .inr ⟨z, d, rfl, e2, rfl⟩⟩
theorem ok__law_made_later (Y : BY mg) (ErT : ErTb G K mg errNs) (E_TooMany : MkE P w K mg base "TooMany" "most") (E_BadDeed : MkE P w K mg base "BadDeed" "deed") (E_BadText : MkE P w K mg base "BadText" "line") (F : FnP K "_law_made_later" 25 f fd) : FnG P w K mg base 3 f fd ["_law_way", "_law_item"] (spD G K false 2 m__law_made_later) := by
  refine fn_D (k := 2) (ps := ["_law_way", "_law_item"]) F sc__law_made_later fun cdv A outer s H E t0 ds hr gd hp hl tk => ⟨_, _, (b_cons (s_if (t_cmp (op_eqD (u64 hr)) s_eq (e_var 0) e_int) (b_one (s_ret (e_err1 9 ErT E_TooMany hr gd (e_var 1)))) b_nil)
    (b_cons (s_if (t_cmp (op_eqD (u64 hr)) s_eq (e_var 0) e_int) (b_one (s_ret (e_err0 10 ErT e_str))) b_nil)
    (b_cons (s_if (t_cmp (op_eqD (u64 hr)) s_eq (e_var 0) e_int) (b_one (s_ret (e_err0 11 ErT e_str))) b_nil)
    (b_cons (s_if (t_cmp (op_eqD (u64 hr)) s_eq (e_var 0) e_int) (b_one (s_ret (e_err0 12 ErT e_str))) b_nil)
    (b_cons (s_if (t_cmp (op_eqD (u64 hr)) s_eq (e_var 0) e_int) (b_one (s_ret (e_err1 13 ErT E_BadDeed hr gd (e_var 1)))) b_nil)
    (b_one (s_ret (e_if (t_cmp (op_eqD (u64 hr)) s_eq (e_var 0) e_int) (e_err0 14 ErT e_str) (e_err1 15 ErT E_BadText hr gd (e_var 1)))))))))), by decide, ?_⟩
  obtain ⟨w, x, rfl, h0, h1⟩ := hp
  rcases way15 (by omega) h1 with e | e | e | e | e | e | e | e | e | e | e | e | e | e | e <;> first | (exfalso; omega) | subst e
  all_goals
    simp only [fSeq, fErr0, fErr1, WL.opIsE, WL.opIsV, WL.opXf, fSet, fSetO, fRet, fIfS, fT, fOp, fUn, fVar, fOwn, fC, fCons, fNil, fTup, fLst, fCB, fNot, fAnd, fOr, fAndV, fOrV, fNotV, fIf, fChain, fPar, fPar3, fUnp, fDrop, fStill, fNext, fFor, fForN, fRng1, fRng2, fLc, fYes, fCall, fCallK, fDisp, fPCons, fPNil, fSl, fNoO, fSomeO, fJoin, fDPut, fBrk, fCnt, fRetN, hName, hTup, hCons, hNil,
    wipeD, WL.isIn, startD, endsD, WL.isB, WL.intOf, WL.strOf, WL.seqOf, int1, int2, lstOf, tupOf, tupOf', WL.itOf, WL.ownOf, WL.opAdd, opCat, WL.opI, WL.opI0, WL.opSub, WL.opMul, WL.opDiv, WL.opMod, WL.opPow, WL.opLt, WL.opLe, WL.opGt, WL.opGe, WL.opEq, WL.opNe, WL.opIx, WL.opIn, opIsi, opIsi2, opRepr, opSl, opSlL, opJoin, uInt, WL.lenD, WL.allD, WL.anyD, WL.sumD, WL.intD, WL.listD, WL.tupleD, c2Int, tyN, isiT, WL.plain, WL.plains, WL.deep, WL.deeps, defO, XO.none, rkK,
    List.map_cons, List.map_nil, List.length_cons, List.length_nil, List.replicate, List.getElem?_cons_zero, List.getElem?_cons_succ, List.set_cons_zero, List.set_cons_succ, List.cons_append, List.nil_append, List.append_nil, Option.some.injEq, WL.Slot.imm.injEq, WL.Slot.own.injEq, exists_eq_left', exists_eq_left, reduceCtorEq, true_and, and_true, false_and, and_false, if_true, if_false, Bool.true_eq_false, Bool.false_eq_true, not_true, not_false_eq_true, sizeLine_eq, Nat.reduceAdd, Nat.reduceLeDiff, Nat.zero_add, Nat.le_refl, Int.reduceToNat, Int.reducePow, WL.plain, WL.deep, pyEq_ii, atI_0, atI_1, beq_self_eq_true, String.reduceBEq, Bool.true_or, Bool.or_true, Bool.false_or, Bool.or_false, Bool.true_and, Bool.and_true, Bool.false_and, Bool.and_false, Bool.not_true, Bool.not_false, decide_true, decide_false, Int.reduceEq, Int.reduceLT, Int.reduceLE, Int.cast_ofNat_Int, Own.con, Nat.reduceBEq]
    exact ⟨_, _, rfl, rfl⟩
theorem ok__law_made (Y : BY mg) (ErT : ErTb G K mg errNs) (E_BadTask : MkE P w K mg base "BadTask" "part") (E_BadBacklog : MkE P w K mg base "BadBacklog" "name") (E_NoTask : MkE P w K mg base "NoTask" "name") (E_SameName : MkE P w K mg base "SameName" "name") (E_NotBeginning : MkE P w K mg base "NotBeginning" "thing") (E_BadOrder : MkE P w K mg base "BadOrder" "name") (E_BadFit : MkE P w K mg base "BadFit" "name") (F__law_made_later : Fn G P w K mg base "_law_made_later" 3 false m__law_made_later []) (F : FnP K "_law_made" 24 f fd) : FnG P w K mg base 4 f fd ["_law_way", "_law_item"] (spD G K false 2 m__law_made) := by
  refine fn_D (k := 3) (ps := ["_law_way", "_law_item"]) F sc__law_made fun cdv A outer s H E t0 ds hr gd hp hl tk => ⟨_, _, (b_cons (s_if (t_cmp (op_eqD (u64 hr)) s_eq (e_var 0) e_int) (b_one (s_ret (e_err1 1 ErT E_BadTask hr gd (e_var 1)))) b_nil)
    (b_cons (s_if (t_cmp (op_eqD (u64 hr)) s_eq (e_var 0) e_int) (b_one (s_ret (e_err1 2 ErT E_BadBacklog hr gd (e_var 1)))) b_nil)
    (b_cons (s_if (t_cmp (op_eqD (u64 hr)) s_eq (e_var 0) e_int) (b_one (s_ret (e_err1 3 ErT E_NoTask hr gd (e_var 1)))) b_nil)
    (b_cons (s_if (t_cmp (op_eqD (u64 hr)) s_eq (e_var 0) e_int) (b_one (s_ret (e_err1 4 ErT E_SameName hr gd (e_var 1)))) b_nil)
    (b_cons (s_if (t_cmp (op_eqD (u64 hr)) s_eq (e_var 0) e_int) (b_one (s_ret (e_err1 5 ErT E_NotBeginning hr gd (e_var 1)))) b_nil)
    (b_cons (s_if (t_cmp (op_eqD (u64 hr)) s_eq (e_var 0) e_int) (b_one (s_ret (e_err1 6 ErT E_BadOrder hr gd (e_var 1)))) b_nil)
    (b_cons (s_if (t_cmp (op_eqD (u64 hr)) s_eq (e_var 0) e_int) (b_one (s_ret (e_err0 7 ErT e_str))) b_nil)
    (b_one (s_ret (e_if (t_cmp (op_eqD (u64 hr)) s_eq (e_var 0) e_int) (e_err1 8 ErT E_BadFit hr gd (e_var 1)) (e_call (rk := false) F__law_made_later hr gd (by decide) (lets0 fun _ z => z) (a_cons (e_var 0) (a_cons (e_var 1) a_nil))))))))))))), by decide, ?_⟩
  obtain ⟨w, x, rfl, h0, h1⟩ := hp
  rcases way15 (by omega) h1 with e | e | e | e | e | e | e | e | e | e | e | e | e | e | e <;> subst e
  all_goals
    simp only [fSeq, fErr0, fErr1, WL.opIsE, WL.opIsV, WL.opXf, fSet, fSetO, fRet, fIfS, fT, fOp, fUn, fVar, fOwn, fC, fCons, fNil, fTup, fLst, fCB, fNot, fAnd, fOr, fAndV, fOrV, fNotV, fIf, fChain, fPar, fPar3, fUnp, fDrop, fStill, fNext, fFor, fForN, fRng1, fRng2, fLc, fYes, fCall, fCallK, fDisp, fPCons, fPNil, fSl, fNoO, fSomeO, fJoin, fDPut, fBrk, fCnt, fRetN, hName, hTup, hCons, hNil,
    wipeD, WL.isIn, startD, endsD, WL.isB, WL.intOf, WL.strOf, WL.seqOf, int1, int2, lstOf, tupOf, tupOf', WL.itOf, WL.ownOf, WL.opAdd, opCat, WL.opI, WL.opI0, WL.opSub, WL.opMul, WL.opDiv, WL.opMod, WL.opPow, WL.opLt, WL.opLe, WL.opGt, WL.opGe, WL.opEq, WL.opNe, WL.opIx, WL.opIn, opIsi, opIsi2, opRepr, opSl, opSlL, opJoin, uInt, WL.lenD, WL.allD, WL.anyD, WL.sumD, WL.intD, WL.listD, WL.tupleD, c2Int, tyN, isiT, WL.plain, WL.plains, WL.deep, WL.deeps, defO, XO.none, rkK,
    List.map_cons, List.map_nil, List.length_cons, List.length_nil, List.replicate, List.getElem?_cons_zero, List.getElem?_cons_succ, List.set_cons_zero, List.set_cons_succ, List.cons_append, List.nil_append, List.append_nil, Option.some.injEq, WL.Slot.imm.injEq, WL.Slot.own.injEq, exists_eq_left', exists_eq_left, reduceCtorEq, true_and, and_true, false_and, and_false, if_true, if_false, Bool.true_eq_false, Bool.false_eq_true, not_true, not_false_eq_true, sizeLine_eq, Nat.reduceAdd, Nat.reduceLeDiff, Nat.zero_add, Nat.le_refl, Int.reduceToNat, Int.reducePow, WL.plain, WL.deep, pyEq_ii, atI_0, atI_1, beq_self_eq_true, String.reduceBEq, Bool.true_or, Bool.or_true, Bool.false_or, Bool.or_false, Bool.true_and, Bool.and_true, Bool.false_and, Bool.and_false, Bool.not_true, Bool.not_false, decide_true, decide_false, Int.reduceEq, Int.reduceLT, Int.reduceLE, Int.cast_ofNat_Int, Own.con, Nat.reduceBEq]
    first
      | exact ⟨_, _, rfl, rfl⟩
      | refine ⟨rfl, ⟨_, _, rfl, by decide, by decide⟩, fun d hd => ?_, fun _ z => z.elim⟩
        obtain ⟨w, y, e, rfl⟩ := hd
        simp only [List.cons.injEq, D.int.injEq, and_true] at e
        obtain ⟨rfl, rfl⟩ := e
        exact ⟨_, _, rfl, rfl⟩
theorem ok__law_odd (Y : BY mg) (F__law_pick : Fn G P w K mg base "_law_pick" 3 false m__law_pick []) (F : FnP K "_law_odd" 26 f fd) : FnG P w K mg base 4 f fd ["_law_draw"] (spD G K false 1 m__law_odd) := by
  refine fn_D (k := 3) (ps := ["_law_draw"]) F sc__law_odd fun cdv A outer s H E t0 ds hr gd hp hl tk => ⟨_, _, (b_cons (s_set 1 (e_fz (e_lst (a_cons e_non (a_cons e_int (a_cons e_int (a_cons (e_un un_neg s_neg e_int) (a_cons e_bl (a_cons e_bl (a_cons e_str (a_cons e_str (a_cons e_str (a_cons (e_fz (e_lst a_nil)) (a_cons (e_fz (e_lst (a_cons e_str a_nil))) (a_cons (e_tup a_nil) (a_cons (e_tup (a_cons e_str (a_cons e_str a_nil))) (a_cons (e_fz e_dnew) (a_cons (e_fz (e_disp (p_cons e_str e_int p_nil))) (a_cons (e_op op_powW s_pow e_int e_int) a_nil)))))))))))))))))) sc__law_odd.nd)
    (b_one (s_ret (e_call (rk := false) F__law_pick hr gd (by decide) (lets0 fun _ z => z) (a_cons (e_var 0) (a_cons (e_op op_addA s_addA (e_var 1) (e_lst (a_cons (e_tup (a_cons e_int (a_cons e_int a_nil))) (a_cons (e_fz (e_lst (a_cons (e_fz (e_lst a_nil)) a_nil))) (a_cons (e_tup (a_cons e_str a_nil)) (a_cons (e_fz (e_lst (a_cons e_non a_nil))) (a_cons (e_tup (a_cons e_int (a_cons e_int (a_cons e_int a_nil)))) a_nil))))))) a_nil)))))), by decide, ?_⟩
  obtain rfl := hp
  simp only [fSeq, fErr0, fErr1, WL.opIsE, WL.opIsV, WL.opXf, fSet, fSetO, fRet, fIfS, fT, fOp, fUn, fVar, fOwn, fC, fCons, fNil, fTup, fLst, fCB, fNot, fAnd, fOr, fAndV, fOrV, fNotV, fIf, fChain, fPar, fPar3, fUnp, fDrop, fStill, fNext, fFor, fForN, fRng1, fRng2, fLc, fYes, fCall, fCallK, fDisp, fPCons, fPNil, fSl, fNoO, fSomeO, fJoin, fDPut, fBrk, fCnt, fRetN, hName, hTup, hCons, hNil,
    wipeD, WL.isIn, startD, endsD, WL.isB, WL.intOf, WL.strOf, WL.seqOf, int1, int2, lstOf, tupOf, tupOf', WL.itOf, WL.ownOf, WL.opAdd, opCat, WL.opI, WL.opI0, WL.opSub, WL.opMul, WL.opDiv, WL.opMod, WL.opPow, WL.opLt, WL.opLe, WL.opGt, WL.opGe, WL.opEq, WL.opNe, WL.opIx, WL.opIn, opIsi, opIsi2, opRepr, opSl, opSlL, opJoin, uInt, WL.lenD, WL.allD, WL.anyD, WL.sumD, WL.intD, WL.listD, WL.tupleD, c2Int, tyN, isiT, WL.plain, WL.plains, WL.deep, WL.deeps, defO, XO.none, rkK,
    List.map_cons, List.map_nil, List.length_cons, List.length_nil, List.replicate, List.getElem?_cons_zero, List.getElem?_cons_succ, List.set_cons_zero, List.set_cons_succ, List.cons_append, List.nil_append, List.append_nil, Option.some.injEq, WL.Slot.imm.injEq, WL.Slot.own.injEq, exists_eq_left', exists_eq_left, reduceCtorEq, true_and, and_true, false_and, and_false, if_true, if_false, Bool.true_eq_false, Bool.false_eq_true, not_true, not_false_eq_true, sizeLine_eq, Nat.reduceAdd, Nat.reduceLeDiff, Nat.zero_add, Nat.le_refl, Int.reduceToNat, Int.reducePow, WL.plain, WL.deep, pyEq_ii, atI_0, atI_1, beq_self_eq_true, String.reduceBEq, Bool.true_or, Bool.or_true, Bool.false_or, Bool.or_false, Bool.true_and, Bool.and_true, Bool.false_and, Bool.and_false, Bool.not_true, Bool.not_false, decide_true, decide_false, Int.reduceEq, Int.reduceLT, Int.reduceLE, Int.cast_ofNat_Int, Own.con, Nat.reduceBEq]
  refine ⟨rfl, ⟨by decide, by decide, by decide⟩, rfl, .inl ⟨_, rfl, by decide, by decide⟩, fun d hd => ?_, fun _ z => z.elim⟩
  rcases hd with ⟨xs, e, hm⟩ | ⟨z, c, e, _⟩
  · simp only [List.cons.injEq, D.lst.injEq, true_and, and_true] at e
    rw [← e] at hm
    exact hm
  · simp at e
end
def d__law_begun : He.DefD := ⟨("_law_begun", none), "_law_begun", "_law_begun", defArgs (top 18), defBody (top 18), defScope (top 18), [], []⟩
def d__law_blend : He.DefD := ⟨("_law_blend", none), "_law_blend", "_law_blend", defArgs (top 19), defBody (top 19), defScope (top 19), [], []⟩
def d__law_marks : He.DefD := ⟨("_law_marks", none), "_law_marks", "_law_marks", defArgs (top 22), defBody (top 22), defScope (top 22), [], []⟩
def d__law_attributes : He.DefD := ⟨("_law_attributes", none), "_law_attributes", "_law_attributes", defArgs (top 23), defBody (top 23), defScope (top 23), [], []⟩
def d__law_take : He.DefD := ⟨("_law_take", none), "_law_take", "_law_take", defArgs (top 20), defBody (top 20), defScope (top 20), [], []⟩
def d__law_pick : He.DefD := ⟨("_law_pick", none), "_law_pick", "_law_pick", defArgs (top 21), defBody (top 21), defScope (top 21), [], []⟩
def d__law_made_later : He.DefD := ⟨("_law_made_later", none), "_law_made_later", "_law_made_later", defArgs (top 25), defBody (top 25), defScope (top 25), [], []⟩
def d__law_made : He.DefD := ⟨("_law_made", none), "_law_made", "_law_made", defArgs (top 24), defBody (top 24), defScope (top 24), [], []⟩
def d__law_odd : He.DefD := ⟨("_law_odd", none), "_law_odd", "_law_odd", defArgs (top 26), defBody (top 26), defScope (top 26), [], []⟩
def d_law : He.DefD := ⟨("law", none), "law", "law", defArgs (top 27), defBody (top 27), defScope (top 27), [], []⟩
def d_BadTask : He.DefD := ⟨("BadTask", some "__init__"), "__init__", "BadTask.__init__", defArgs (inClass (top 2) 0), defBody (inClass (top 2) 0), defScope (inClass (top 2) 0), [], []⟩
def d_BadBacklog : He.DefD := ⟨("BadBacklog", some "__init__"), "__init__", "BadBacklog.__init__", defArgs (inClass (top 3) 0), defBody (inClass (top 3) 0), defScope (inClass (top 3) 0), [], []⟩
def d_NoTask : He.DefD := ⟨("NoTask", some "__init__"), "__init__", "NoTask.__init__", defArgs (inClass (top 4) 0), defBody (inClass (top 4) 0), defScope (inClass (top 4) 0), [], []⟩
def d_SameName : He.DefD := ⟨("SameName", some "__init__"), "__init__", "SameName.__init__", defArgs (inClass (top 5) 0), defBody (inClass (top 5) 0), defScope (inClass (top 5) 0), [], []⟩
def d_NotBeginning : He.DefD := ⟨("NotBeginning", some "__init__"), "__init__", "NotBeginning.__init__", defArgs (inClass (top 6) 0), defBody (inClass (top 6) 0), defScope (inClass (top 6) 0), [], []⟩
def d_BadOrder : He.DefD := ⟨("BadOrder", some "__init__"), "__init__", "BadOrder.__init__", defArgs (inClass (top 7) 0), defBody (inClass (top 7) 0), defScope (inClass (top 7) 0), [], []⟩
def d_BadFit : He.DefD := ⟨("BadFit", some "__init__"), "__init__", "BadFit.__init__", defArgs (inClass (top 9) 0), defBody (inClass (top 9) 0), defScope (inClass (top 9) 0), [], []⟩
def d_TooMany : He.DefD := ⟨("TooMany", some "__init__"), "__init__", "TooMany.__init__", defArgs (inClass (top 10) 0), defBody (inClass (top 10) 0), defScope (inClass (top 10) 0), [], []⟩
def d_BadDeed : He.DefD := ⟨("BadDeed", some "__init__"), "__init__", "BadDeed.__init__", defArgs (inClass (top 14) 0), defBody (inClass (top 14) 0), defScope (inClass (top 14) 0), [], []⟩
def d_BadText : He.DefD := ⟨("BadText", some "__init__"), "__init__", "BadText.__init__", defArgs (inClass (top 16) 0), defBody (inClass (top 16) 0), defScope (inClass (top 16) 0), [], []⟩
def fn : List He.DefD := [d__law_begun, d__law_blend, d__law_marks, d__law_attributes, d__law_take, d__law_pick, d__law_made_later, d__law_made, d__law_odd, d_law, d_BadTask, d_BadBacklog, d_NoTask, d_SameName, d_NotBeginning, d_BadOrder, d_BadFit, d_TooMany, d_BadDeed, d_BadText]
def fx : List (PySem.W.Frag → Bool) := [erTbB errNs]
def fa : List He.Fa := [.glo "_law_begun", .glo "_law_blend", .glo "_law_marks", .glo "_law_attributes", .glo "_law_take", .glo "_law_pick", .glo "_law_made_later", .glo "_law_made", .glo "_law_odd", .glo "law", .free "ValueError", .free "int", .free "isinstance", .free "len", .free "list", .free "min", .free "range", .free "repr", .meth "BadTask" "__init__", .meth "BadBacklog" "__init__", .meth "NoTask" "__init__", .meth "SameName" "__init__", .meth "NotBeginning" "__init__", .meth "BadOrder" "__init__", .meth "BadFit" "__init__", .meth "TooMany" "__init__", .meth "BadDeed" "__init__", .meth "BadText" "__init__"]
theorem facts {P : Program} {w : World} {K : PySem.W.Frag} {h : Heap} {mg : Str → Option Value} {f : Addr} (X : K.In h) (Gn : h.Ns mainGlobals mg) (hfa : mg ("law" : Str) = some (.ref f)) (cx : SaysX fx fa fn K) :
    ∃ fd : FuncData, (∀ (s : Shared) (v : Value), BindsTo s fd ⟨[v], []⟩ [("_law_script", v)]) ∧ ∀ base : Heap, K.In base → base.Ns mainGlobals mg → FnG P w K mg base 5 f fd ["_law_script"] (spLaw K) := by
  have c := cx.d
  have Y : BY mg := { b_ValueError := He.free_ok X Gn (c.fact 10 (f := .free "ValueError") rfl), b_int := He.free_ok X Gn (c.fact 11 (f := .free "int") rfl), b_isinstance := He.free_ok X Gn (c.fact 12 (f := .free "isinstance") rfl), b_len := He.free_ok X Gn (c.fact 13 (f := .free "len") rfl), b_list := He.free_ok X Gn (c.fact 14 (f := .free "list") rfl), b_min := He.free_ok X Gn (c.fact 15 (f := .free "min") rfl), b_range := He.free_ok X Gn (c.fact 16 (f := .free "range") rfl), b_repr := He.free_ok X Gn (c.fact 17 (f := .free "repr") rfl) }
  obtain ⟨fd__law_begun, D__law_begun⟩ := c.def_ 0 (d := d__law_begun) rfl
  have g__law_begun := He.glo_ok X Gn (c.fact 0 (f := .glo "_law_begun") rfl)
  obtain ⟨fd__law_blend, D__law_blend⟩ := c.def_ 1 (d := d__law_blend) rfl
  have g__law_blend := He.glo_ok X Gn (c.fact 1 (f := .glo "_law_blend") rfl)
  obtain ⟨fd__law_marks, D__law_marks⟩ := c.def_ 2 (d := d__law_marks) rfl
  have g__law_marks := He.glo_ok X Gn (c.fact 2 (f := .glo "_law_marks") rfl)
  obtain ⟨fd__law_attributes, D__law_attributes⟩ := c.def_ 3 (d := d__law_attributes) rfl
  have g__law_attributes := He.glo_ok X Gn (c.fact 3 (f := .glo "_law_attributes") rfl)
  obtain ⟨fd__law_take, D__law_take⟩ := c.def_ 4 (d := d__law_take) rfl
  have g__law_take := He.glo_ok X Gn (c.fact 4 (f := .glo "_law_take") rfl)
  obtain ⟨fd__law_pick, D__law_pick⟩ := c.def_ 5 (d := d__law_pick) rfl
  have g__law_pick := He.glo_ok X Gn (c.fact 5 (f := .glo "_law_pick") rfl)
  obtain ⟨fd__law_made_later, D__law_made_later⟩ := c.def_ 6 (d := d__law_made_later) rfl
  have g__law_made_later := He.glo_ok X Gn (c.fact 6 (f := .glo "_law_made_later") rfl)
  obtain ⟨fd__law_made, D__law_made⟩ := c.def_ 7 (d := d__law_made) rfl
  have g__law_made := He.glo_ok X Gn (c.fact 7 (f := .glo "_law_made") rfl)
  obtain ⟨fd__law_odd, D__law_odd⟩ := c.def_ 8 (d := d__law_odd) rfl
  have g__law_odd := He.glo_ok X Gn (c.fact 8 (f := .glo "_law_odd") rfl)
  obtain ⟨fd_law, D_law⟩ := c.def_ 9 (d := d_law) rfl
  have g_law := He.glo_ok X Gn (c.fact 9 (f := .glo "law") rfl)
  obtain ⟨fd_BadTask, D_BadTask⟩ := c.def_ 10 (d := d_BadTask) rfl
  have m_BadTask := He.meth_ok (c.fact 18 (f := .meth "BadTask" "__init__") rfl)
  obtain ⟨fd_BadBacklog, D_BadBacklog⟩ := c.def_ 11 (d := d_BadBacklog) rfl
  have m_BadBacklog := He.meth_ok (c.fact 19 (f := .meth "BadBacklog" "__init__") rfl)
  obtain ⟨fd_NoTask, D_NoTask⟩ := c.def_ 12 (d := d_NoTask) rfl
  have m_NoTask := He.meth_ok (c.fact 20 (f := .meth "NoTask" "__init__") rfl)
  obtain ⟨fd_SameName, D_SameName⟩ := c.def_ 13 (d := d_SameName) rfl
  have m_SameName := He.meth_ok (c.fact 21 (f := .meth "SameName" "__init__") rfl)
  obtain ⟨fd_NotBeginning, D_NotBeginning⟩ := c.def_ 14 (d := d_NotBeginning) rfl
  have m_NotBeginning := He.meth_ok (c.fact 22 (f := .meth "NotBeginning" "__init__") rfl)
  obtain ⟨fd_BadOrder, D_BadOrder⟩ := c.def_ 15 (d := d_BadOrder) rfl
  have m_BadOrder := He.meth_ok (c.fact 23 (f := .meth "BadOrder" "__init__") rfl)
  obtain ⟨fd_BadFit, D_BadFit⟩ := c.def_ 16 (d := d_BadFit) rfl
  have m_BadFit := He.meth_ok (c.fact 24 (f := .meth "BadFit" "__init__") rfl)
  obtain ⟨fd_TooMany, D_TooMany⟩ := c.def_ 17 (d := d_TooMany) rfl
  have m_TooMany := He.meth_ok (c.fact 25 (f := .meth "TooMany" "__init__") rfl)
  obtain ⟨fd_BadDeed, D_BadDeed⟩ := c.def_ 18 (d := d_BadDeed) rfl
  have m_BadDeed := He.meth_ok (c.fact 26 (f := .meth "BadDeed" "__init__") rfl)
  obtain ⟨fd_BadText, D_BadText⟩ := c.def_ 19 (d := d_BadText) rfl
  have m_BadText := He.meth_ok (c.fact 27 (f := .meth "BadText" "__init__") rfl)
  have e := hfa.symm.trans g_law
  cases e
  have b := FunD.bindsA (ps := ["_law_script"]) D_law fun _ _ _ _ _ _ us hl => match us, hl with | [_], _ => rfl
  refine ⟨fd_law, fun s v => b s [v] rfl, fun base _ _ => ?_⟩
  have ErT : ∀ a b c, ErTb (GD (fun _ => none) (ecOf K errNs) a b c) K mg errNs := fun a b c => erTb_ok X Gn rfl (cx.x 0 rfl)
  have E_BadTask : MkE P w K mg base "BadTask" "part" := ⟨fun C hC => by
    obtain ⟨C2, h1, h2, _⟩ := (ErT 0 0 0).ec 1 "BadTask" (some "part") rfl
    have e1 := hC.symm.trans h1
    cases e1
    have e2 : some (He.ga K "BadTask", some ("part" : Str)) = some (C, some ("part" : Str)) := h2
    cases e2
    exact ⟨_, fd_BadTask, _, _, m_BadTask.at_, beq_iff_eq.mp m_BadTask.fn, ok_BadTask D_BadTask, D_BadTask.bindsN fun _ _ _ _ _ _ us hl => match us, hl with | [_, _], _ => rfl⟩⟩
  have E_BadBacklog : MkE P w K mg base "BadBacklog" "name" := ⟨fun C hC => by
    obtain ⟨C2, h1, h2, _⟩ := (ErT 0 0 0).ec 2 "BadBacklog" (some "name") rfl
    have e1 := hC.symm.trans h1
    cases e1
    have e2 : some (He.ga K "BadBacklog", some ("name" : Str)) = some (C, some ("name" : Str)) := h2
    cases e2
    exact ⟨_, fd_BadBacklog, _, _, m_BadBacklog.at_, beq_iff_eq.mp m_BadBacklog.fn, ok_BadBacklog D_BadBacklog, D_BadBacklog.bindsN fun _ _ _ _ _ _ us hl => match us, hl with | [_, _], _ => rfl⟩⟩
  have E_NoTask : MkE P w K mg base "NoTask" "name" := ⟨fun C hC => by
    obtain ⟨C2, h1, h2, _⟩ := (ErT 0 0 0).ec 3 "NoTask" (some "name") rfl
    have e1 := hC.symm.trans h1
    cases e1
    have e2 : some (He.ga K "NoTask", some ("name" : Str)) = some (C, some ("name" : Str)) := h2
    cases e2
    exact ⟨_, fd_NoTask, _, _, m_NoTask.at_, beq_iff_eq.mp m_NoTask.fn, ok_NoTask D_NoTask, D_NoTask.bindsN fun _ _ _ _ _ _ us hl => match us, hl with | [_, _], _ => rfl⟩⟩
  have E_SameName : MkE P w K mg base "SameName" "name" := ⟨fun C hC => by
    obtain ⟨C2, h1, h2, _⟩ := (ErT 0 0 0).ec 4 "SameName" (some "name") rfl
    have e1 := hC.symm.trans h1
    cases e1
    have e2 : some (He.ga K "SameName", some ("name" : Str)) = some (C, some ("name" : Str)) := h2
    cases e2
    exact ⟨_, fd_SameName, _, _, m_SameName.at_, beq_iff_eq.mp m_SameName.fn, ok_SameName D_SameName, D_SameName.bindsN fun _ _ _ _ _ _ us hl => match us, hl with | [_, _], _ => rfl⟩⟩
  have E_NotBeginning : MkE P w K mg base "NotBeginning" "thing" := ⟨fun C hC => by
    obtain ⟨C2, h1, h2, _⟩ := (ErT 0 0 0).ec 5 "NotBeginning" (some "thing") rfl
    have e1 := hC.symm.trans h1
    cases e1
    have e2 : some (He.ga K "NotBeginning", some ("thing" : Str)) = some (C, some ("thing" : Str)) := h2
    cases e2
    exact ⟨_, fd_NotBeginning, _, _, m_NotBeginning.at_, beq_iff_eq.mp m_NotBeginning.fn, ok_NotBeginning D_NotBeginning, D_NotBeginning.bindsN fun _ _ _ _ _ _ us hl => match us, hl with | [_, _], _ => rfl⟩⟩
  have E_BadOrder : MkE P w K mg base "BadOrder" "name" := ⟨fun C hC => by
    obtain ⟨C2, h1, h2, _⟩ := (ErT 0 0 0).ec 6 "BadOrder" (some "name") rfl
    have e1 := hC.symm.trans h1
    cases e1
    have e2 : some (He.ga K "BadOrder", some ("name" : Str)) = some (C, some ("name" : Str)) := h2
    cases e2
    exact ⟨_, fd_BadOrder, _, _, m_BadOrder.at_, beq_iff_eq.mp m_BadOrder.fn, ok_BadOrder D_BadOrder, D_BadOrder.bindsN fun _ _ _ _ _ _ us hl => match us, hl with | [_, _], _ => rfl⟩⟩
  have E_BadFit : MkE P w K mg base "BadFit" "name" := ⟨fun C hC => by
    obtain ⟨C2, h1, h2, _⟩ := (ErT 0 0 0).ec 8 "BadFit" (some "name") rfl
    have e1 := hC.symm.trans h1
    cases e1
    have e2 : some (He.ga K "BadFit", some ("name" : Str)) = some (C, some ("name" : Str)) := h2
    cases e2
    exact ⟨_, fd_BadFit, _, _, m_BadFit.at_, beq_iff_eq.mp m_BadFit.fn, ok_BadFit D_BadFit, D_BadFit.bindsN fun _ _ _ _ _ _ us hl => match us, hl with | [_, _], _ => rfl⟩⟩
  have E_TooMany : MkE P w K mg base "TooMany" "most" := ⟨fun C hC => by
    obtain ⟨C2, h1, h2, _⟩ := (ErT 0 0 0).ec 9 "TooMany" (some "most") rfl
    have e1 := hC.symm.trans h1
    cases e1
    have e2 : some (He.ga K "TooMany", some ("most" : Str)) = some (C, some ("most" : Str)) := h2
    cases e2
    exact ⟨_, fd_TooMany, _, _, m_TooMany.at_, beq_iff_eq.mp m_TooMany.fn, ok_TooMany D_TooMany, D_TooMany.bindsN fun _ _ _ _ _ _ us hl => match us, hl with | [_, _], _ => rfl⟩⟩
  have E_BadDeed : MkE P w K mg base "BadDeed" "deed" := ⟨fun C hC => by
    obtain ⟨C2, h1, h2, _⟩ := (ErT 0 0 0).ec 13 "BadDeed" (some "deed") rfl
    have e1 := hC.symm.trans h1
    cases e1
    have e2 : some (He.ga K "BadDeed", some ("deed" : Str)) = some (C, some ("deed" : Str)) := h2
    cases e2
    exact ⟨_, fd_BadDeed, _, _, m_BadDeed.at_, beq_iff_eq.mp m_BadDeed.fn, ok_BadDeed D_BadDeed, D_BadDeed.bindsN fun _ _ _ _ _ _ us hl => match us, hl with | [_, _], _ => rfl⟩⟩
  have E_BadText : MkE P w K mg base "BadText" "line" := ⟨fun C hC => by
    obtain ⟨C2, h1, h2, _⟩ := (ErT 0 0 0).ec 15 "BadText" (some "line") rfl
    have e1 := hC.symm.trans h1
    cases e1
    have e2 : some (He.ga K "BadText", some ("line" : Str)) = some (C, some ("line" : Str)) := h2
    cases e2
    exact ⟨_, fd_BadText, _, _, m_BadText.at_, beq_iff_eq.mp m_BadText.fn, ok_BadText D_BadText, D_BadText.bindsN fun _ _ _ _ _ _ us hl => match us, hl with | [_, _], _ => rfl⟩⟩
  have bB : Binds K fd__law_blend ["_law_draw"] [] := D__law_blend.bindsN fun _ _ _ _ _ _ us hl => match us, hl with | [_], _ => rfl
  have okB : FnG P w K mg base 1 _ fd__law_blend ["_law_draw"] spBlend := ok__law_blend Y D__law_blend
  have okT : FnG P w K mg base 2 _ fd__law_take ["_law_draw", "_law_size"] spTake := ok__law_take Y okB g__law_blend D__law_blend.kp bB D__law_take
  have F__law_begun : Fn G0 P w K mg base "_law_begun" 1 true mBegun [] := mkFn (ps := ["_law_script"]) D__law_begun (ok__law_begun Y D__law_begun) g__law_begun rfl (fun _ _ _ _ _ _ us hl => match us, hl with | [_], _ => rfl)
  have O__law_marks : ∀ a b c, FnG P w K mg base 1 _ fd__law_marks ["_law_error"] (spD (GD (fun _ => none) (ecOf K errNs) a b c) K false 1 m__law_marks) := fun a b c => ok__law_marks Y (ErT a b c) D__law_marks
  have F__law_marks : ∀ a b c, Fn (GD (fun _ => none) (ecOf K errNs) a b c) P w K mg base "_law_marks" 1 false m__law_marks [] := fun a b c => mkFn (ps := ["_law_error"]) D__law_marks (O__law_marks a b c) g__law_marks rfl (fun _ _ _ _ _ _ us hl => match us, hl with | [_], _ => rfl)
  have O__law_attributes : ∀ a b c, FnG P w K mg base 1 _ fd__law_attributes ["_law_error", "_law_way"] (spD (GD (fun _ => none) (ecOf K errNs) a b c) K false 2 m__law_attributes) := fun a b c => ok__law_attributes Y (ErT a b c) D__law_attributes
  have F__law_attributes : ∀ a b c, Fn (GD (fun _ => none) (ecOf K errNs) a b c) P w K mg base "_law_attributes" 1 false m__law_attributes [] := fun a b c => mkFn (ps := ["_law_error", "_law_way"]) D__law_attributes (O__law_attributes a b c) g__law_attributes rfl (fun _ _ _ _ _ _ us hl => match us, hl with | [_, _], _ => rfl)
  have O__law_take : ∀ a b c, FnG P w K mg base 2 _ fd__law_take ["_law_draw", "_law_size"] (spD (GD (fun _ => none) (ecOf K errNs) a b c) K false 2 mTake) := fun a b c => take_of rfl okT
  have F__law_take : ∀ a b c, Fn (GD (fun _ => none) (ecOf K errNs) a b c) P w K mg base "_law_take" 2 false mTake [] := fun a b c => mkFn (ps := ["_law_draw", "_law_size"]) D__law_take (O__law_take a b c) g__law_take rfl (fun _ _ _ _ _ _ us hl => match us, hl with | [_, _], _ => rfl)
  have O__law_pick : ∀ a b c, FnG P w K mg base 3 _ fd__law_pick ["_law_draw", "_law_some"] (spD (GD (fun _ => none) (ecOf K errNs) a b c) K false 2 m__law_pick) := fun a b c => ok__law_pick Y (F__law_take a b c) D__law_pick
  have F__law_pick : ∀ a b c, Fn (GD (fun _ => none) (ecOf K errNs) a b c) P w K mg base "_law_pick" 3 false m__law_pick [] := fun a b c => mkFn (ps := ["_law_draw", "_law_some"]) D__law_pick (O__law_pick a b c) g__law_pick rfl (fun _ _ _ _ _ _ us hl => match us, hl with | [_, _], _ => rfl)
  have O__law_made_later : ∀ a b c, FnG P w K mg base 3 _ fd__law_made_later ["_law_way", "_law_item"] (spD (GD (fun _ => none) (ecOf K errNs) a b c) K false 2 m__law_made_later) := fun a b c => ok__law_made_later Y (ErT a b c) E_TooMany E_BadDeed E_BadText D__law_made_later
  have F__law_made_later : ∀ a b c, Fn (GD (fun _ => none) (ecOf K errNs) a b c) P w K mg base "_law_made_later" 3 false m__law_made_later [] := fun a b c => mkFn (ps := ["_law_way", "_law_item"]) D__law_made_later (O__law_made_later a b c) g__law_made_later rfl (fun _ _ _ _ _ _ us hl => match us, hl with | [_, _], _ => rfl)
  have O__law_made : ∀ a b c, FnG P w K mg base 4 _ fd__law_made ["_law_way", "_law_item"] (spD (GD (fun _ => none) (ecOf K errNs) a b c) K false 2 m__law_made) := fun a b c => ok__law_made Y (ErT a b c) E_BadTask E_BadBacklog E_NoTask E_SameName E_NotBeginning E_BadOrder E_BadFit (F__law_made_later a b c) D__law_made
  have F__law_made : ∀ a b c, Fn (GD (fun _ => none) (ecOf K errNs) a b c) P w K mg base "_law_made" 4 false m__law_made [] := fun a b c => mkFn (ps := ["_law_way", "_law_item"]) D__law_made (O__law_made a b c) g__law_made rfl (fun _ _ _ _ _ _ us hl => match us, hl with | [_, _], _ => rfl)
  have O__law_odd : ∀ a b c, FnG P w K mg base 4 _ fd__law_odd ["_law_draw"] (spD (GD (fun _ => none) (ecOf K errNs) a b c) K false 1 m__law_odd) := fun a b c => ok__law_odd Y (F__law_pick a b c) D__law_odd
  have F__law_odd : ∀ a b c, Fn (GD (fun _ => none) (ecOf K errNs) a b c) P w K mg base "_law_odd" 4 false m__law_odd [] := fun a b c => mkFn (ps := ["_law_draw"]) D__law_odd (O__law_odd a b c) g__law_odd rfl (fun _ _ _ _ _ _ us hl => match us, hl with | [_], _ => rfl)
  refine law_D (k := 4) (N := ["_law_script", "_law_draw", "_law_turn", "_law_way", "_law_item", "_law_error", "_law_at", "_law_held", "_law_plain"]) (ct := fun _ => none) (ec := (ecOf K errNs)) D_law sc_law (by decide)
    (fun cdv A outer s H E hr gd tk => (s_setO 1 (e_call (rk := true) F__law_begun hr gd (by decide) (lets0 fun _ z => z) (a_cons (e_var 0) a_nil)) sc_law.nd))
    fun cdv A outer s H E ns hns hr gd tk => ⟨_, _, fun a b c => (by
      have F__law_take := F__law_take a b c
      have ErT := ErT a b c
      have F__law_odd := F__law_odd a b c
      have F__law_made := F__law_made a b c
      have F__law_marks := F__law_marks a b c
      have F__law_attributes := F__law_attributes a b c
      exact (b_cons (s_forN 64 (passes_of rfl) rfl (i_rng1 (a_cons (e_op op_addA s_addA e_int (e_min2 rfl (a_cons (e_len (e_var 0) Y.b_len) (a_cons e_int a_nil)) Y.b_min)) a_nil) Y.b_range) (g_name 2 sc_law.nd) (b_one (s_forN 64 (passes_of rfl) rfl (i_rng1 (a_cons e_int a_nil) Y.b_range) (g_name 3 sc_law.nd) (b_cons (s_set 4 (e_call (rk := false) F__law_odd hr gd (by decide) (lets0 fun _ z => z) (a_cons (e_var 1) a_nil)) sc_law.nd)
    (b_cons (s_set 5 (e_call (rk := false) F__law_made hr gd (by decide) (lets0 fun _ z => z) (a_cons (e_var 3) (a_cons (e_var 4) a_nil))) sc_law.nd)
    (b_cons (s_if (t_cmp (op_neD (u64 hr)) s_ne (e_call (rk := false) F__law_marks hr gd (by decide) (lets0 fun _ z => z) (a_cons (e_var 5) a_nil)) (e_lc (own := [("_law_at", 6)]) rfl sc_law.nd (i_rng1 (a_cons e_int a_nil) Y.b_range) (BlkOk.mk (N := ["_law_script", "_law_draw", "_law_turn", "_law_way", "_law_item", "_law_error", "_law_at", "_law_held", "_law_plain"]) (sc := defScope (top 27)) rfl (by decide +kernel) (by decide +kernel) (by decide +kernel) (by decide +kernel)) (fun _ _ _ _ _ => (g_name 6 sc_law.nd)) (fun _ _ _ _ _ => ts_nil) (fun _ _ _ _ _ => (e_cmp (op_eqD (u64 hr)) s_eq (e_var 6) (e_var 3))))) (b_one (s_ret e_bl)) b_nil)
    (b_cons (s_if (t_w (w_or (t_not (t_val (e_isE 0 ErT (e_var 5) Y.b_isinstance))) (w_or1 (t_not (t_val (e_isV ErT (e_var 5) Y.b_isinstance Y.b_ValueError)))))) (b_one (s_ret e_bl)) b_nil)
    (b_cons (s_set 7 (e_call (rk := false) F__law_attributes hr gd (by decide) (lets0 fun _ z => z) (a_cons (e_var 5) (a_cons (e_var 3) a_nil))) sc_law.nd)
    (b_one (s_if (t_cmp (op_neD (u64 hr)) s_ne (e_repr (e_var 7) gd (u64 hr) Y.b_repr) (e_repr (e_sl (e_fz (e_lst (a_cons (e_var 4) a_nil))) o_none (o_some (e_len (e_var 7) Y.b_len))) gd (u64 hr) Y.b_repr)) (b_one (s_ret e_bl)) b_nil))))))))))
    (b_cons (s_set 8 (e_err0 0 ErT e_str) sc_law.nd)
    (b_one (s_ret (e_and (e_cmp (op_eqD (u64 hr)) s_eq (e_call (rk := false) F__law_marks hr gd (by decide) (lets0 fun _ z => z) (a_cons (e_var 8) a_nil)) (e_op op_rep s_rep (e_fz (e_lst (a_cons e_bl a_nil))) e_int)) (e_one (e_isV ErT (e_var 8) Y.b_isinstance Y.b_ValueError)))))))), Nat.le_trans (by decide) limT_big, ?_⟩
  refine seq_gen fun nx hk => ?_
  simp only [fErr0, fErr1, WL.opIsE, WL.opIsV, WL.opXf, fSet, fSetO, fRet, fIfS, fT, fOp, fUn, fVar, fOwn, fC, fCons, fNil, fTup, fLst, fCB, fNot, fAnd, fOr, fAndV, fOrV, fNotV, fIf, fChain, fPar, fPar3, fUnp, fDrop, fStill, fNext, fFor, fForN, fRng1, fRng2, fLc, fYes, fCall, fCallK, fDisp, fPCons, fPNil, fSl, fNoO, fSomeO, fJoin, fDPut, fBrk, fCnt, fRetN, hName, hTup, hCons, hNil,
    wipeD, WL.isIn, startD, endsD, WL.isB, WL.intOf, WL.strOf, WL.seqOf, int1, int2, lstOf, tupOf, tupOf', WL.itOf, WL.ownOf, WL.opAdd, opCat, WL.opI, WL.opI0, WL.opSub, WL.opMul, WL.opDiv, WL.opMod, WL.opPow, WL.opLt, WL.opLe, WL.opGt, WL.opGe, WL.opEq, WL.opNe, WL.opIx, WL.opIn, opIsi, opIsi2, opRepr, opSl, opSlL, opJoin, uInt, WL.lenD, WL.allD, WL.anyD, WL.sumD, WL.intD, WL.listD, WL.tupleD, c2Int, tyN, isiT, WL.plain, WL.plains, WL.deep, WL.deeps, defO, XO.none, rkK,
    List.map_cons, List.map_nil, List.length_cons, List.length_nil, List.replicate, List.getElem?_cons_zero, List.getElem?_cons_succ, List.set_cons_zero, List.set_cons_succ, List.cons_append, List.nil_append, List.append_nil, Option.some.injEq, WL.Slot.imm.injEq, WL.Slot.own.injEq, exists_eq_left', exists_eq_left, reduceCtorEq, true_and, and_true, false_and, and_false, if_true, if_false, Bool.true_eq_false, Bool.false_eq_true, not_true, not_false_eq_true, sizeLine_eq, Nat.reduceAdd, Nat.reduceLeDiff, Nat.zero_add, Nat.le_refl, Int.reduceToNat, Int.reducePow, WL.plain, WL.deep, pyEq_ii, atI_0, atI_1, beq_self_eq_true, String.reduceBEq, Bool.true_or, Bool.or_true, Bool.false_or, Bool.or_false, Bool.true_and, Bool.and_true, Bool.false_and, Bool.and_false, Bool.not_true, Bool.not_false, decide_true, decide_false, Int.reduceEq, Int.reduceLT, Int.reduceLE, Int.cast_ofNat_Int, Own.con, Nat.reduceBEq]
  rw [List.length_map]
  generalize hM : (1 + if (5 : Int) < (ns.length : Nat) then (5 : Int) else (ns.length : Nat)) = M
  have hM2 : 1 ≤ M ∧ M ≤ 6 := by split at hM <;> omega
  refine ⟨by omega, by simp [rngD]; omega, forL_inv (fun ρ => ∃ (s2 s3 s4 s5 s7 s8 : Option WL.Slot), ρ = [some (.imm (.wls (ns.map D.int))), some (.imm (.tok 0)), s2, s3, s4, s5, none, s7, s8]) (fun ρ ⟨s2, s3, s4, s5, s7, s8, e⟩ => ?_) _ _ ⟨_, _, _, _, _, _, rfl⟩ fun x hx ρ nx2 ⟨s2, s3, s4, s5, s7, s8, e⟩ hk2 => ?_⟩
  · subst e
    refine hk _ ?_; clear hk; clear nx
    refine seq_gen fun nx hk => ?_
    simp only [fErr0, fErr1, WL.opIsE, WL.opIsV, WL.opXf, fSet, fSetO, fRet, fIfS, fT, fOp, fUn, fVar, fOwn, fC, fCons, fNil, fTup, fLst, fCB, fNot, fAnd, fOr, fAndV, fOrV, fNotV, fIf, fChain, fPar, fPar3, fUnp, fDrop, fStill, fNext, fFor, fForN, fRng1, fRng2, fLc, fYes, fCall, fCallK, fDisp, fPCons, fPNil, fSl, fNoO, fSomeO, fJoin, fDPut, fBrk, fCnt, fRetN, hName, hTup, hCons, hNil,
    wipeD, WL.isIn, startD, endsD, WL.isB, WL.intOf, WL.strOf, WL.seqOf, int1, int2, lstOf, tupOf, tupOf', WL.itOf, WL.ownOf, WL.opAdd, opCat, WL.opI, WL.opI0, WL.opSub, WL.opMul, WL.opDiv, WL.opMod, WL.opPow, WL.opLt, WL.opLe, WL.opGt, WL.opGe, WL.opEq, WL.opNe, WL.opIx, WL.opIn, opIsi, opIsi2, opRepr, opSl, opSlL, opJoin, uInt, WL.lenD, WL.allD, WL.anyD, WL.sumD, WL.intD, WL.listD, WL.tupleD, c2Int, tyN, isiT, WL.plain, WL.plains, WL.deep, WL.deeps, defO, XO.none, rkK,
    List.map_cons, List.map_nil, List.length_cons, List.length_nil, List.replicate, List.getElem?_cons_zero, List.getElem?_cons_succ, List.set_cons_zero, List.set_cons_succ, List.cons_append, List.nil_append, List.append_nil, Option.some.injEq, WL.Slot.imm.injEq, WL.Slot.own.injEq, exists_eq_left', exists_eq_left, reduceCtorEq, true_and, and_true, false_and, and_false, if_true, if_false, Bool.true_eq_false, Bool.false_eq_true, not_true, not_false_eq_true, sizeLine_eq, Nat.reduceAdd, Nat.reduceLeDiff, Nat.zero_add, Nat.le_refl, Int.reduceToNat, Int.reducePow, WL.plain, WL.deep, pyEq_ii, atI_0, atI_1, beq_self_eq_true, String.reduceBEq, Bool.true_or, Bool.or_true, Bool.false_or, Bool.or_false, Bool.true_and, Bool.and_true, Bool.false_and, Bool.and_false, Bool.not_true, Bool.not_false, decide_true, decide_false, Int.reduceEq, Int.reduceLT, Int.reduceLE, Int.cast_ofNat_Int, Own.con, Nat.reduceBEq]
    refine hk _ ?_; clear hk; clear nx
    simp only [fErr0, fErr1, WL.opIsE, WL.opIsV, WL.opXf, fSet, fSetO, fRet, fIfS, fT, fOp, fUn, fVar, fOwn, fC, fCons, fNil, fTup, fLst, fCB, fNot, fAnd, fOr, fAndV, fOrV, fNotV, fIf, fChain, fPar, fPar3, fUnp, fDrop, fStill, fNext, fFor, fForN, fRng1, fRng2, fLc, fYes, fCall, fCallK, fDisp, fPCons, fPNil, fSl, fNoO, fSomeO, fJoin, fDPut, fBrk, fCnt, fRetN, hName, hTup, hCons, hNil,
    wipeD, WL.isIn, startD, endsD, WL.isB, WL.intOf, WL.strOf, WL.seqOf, int1, int2, lstOf, tupOf, tupOf', WL.itOf, WL.ownOf, WL.opAdd, opCat, WL.opI, WL.opI0, WL.opSub, WL.opMul, WL.opDiv, WL.opMod, WL.opPow, WL.opLt, WL.opLe, WL.opGt, WL.opGe, WL.opEq, WL.opNe, WL.opIx, WL.opIn, opIsi, opIsi2, opRepr, opSl, opSlL, opJoin, uInt, WL.lenD, WL.allD, WL.anyD, WL.sumD, WL.intD, WL.listD, WL.tupleD, c2Int, tyN, isiT, WL.plain, WL.plains, WL.deep, WL.deeps, defO, XO.none, rkK,
    List.map_cons, List.map_nil, List.length_cons, List.length_nil, List.replicate, List.getElem?_cons_zero, List.getElem?_cons_succ, List.set_cons_zero, List.set_cons_succ, List.cons_append, List.nil_append, List.append_nil, Option.some.injEq, WL.Slot.imm.injEq, WL.Slot.own.injEq, exists_eq_left', exists_eq_left, reduceCtorEq, true_and, and_true, false_and, and_false, if_true, if_false, Bool.true_eq_false, Bool.false_eq_true, not_true, not_false_eq_true, sizeLine_eq, Nat.reduceAdd, Nat.reduceLeDiff, Nat.zero_add, Nat.le_refl, Int.reduceToNat, Int.reducePow, WL.plain, WL.deep, pyEq_ii, atI_0, atI_1, beq_self_eq_true, String.reduceBEq, Bool.true_or, Bool.or_true, Bool.false_or, Bool.or_false, Bool.true_and, Bool.and_true, Bool.false_and, Bool.and_false, Bool.not_true, Bool.not_false, decide_true, decide_false, Int.reduceEq, Int.reduceLT, Int.reduceLE, Int.cast_ofNat_Int, Own.con, Nat.reduceBEq]
    refine ⟨rfl, ⟨_, _, rfl⟩, fun d hd => ?_, fun _ z => z.elim⟩
    obtain ⟨c, fs, e, rfl⟩ := hd
    simp only [List.cons.injEq, D.exc.injEq, and_true] at e
    obtain ⟨rfl, rfl⟩ := e
    refine ⟨by decide, ⟨by decide, by decide, by decide, by decide⟩, ?_⟩
    rw [if_pos (by decide +kernel)]
    trivial
  · subst e
    simp only [fErr0, fErr1, WL.opIsE, WL.opIsV, WL.opXf, fSet, fSetO, fRet, fIfS, fT, fOp, fUn, fVar, fOwn, fC, fCons, fNil, fTup, fLst, fCB, fNot, fAnd, fOr, fAndV, fOrV, fNotV, fIf, fChain, fPar, fPar3, fUnp, fDrop, fStill, fNext, fFor, fForN, fRng1, fRng2, fLc, fYes, fCall, fCallK, fDisp, fPCons, fPNil, fSl, fNoO, fSomeO, fJoin, fDPut, fBrk, fCnt, fRetN, hName, hTup, hCons, hNil,
    wipeD, WL.isIn, startD, endsD, WL.isB, WL.intOf, WL.strOf, WL.seqOf, int1, int2, lstOf, tupOf, tupOf', WL.itOf, WL.ownOf, WL.opAdd, opCat, WL.opI, WL.opI0, WL.opSub, WL.opMul, WL.opDiv, WL.opMod, WL.opPow, WL.opLt, WL.opLe, WL.opGt, WL.opGe, WL.opEq, WL.opNe, WL.opIx, WL.opIn, opIsi, opIsi2, opRepr, opSl, opSlL, opJoin, uInt, WL.lenD, WL.allD, WL.anyD, WL.sumD, WL.intD, WL.listD, WL.tupleD, c2Int, tyN, isiT, WL.plain, WL.plains, WL.deep, WL.deeps, defO, XO.none, rkK,
    List.map_cons, List.map_nil, List.length_cons, List.length_nil, List.replicate, List.getElem?_cons_zero, List.getElem?_cons_succ, List.set_cons_zero, List.set_cons_succ, List.cons_append, List.nil_append, List.append_nil, Option.some.injEq, WL.Slot.imm.injEq, WL.Slot.own.injEq, exists_eq_left', exists_eq_left, reduceCtorEq, true_and, and_true, false_and, and_false, if_true, if_false, Bool.true_eq_false, Bool.false_eq_true, not_true, not_false_eq_true, sizeLine_eq, Nat.reduceAdd, Nat.reduceLeDiff, Nat.zero_add, Nat.le_refl, Int.reduceToNat, Int.reducePow, WL.plain, WL.deep, pyEq_ii, atI_0, atI_1, beq_self_eq_true, String.reduceBEq, Bool.true_or, Bool.or_true, Bool.false_or, Bool.or_false, Bool.true_and, Bool.and_true, Bool.false_and, Bool.and_false, Bool.not_true, Bool.not_false, decide_true, decide_false, Int.reduceEq, Int.reduceLT, Int.reduceLE, Int.cast_ofNat_Int, Own.con, Nat.reduceBEq]
    refine ⟨by simp [rngD], forL_inv (fun ρ => ∃ (s2 s3 s4 s5 s7 s8 : Option WL.Slot), ρ = [some (.imm (.wls (ns.map D.int))), some (.imm (.tok 0)), s2, s3, s4, s5, none, s7, s8]) (fun ρ ⟨s2, s3, s4, s5, s7, s8, e⟩ => ?_) _ _ ⟨_, _, _, _, _, _, rfl⟩ fun x hx ρ nx3 ⟨s2, s3, s4, s5, s7, s8, e⟩ hk3 => ?_⟩
    · subst e
      exact hk2 _ ⟨_, _, _, _, _, _, rfl⟩
    · subst e
      obtain ⟨w, rfl, h0, h1⟩ : ∃ w : Int, x = .int w ∧ 0 ≤ w ∧ w < 15 := by
        simp only [rngD, List.mem_map, List.mem_range] at hx
        obtain ⟨i, hi, e⟩ := hx
        exact ⟨0 + (i : Int), e.symm, by omega, by omega⟩
      refine seq_gen fun nx hk => ?_
      simp only [fErr0, fErr1, WL.opIsE, WL.opIsV, WL.opXf, fSet, fSetO, fRet, fIfS, fT, fOp, fUn, fVar, fOwn, fC, fCons, fNil, fTup, fLst, fCB, fNot, fAnd, fOr, fAndV, fOrV, fNotV, fIf, fChain, fPar, fPar3, fUnp, fDrop, fStill, fNext, fFor, fForN, fRng1, fRng2, fLc, fYes, fCall, fCallK, fDisp, fPCons, fPNil, fSl, fNoO, fSomeO, fJoin, fDPut, fBrk, fCnt, fRetN, hName, hTup, hCons, hNil,
    wipeD, WL.isIn, startD, endsD, WL.isB, WL.intOf, WL.strOf, WL.seqOf, int1, int2, lstOf, tupOf, tupOf', WL.itOf, WL.ownOf, WL.opAdd, opCat, WL.opI, WL.opI0, WL.opSub, WL.opMul, WL.opDiv, WL.opMod, WL.opPow, WL.opLt, WL.opLe, WL.opGt, WL.opGe, WL.opEq, WL.opNe, WL.opIx, WL.opIn, opIsi, opIsi2, opRepr, opSl, opSlL, opJoin, uInt, WL.lenD, WL.allD, WL.anyD, WL.sumD, WL.intD, WL.listD, WL.tupleD, c2Int, tyN, isiT, WL.plain, WL.plains, WL.deep, WL.deeps, defO, XO.none, rkK,
    List.map_cons, List.map_nil, List.length_cons, List.length_nil, List.replicate, List.getElem?_cons_zero, List.getElem?_cons_succ, List.set_cons_zero, List.set_cons_succ, List.cons_append, List.nil_append, List.append_nil, Option.some.injEq, WL.Slot.imm.injEq, WL.Slot.own.injEq, exists_eq_left', exists_eq_left, reduceCtorEq, true_and, and_true, false_and, and_false, if_true, if_false, Bool.true_eq_false, Bool.false_eq_true, not_true, not_false_eq_true, sizeLine_eq, Nat.reduceAdd, Nat.reduceLeDiff, Nat.zero_add, Nat.le_refl, Int.reduceToNat, Int.reducePow, WL.plain, WL.deep, pyEq_ii, atI_0, atI_1, beq_self_eq_true, String.reduceBEq, Bool.true_or, Bool.or_true, Bool.false_or, Bool.or_false, Bool.true_and, Bool.and_true, Bool.false_and, Bool.and_false, Bool.not_true, Bool.not_false, decide_true, decide_false, Int.reduceEq, Int.reduceLT, Int.reduceLE, Int.cast_ofNat_Int, Own.con, Nat.reduceBEq]
      refine ⟨rfl, rfl, fun d hd => ?_, fun _ z => z.elim⟩
      have hr := okR_of (odd_ok hd)
      clear hd
      refine hk _ ?_; clear hk; clear nx
      refine seq_gen fun nx hk => ?_
      simp only [fErr0, fErr1, WL.opIsE, WL.opIsV, WL.opXf, fSet, fSetO, fRet, fIfS, fT, fOp, fUn, fVar, fOwn, fC, fCons, fNil, fTup, fLst, fCB, fNot, fAnd, fOr, fAndV, fOrV, fNotV, fIf, fChain, fPar, fPar3, fUnp, fDrop, fStill, fNext, fFor, fForN, fRng1, fRng2, fLc, fYes, fCall, fCallK, fDisp, fPCons, fPNil, fSl, fNoO, fSomeO, fJoin, fDPut, fBrk, fCnt, fRetN, hName, hTup, hCons, hNil,
    wipeD, WL.isIn, startD, endsD, WL.isB, WL.intOf, WL.strOf, WL.seqOf, int1, int2, lstOf, tupOf, tupOf', WL.itOf, WL.ownOf, WL.opAdd, opCat, WL.opI, WL.opI0, WL.opSub, WL.opMul, WL.opDiv, WL.opMod, WL.opPow, WL.opLt, WL.opLe, WL.opGt, WL.opGe, WL.opEq, WL.opNe, WL.opIx, WL.opIn, opIsi, opIsi2, opRepr, opSl, opSlL, opJoin, uInt, WL.lenD, WL.allD, WL.anyD, WL.sumD, WL.intD, WL.listD, WL.tupleD, c2Int, tyN, isiT, WL.plain, WL.plains, WL.deep, WL.deeps, defO, XO.none, rkK,
    List.map_cons, List.map_nil, List.length_cons, List.length_nil, List.replicate, List.getElem?_cons_zero, List.getElem?_cons_succ, List.set_cons_zero, List.set_cons_succ, List.cons_append, List.nil_append, List.append_nil, Option.some.injEq, WL.Slot.imm.injEq, WL.Slot.own.injEq, exists_eq_left', exists_eq_left, reduceCtorEq, true_and, and_true, false_and, and_false, if_true, if_false, Bool.true_eq_false, Bool.false_eq_true, not_true, not_false_eq_true, sizeLine_eq, Nat.reduceAdd, Nat.reduceLeDiff, Nat.zero_add, Nat.le_refl, Int.reduceToNat, Int.reducePow, WL.plain, WL.deep, pyEq_ii, atI_0, atI_1, beq_self_eq_true, String.reduceBEq, Bool.true_or, Bool.or_true, Bool.false_or, Bool.or_false, Bool.true_and, Bool.and_true, Bool.false_and, Bool.and_false, Bool.not_true, Bool.not_false, decide_true, decide_false, Int.reduceEq, Int.reduceLT, Int.reduceLE, Int.cast_ofNat_Int, Own.con, Nat.reduceBEq]
      refine ⟨rfl, ⟨_, _, rfl, h0, h1⟩, fun e he => ?_, fun _ z => z.elim⟩
      obtain ⟨w', x', e2, rfl⟩ := he
      simp only [List.cons.injEq, D.int.injEq, and_true] at e2
      obtain ⟨rfl, rfl⟩ := e2
      refine hk _ ?_; clear hk; clear nx
      refine seq_gen fun nx hk => ?_
      simp only [fErr0, fErr1, WL.opIsE, WL.opIsV, WL.opXf, fSet, fSetO, fRet, fIfS, fT, fOp, fUn, fVar, fOwn, fC, fCons, fNil, fTup, fLst, fCB, fNot, fAnd, fOr, fAndV, fOrV, fNotV, fIf, fChain, fPar, fPar3, fUnp, fDrop, fStill, fNext, fFor, fForN, fRng1, fRng2, fLc, fYes, fCall, fCallK, fDisp, fPCons, fPNil, fSl, fNoO, fSomeO, fJoin, fDPut, fBrk, fCnt, fRetN, hName, hTup, hCons, hNil,
    wipeD, WL.isIn, startD, endsD, WL.isB, WL.intOf, WL.strOf, WL.seqOf, int1, int2, lstOf, tupOf, tupOf', WL.itOf, WL.ownOf, WL.opAdd, opCat, WL.opI, WL.opI0, WL.opSub, WL.opMul, WL.opDiv, WL.opMod, WL.opPow, WL.opLt, WL.opLe, WL.opGt, WL.opGe, WL.opEq, WL.opNe, WL.opIx, WL.opIn, opIsi, opIsi2, opRepr, opSl, opSlL, opJoin, uInt, WL.lenD, WL.allD, WL.anyD, WL.sumD, WL.intD, WL.listD, WL.tupleD, c2Int, tyN, isiT, WL.plain, WL.plains, WL.deep, WL.deeps, defO, XO.none, rkK,
    List.map_cons, List.map_nil, List.length_cons, List.length_nil, List.replicate, List.getElem?_cons_zero, List.getElem?_cons_succ, List.set_cons_zero, List.set_cons_succ, List.cons_append, List.nil_append, List.append_nil, Option.some.injEq, WL.Slot.imm.injEq, WL.Slot.own.injEq, exists_eq_left', exists_eq_left, reduceCtorEq, true_and, and_true, false_and, and_false, if_true, if_false, Bool.true_eq_false, Bool.false_eq_true, not_true, not_false_eq_true, sizeLine_eq, Nat.reduceAdd, Nat.reduceLeDiff, Nat.zero_add, Nat.le_refl, Int.reduceToNat, Int.reducePow, WL.plain, WL.deep, pyEq_ii, atI_0, atI_1, beq_self_eq_true, String.reduceBEq, Bool.true_or, Bool.or_true, Bool.false_or, Bool.or_false, Bool.true_and, Bool.and_true, Bool.false_and, Bool.and_false, Bool.not_true, Bool.not_false, decide_true, decide_false, Int.reduceEq, Int.reduceLT, Int.reduceLE, Int.cast_ofNat_Int, Own.con, Nat.reduceBEq]
      refine ⟨rfl, ⟨_, _, rfl⟩, fun e he => ?_, fun _ z => z.elim⟩
      obtain ⟨c, fs, e2, rfl⟩ := he
      simp only [errD, List.cons.injEq, D.exc.injEq, and_true] at e2
      obtain ⟨e3, _⟩ := e2
      subst e3
      refine ⟨noOwn_nil (by simp), by simp [rngD], ?_⟩
      refine lcL_rel (fun x o => o = some (atD w x)) _ _ (fun x hx Kp hk => ?_) fun ys ho => ?_
      · simp only [rngD, List.mem_map, List.mem_range] at hx
        obtain ⟨i, hi, rfl⟩ := hx
        simp only [fSeq, fErr0, fErr1, WL.opIsE, WL.opIsV, WL.opXf, fSet, fSetO, fRet, fIfS, fT, fOp, fUn, fVar, fOwn, fC, fCons, fNil, fTup, fLst, fCB, fNot, fAnd, fOr, fAndV, fOrV, fNotV, fIf, fChain, fPar, fPar3, fUnp, fDrop, fStill, fNext, fFor, fForN, fRng1, fRng2, fLc, fYes, fCall, fCallK, fDisp, fPCons, fPNil, fSl, fNoO, fSomeO, fJoin, fDPut, fBrk, fCnt, fRetN, hName, hTup, hCons, hNil,
    wipeD, WL.isIn, startD, endsD, WL.isB, WL.intOf, WL.strOf, WL.seqOf, int1, int2, lstOf, tupOf, tupOf', WL.itOf, WL.ownOf, WL.opAdd, opCat, WL.opI, WL.opI0, WL.opSub, WL.opMul, WL.opDiv, WL.opMod, WL.opPow, WL.opLt, WL.opLe, WL.opGt, WL.opGe, WL.opEq, WL.opNe, WL.opIx, WL.opIn, opIsi, opIsi2, opRepr, opSl, opSlL, opJoin, uInt, WL.lenD, WL.allD, WL.anyD, WL.sumD, WL.intD, WL.listD, WL.tupleD, c2Int, tyN, isiT, WL.plain, WL.plains, WL.deep, WL.deeps, defO, XO.none, rkK,
    List.map_cons, List.map_nil, List.length_cons, List.length_nil, List.replicate, List.getElem?_cons_zero, List.getElem?_cons_succ, List.set_cons_zero, List.set_cons_succ, List.cons_append, List.nil_append, List.append_nil, Option.some.injEq, WL.Slot.imm.injEq, WL.Slot.own.injEq, exists_eq_left', exists_eq_left, reduceCtorEq, true_and, and_true, false_and, and_false, if_true, if_false, Bool.true_eq_false, Bool.false_eq_true, not_true, not_false_eq_true, sizeLine_eq, Nat.reduceAdd, Nat.reduceLeDiff, Nat.zero_add, Nat.le_refl, Int.reduceToNat, Int.reducePow, WL.plain, WL.deep, pyEq_ii, atI_0, atI_1, beq_self_eq_true, String.reduceBEq, Bool.true_or, Bool.or_true, Bool.false_or, Bool.or_false, Bool.true_and, Bool.and_true, Bool.false_and, Bool.and_false, Bool.not_true, Bool.not_false, decide_true, decide_false, Int.reduceEq, Int.reduceLT, Int.reduceLE, Int.cast_ofNat_Int, Own.con, Nat.reduceBEq]
        exact hk _ rfl
      obtain rfl := ho.map (f := atD w) fun _ _ z => z
      rw [List.nil_append, at_marks h0]
      refine ⟨⟨rfl, rfl, Nat.le_of_ble_eq_true rfl, Nat.le_of_ble_eq_true rfl⟩, ?_⟩
      rw [marks_eq, Bool.not_true, if_neg Bool.false_ne_true]
      refine hk _ ?_; clear hk; clear nx
      refine seq_gen fun nx hk => ?_
      simp only [fErr0, fErr1, WL.opIsE, WL.opIsV, WL.opXf, fSet, fSetO, fRet, fIfS, fT, fOp, fUn, fVar, fOwn, fC, fCons, fNil, fTup, fLst, fCB, fNot, fAnd, fOr, fAndV, fOrV, fNotV, fIf, fChain, fPar, fPar3, fUnp, fDrop, fStill, fNext, fFor, fForN, fRng1, fRng2, fLc, fYes, fCall, fCallK, fDisp, fPCons, fPNil, fSl, fNoO, fSomeO, fJoin, fDPut, fBrk, fCnt, fRetN, hName, hTup, hCons, hNil,
    wipeD, WL.isIn, startD, endsD, WL.isB, WL.intOf, WL.strOf, WL.seqOf, int1, int2, lstOf, tupOf, tupOf', WL.itOf, WL.ownOf, WL.opAdd, opCat, WL.opI, WL.opI0, WL.opSub, WL.opMul, WL.opDiv, WL.opMod, WL.opPow, WL.opLt, WL.opLe, WL.opGt, WL.opGe, WL.opEq, WL.opNe, WL.opIx, WL.opIn, opIsi, opIsi2, opRepr, opSl, opSlL, opJoin, uInt, WL.lenD, WL.allD, WL.anyD, WL.sumD, WL.intD, WL.listD, WL.tupleD, c2Int, tyN, isiT, WL.plain, WL.plains, WL.deep, WL.deeps, defO, XO.none, rkK,
    List.map_cons, List.map_nil, List.length_cons, List.length_nil, List.replicate, List.getElem?_cons_zero, List.getElem?_cons_succ, List.set_cons_zero, List.set_cons_succ, List.cons_append, List.nil_append, List.append_nil, Option.some.injEq, WL.Slot.imm.injEq, WL.Slot.own.injEq, exists_eq_left', exists_eq_left, reduceCtorEq, true_and, and_true, false_and, and_false, if_true, if_false, Bool.true_eq_false, Bool.false_eq_true, not_true, not_false_eq_true, sizeLine_eq, Nat.reduceAdd, Nat.reduceLeDiff, Nat.zero_add, Nat.le_refl, Int.reduceToNat, Int.reducePow, WL.plain, WL.deep, pyEq_ii, atI_0, atI_1, beq_self_eq_true, String.reduceBEq, Bool.true_or, Bool.or_true, Bool.false_or, Bool.or_false, Bool.true_and, Bool.and_true, Bool.false_and, Bool.and_false, Bool.not_true, Bool.not_false, decide_true, decide_false, Int.reduceEq, Int.reduceLT, Int.reduceLE, Int.cast_ofNat_Int, Own.con, Nat.reduceBEq]
      show nx _
      refine hk _ ?_; clear hk; clear nx
      refine seq_gen fun nx hk => ?_
      simp only [fErr0, fErr1, WL.opIsE, WL.opIsV, WL.opXf, fSet, fSetO, fRet, fIfS, fT, fOp, fUn, fVar, fOwn, fC, fCons, fNil, fTup, fLst, fCB, fNot, fAnd, fOr, fAndV, fOrV, fNotV, fIf, fChain, fPar, fPar3, fUnp, fDrop, fStill, fNext, fFor, fForN, fRng1, fRng2, fLc, fYes, fCall, fCallK, fDisp, fPCons, fPNil, fSl, fNoO, fSomeO, fJoin, fDPut, fBrk, fCnt, fRetN, hName, hTup, hCons, hNil,
    wipeD, WL.isIn, startD, endsD, WL.isB, WL.intOf, WL.strOf, WL.seqOf, int1, int2, lstOf, tupOf, tupOf', WL.itOf, WL.ownOf, WL.opAdd, opCat, WL.opI, WL.opI0, WL.opSub, WL.opMul, WL.opDiv, WL.opMod, WL.opPow, WL.opLt, WL.opLe, WL.opGt, WL.opGe, WL.opEq, WL.opNe, WL.opIx, WL.opIn, opIsi, opIsi2, opRepr, opSl, opSlL, opJoin, uInt, WL.lenD, WL.allD, WL.anyD, WL.sumD, WL.intD, WL.listD, WL.tupleD, c2Int, tyN, isiT, WL.plain, WL.plains, WL.deep, WL.deeps, defO, XO.none, rkK,
    List.map_cons, List.map_nil, List.length_cons, List.length_nil, List.replicate, List.getElem?_cons_zero, List.getElem?_cons_succ, List.set_cons_zero, List.set_cons_succ, List.cons_append, List.nil_append, List.append_nil, Option.some.injEq, WL.Slot.imm.injEq, WL.Slot.own.injEq, exists_eq_left', exists_eq_left, reduceCtorEq, true_and, and_true, false_and, and_false, if_true, if_false, Bool.true_eq_false, Bool.false_eq_true, not_true, not_false_eq_true, sizeLine_eq, Nat.reduceAdd, Nat.reduceLeDiff, Nat.zero_add, Nat.le_refl, Int.reduceToNat, Int.reducePow, WL.plain, WL.deep, pyEq_ii, atI_0, atI_1, beq_self_eq_true, String.reduceBEq, Bool.true_or, Bool.or_true, Bool.false_or, Bool.or_false, Bool.true_and, Bool.and_true, Bool.false_and, Bool.and_false, Bool.not_true, Bool.not_false, decide_true, decide_false, Int.reduceEq, Int.reduceLT, Int.reduceLE, Int.cast_ofNat_Int, Own.con, Nat.reduceBEq]
      refine ⟨rfl, ⟨_, _, rfl, h0, h1⟩, fun e he => ?_, fun _ z => z.elim⟩
      obtain ⟨w', x', e2, rfl⟩ := he
      simp only [List.cons.injEq, D.int.injEq, and_true] at e2
      obtain ⟨e3, rfl⟩ := e2
      have e4 : heldD w x' = heldD w d := by
        simp only [errD, D.exc.injEq, true_and] at e3
        exact e3.symm
      rw [e4]
      refine hk _ ?_; clear hk; clear nx
      simp only [fErr0, fErr1, WL.opIsE, WL.opIsV, WL.opXf, fSet, fSetO, fRet, fIfS, fT, fOp, fUn, fVar, fOwn, fC, fCons, fNil, fTup, fLst, fCB, fNot, fAnd, fOr, fAndV, fOrV, fNotV, fIf, fChain, fPar, fPar3, fUnp, fDrop, fStill, fNext, fFor, fForN, fRng1, fRng2, fLc, fYes, fCall, fCallK, fDisp, fPCons, fPNil, fSl, fNoO, fSomeO, fJoin, fDPut, fBrk, fCnt, fRetN, hName, hTup, hCons, hNil,
    wipeD, WL.isIn, startD, endsD, WL.isB, WL.intOf, WL.strOf, WL.seqOf, int1, int2, lstOf, tupOf, tupOf', WL.itOf, WL.ownOf, WL.opAdd, opCat, WL.opI, WL.opI0, WL.opSub, WL.opMul, WL.opDiv, WL.opMod, WL.opPow, WL.opLt, WL.opLe, WL.opGt, WL.opGe, WL.opEq, WL.opNe, WL.opIx, WL.opIn, opIsi, opIsi2, opRepr, opSl, opSlL, opJoin, uInt, WL.lenD, WL.allD, WL.anyD, WL.sumD, WL.intD, WL.listD, WL.tupleD, c2Int, tyN, isiT, WL.plain, WL.plains, WL.deep, WL.deeps, defO, XO.none, rkK,
    List.map_cons, List.map_nil, List.length_cons, List.length_nil, List.replicate, List.getElem?_cons_zero, List.getElem?_cons_succ, List.set_cons_zero, List.set_cons_succ, List.cons_append, List.nil_append, List.append_nil, Option.some.injEq, WL.Slot.imm.injEq, WL.Slot.own.injEq, exists_eq_left', exists_eq_left, reduceCtorEq, true_and, and_true, false_and, and_false, if_true, if_false, Bool.true_eq_false, Bool.false_eq_true, not_true, not_false_eq_true, sizeLine_eq, Nat.reduceAdd, Nat.reduceLeDiff, Nat.zero_add, Nat.le_refl, Int.reduceToNat, Int.reducePow, WL.plain, WL.deep, pyEq_ii, atI_0, atI_1, beq_self_eq_true, String.reduceBEq, Bool.true_or, Bool.or_true, Bool.false_or, Bool.or_false, Bool.true_and, Bool.and_true, Bool.false_and, Bool.and_false, Bool.not_true, Bool.not_false, decide_true, decide_false, Int.reduceEq, Int.reduceLT, Int.reduceLE, Int.cast_ofNat_Int, Own.con, Nat.reduceBEq]
      have e5 : cutL [d] none (some ((heldD w d).length : Int)) = heldD w d := by unfold heldD; split <;> rfl
      have hr2 : isRefD (.lst (heldD w d)) = true ∧ plainR (.lst (heldD w d)) = true ∧ (toR (.lst (heldD w d))).showable = true ∧ (toR (.lst (heldD w d))).shown.length ≤ 16777216 ∧ (toR (.lst (heldD w d))).depth ≤ 60 ∧ PyData.strOk (toR (.lst (heldD w d))).shown = true := by
        unfold heldD
        split
        · exact hr
        · decide +kernel
      rw [e5]
      obtain ⟨r1, r2, r3, r4, r5, r6⟩ := hr2
      refine ⟨r1, r2, r3, r4, r5, r1, r2, r3, r4, r5, ⟨r6, r6⟩, ?_⟩
      rw [pyEq_ss, Bool.not_true, if_neg Bool.false_ne_true]
      exact hk3 _ ⟨_, _, _, _, _, _, rfl⟩
theorem kup : Room 5 callerA := ⟨rfl, by decide, by decide⟩
end K01
namespace K01
abbrev R : PySem.W.OpenRow := PySem.W.OpenLaw.row PySem.Challenge.rw_worthlevels_k01_errors_made
abbrev hk : PySem.W.Hook := WL.hookX 6 fx fa fn
def ob (s : PySem.W.SharedT) : WL.AlX := WL.obsXG 6 fx fa fn (HandSHeadRun.getT s)
theorem ob_eq (s : PySem.W.SharedT) : ob s = hk.obs s.abs := WL.obsXG_eq (HandSHeadRun.getT_eq s)
theorem run (w : PySem.World) : HandSHeadRun.RunEq R (PySem.W.view R.prog [27]) hk ob 8736 ["LevelError", "BadTask", "BadBacklog", "NoTask", "SameName", "NotBeginning", "BadOrder", "BadPrice", "BadFit", "TooMany", "BadNumber", "NotWoven", "OtherNames", "BadDeed", "NothingLeft", "BadText", "_law_begun", "_law_blend", "_law_take", "_law_pick", "_law_marks", "_law_attributes", "_law_made", "_law_made_later", "_law_odd"] w := by
  intro os
  kernel_rfl
end K01
open PySem PySem.W PySem.Calls PyProof.Rows
theorem PySem.Challenge.cw_worthlevels_k01_errors_made_holds : PySem.Challenge.rw_worthlevels_k01_errors_made.Holds := by
  w_on; o_law
  refine HandSHeadRun.head_any (r := OpenLaw.row PySem.Challenge.rw_worthlevels_k01_errors_made) (q := view (OpenLaw.row PySem.Challenge.rw_worthlevels_k01_errors_made).prog [27]) (H := K01.hk) (ob := K01.ob) (M := 8736) (loose := ["LevelError", "BadTask", "BadBacklog", "NoTask", "SameName", "NotBeginning", "BadOrder", "BadPrice", "BadFit", "TooMany", "BadNumber", "NotWoven", "OtherNames", "BadDeed", "NothingLeft", "BadText", "_law_begun", "_law_blend", "_law_take", "_law_pick", "_law_marks", "_law_attributes", "_law_made", "_law_made_later", "_law_odd"]) (d := HandSHeadRun.topDef (OpenLaw.row PySem.Challenge.rw_worthlevels_k01_errors_made).prog 27) (kwd := []) K01.ob_eq
    (by kernel_rfl) (fun s => by kernel_rfl) K01.run (by kernel_rfl) (by kernel_rfl) (by kernel_rfl) (by rfl) (by first | assumption | decide +kernel) (by decide +kernel) ⟨rfl, rfl, rfl, rfl, rfl, by decide +kernel⟩ ?hw ?hc
  case hw => w_witness2
  case hc =>
    refine WL.walk_ofG (l := PySem.Challenge.rw_worthlevels_k01_errors_made) (n := 63) (k := 5) (x := "_law_script") rfl (by decide) (by kernel_rfl) K01.kup ?F
    intro w mg fa h Yp Gn hmg0
    obtain ⟨K, KX, c⟩ := Yp
    have hmg : mg ("law" : PySem.Str) = some (.ref fa) := by
      have e : (HandSHeadRun.topDef (OpenLaw.row PySem.Challenge.rw_worthlevels_k01_errors_made).prog 27).name = ("law" : PySem.Str) := by kernel_rfl
      rw [← e]
      exact hmg0
    obtain ⟨fd, hb, hF⟩ := K01.facts (P := (PySem.Challenge.rw_worthlevels_k01_errors_made).prog) (w := w) KX Gn hmg c
    exact ⟨K, fd, WL.spLaw K, KX, hb, fun H a ns hl hO hS => ⟨a, ns, rfl, hS, hO, hl, fun _ => rfl⟩, hF⟩
