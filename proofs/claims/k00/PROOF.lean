import PyProof.Rows.All
import Wide.All
import OpenK.AllK
import Wide.FinOn
import HandS.ForMost
import HandS.ForExc
import HandS.Wide
import HandS.IsInst
import HandS.Style
import HandS.CallSlots
import HandS.Small
import HandS.Defaults
import PyProof.StrLaws
import KE.KStateDown
import Lean
import HandS.More
import HandS.Head0
import HandS.Head1
import HandS.Head2
import HandS.HeadEnd
import HandS.HeadHook1
import HandS.HeadHook2
import HandS.HeadHook3
import HandS.HeadHook4
import PySem.Challenge.RW_elseput_k00_names_of_letters
set_option Elab.async false
set_option linter.all false
set_option maxRecDepth 100000
set_option maxHeartbeats 4000000
/-! EvA: data by value, how the heap bears them, the state of a body. -/
namespace Ev
open PySem L2

/-- what a value is, by value; own i: (only for a moment) what the slot i owns -/
inductive D where
  | non | bl (b : Bool) | int (i : Int) | str (s : Str)
  | tup (ds : List D) | lst (ds : List D) | ro (ds : List D) | dct (ks : List Key) (ds : List D)
  | ins (c : Str) (fs : List Str) (ds : List D) | cell (l : Nat) | own (i : Nat)
  deriving Inhabited

/-- the module: its written part, what its names hold -/
structure Kx where
  K : PySem.W.Frag
  mg : Str → Option Value

def Pre (ρ ρ' : List Addr) : Prop := ∀ (l : Nat) (a : Addr), ρ[l]? = some a → ρ'[l]? = some a
theorem Pre.refl (ρ : List Addr) : Pre ρ ρ := fun _ _ h => h
theorem Pre.trans {a b c : List Addr} (x : Pre a b) (y : Pre b c) : Pre a c := fun l p h => y l p (x l p h)
theorem Pre.app (ρ r : List Addr) : Pre ρ (ρ ++ r) := fun l a h => by
  obtain ⟨hl, _⟩ := List.getElem?_eq_some_iff.mp h
  rw [List.getElem?_append_left hl]; exact h

variable (X : Kx)
mutual
def Rep (ρ : List Addr) (F : Hp) : D → V → Prop
  | .non, v => v = .non
  | .bl b, v => v = .bl b
  | .int i, v => v = .int i
  | .str s, v => v = .str s
  | .tup ds, v => ∃ a vs, v = .ref a ∧ SqT X.K F a vs ∧ Reps ρ F ds vs
  | .lst ds, v => ∃ a vs, v = .ref a ∧ F a = some (.lst vs) ∧ Reps ρ F ds vs
  | .ro ds, v => ∃ a vs, v = .ref a ∧ SqL X.K F a vs ∧ Reps ρ F ds vs
  | .dct ks ds, v => ∃ a kvs, v = .ref a ∧ F a = some (.dK kvs) ∧ kvs.map (·.1) = ks ∧ ks.Nodup ∧ Reps ρ F ds (kvs.map (·.2))
  | .ins c fs ds, v => ∃ a C dx us, v = .ref a ∧ F a = some (.ins C dx us) ∧ X.mg c = some (.ref C) ∧ us.map (·.1) = fs ∧ Reps ρ F ds (us.map (·.2))
  | .cell l, v => ∃ a, v = .ref a ∧ ρ[l]? = some a
  | .own _, _ => False
def Reps (ρ : List Addr) (F : Hp) : List D → List V → Prop
  | [], vs => vs = []
  | d :: ds, vs => ∃ v r, vs = v :: r ∧ Rep ρ F d v ∧ Reps ρ F ds r
end

/-- the part F of the heap H; only a dict may be locked for a while -/
def Le (F H : Hp) : Prop := ∀ a o, F a = some o → H a = some o ∨ ((∃ kvs, o = .dK kvs) ∧ ∃ ob, H a = some (.frz ob o))
theorem Le.refl (H : Hp) : Le H H := fun _ _ h => .inl h
theorem Same.le {F G H : Hp} (s : Same F G) (l : Le G H) : Le F H := fun a o h => l a o (s a o h)
theorem Le.tup {F H : Hp} {K : PySem.W.Frag} {a : Addr} {vs : List V} (l : Le F H) (h : SqT K F a vs) : SqT K H a vs := by
  rcases h with (h | ⟨o, h⟩) | h
  · rcases l _ _ h with q | ⟨⟨k, q⟩, _⟩
    · exact .inl (.inl q)
    · cases q
  · rcases l _ _ h with q | ⟨⟨k, q⟩, _⟩
    · exact .inl (.inr ⟨o, q⟩)
    · cases q
  · exact .inr h
theorem Le.sql {F H : Hp} {K : PySem.W.Frag} {a : Addr} {vs : List V} (l : Le F H) (h : SqL K F a vs) : SqL K H a vs := by
  rcases h with (h | ⟨o, h⟩) | h
  · rcases l _ _ h with q | ⟨⟨k, q⟩, _⟩
    · exact .inl (.inl q)
    · cases q
  · rcases l _ _ h with q | ⟨⟨k, q⟩, _⟩
    · exact .inl (.inr ⟨o, q⟩)
    · cases q
  · exact .inr h
theorem Le.lst {F H : Hp} {a : Addr} {vs : List V} (l : Le F H) (h : F a = some (.lst vs)) : H a = some (.lst vs) := by
  rcases l _ _ h with q | ⟨⟨k, q⟩, _⟩
  · exact q
  · cases q
theorem Le.ins {F H : Hp} {a C dx : Addr} {us : List (Str × V)} (l : Le F H) (h : F a = some (.ins C dx us)) : H a = some (.ins C dx us) := by
  rcases l _ _ h with q | ⟨⟨k, q⟩, _⟩
  · exact q
  · cases q
theorem Le.dk {F H : Hp} {a : Addr} {kvs : List (Key × V)} (l : Le F H) (h : F a = some (.dK kvs)) : Rd H a (.dK kvs) := by
  rcases l _ _ h with q | ⟨_, ob, q⟩
  · exact .inl q
  · exact .inr ⟨ob, q⟩
theorem Le.some {F H : Hp} {a : Addr} {o : HO} (l : Le F H) (h : F a = some o) : H a ≠ none := by
  rcases l _ _ h with q | ⟨_, ob, q⟩ <;> rw [q] <;> exact fun z => nomatch z
theorem Le.free {F H : Hp} {a : Addr} (l : Le F H) (h : H a = none) : F a = none := by
  cases q : F a with
  | none => rfl
  | some o => exact absurd h (l.some q)
theorem sqT_same {F G : Hp} {K : PySem.W.Frag} {a : Addr} {vs : List V} (l : Same F G) (h : SqT K F a vs) : SqT K G a vs := by
  rcases h with (h | ⟨o, h⟩) | h
  · exact .inl (.inl (l _ _ h))
  · exact .inl (.inr ⟨o, l _ _ h⟩)
  · exact .inr h

variable {X}
mutual
theorem Rep.mono {ρ ρ' : List Addr} {F F' : Hp} (hF : Same F F') (hρ : Pre ρ ρ') : ∀ {d : D} {v : V}, Rep X ρ F d v → Rep X ρ' F' d v
  | .non, _, h => h
  | .bl _, _, h => h
  | .int _, _, h => h
  | .str _, _, h => h
  | .tup _, _, ⟨a, vs, e, s, r⟩ => ⟨a, vs, e, sqT_same hF s, Reps.mono hF hρ r⟩
  | .lst _, _, ⟨a, vs, e, s, r⟩ => ⟨a, vs, e, hF _ _ s, Reps.mono hF hρ r⟩
  | .ro _, _, ⟨a, vs, e, s, r⟩ => ⟨a, vs, e, hF.seq s, Reps.mono hF hρ r⟩
  | .dct _ _, _, ⟨a, kvs, e, s, k, n, r⟩ => ⟨a, kvs, e, hF _ _ s, k, n, Reps.mono hF hρ r⟩
  | .ins _ _ _, _, ⟨a, C, dx, us, e, s, k, n, r⟩ => ⟨a, C, dx, us, e, hF _ _ s, k, n, Reps.mono hF hρ r⟩
  | .cell _, _, ⟨a, e, h⟩ => ⟨a, e, hρ _ _ h⟩
  | .own _, _, h => h
theorem Reps.mono {ρ ρ' : List Addr} {F F' : Hp} (hF : Same F F') (hρ : Pre ρ ρ') : ∀ {ds : List D} {vs : List V}, Reps X ρ F ds vs → Reps X ρ' F' ds vs
  | [], _, h => h
  | _ :: _, _, ⟨v, r, e, h, hr⟩ => ⟨v, r, e, Rep.mono hF hρ h, Reps.mono hF hρ hr⟩
end
theorem Reps.len {ρ : List Addr} {F : Hp} : ∀ {ds : List D} {vs : List V}, Reps X ρ F ds vs → vs.length = ds.length
  | [], _, h => by cases h; rfl
  | _ :: _, _, ⟨v, r, e, _, h⟩ => by subst e; simp [Reps.len h]
theorem Reps.get {ρ : List Addr} {F : Hp} : ∀ {ds : List D} {vs : List V} {i : Nat} {d : D}, Reps X ρ F ds vs → ds[i]? = some d → ∃ v, vs[i]? = some v ∧ Rep X ρ F d v
  | _ :: _, _, 0, _, ⟨v, r, e, h, _⟩, q => by subst e; cases q; exact ⟨v, rfl, h⟩
  | _ :: _, _, i + 1, _, ⟨v, r, e, _, h⟩, q => by subst e; exact Reps.get (i := i) h (by simpa using q)
theorem Reps.getV {ρ : List Addr} {F : Hp} {ds : List D} {vs : List V} {i : Nat} {v : V} (h : Reps X ρ F ds vs) (q : vs[i]? = some v) : ∃ d, ds[i]? = some d ∧ Rep X ρ F d v := by
  have hl := h.len
  obtain ⟨hi, _⟩ := List.getElem?_eq_some_iff.mp q
  have e : ds[i]? = some ds[i] := List.getElem?_eq_getElem (by omega)
  obtain ⟨u, hu, r⟩ := h.get e
  rw [q] at hu; cases hu
  exact ⟨_, e, r⟩
theorem Reps.app {ρ : List Addr} {F : Hp} : ∀ {ds es : List D} {vs us : List V}, Reps X ρ F ds vs → Reps X ρ F es us → Reps X ρ F (ds ++ es) (vs ++ us)
  | [], _, _, _, h, k => by cases h; exact k
  | _ :: _, _, _, _, ⟨v, r, e, h, hr⟩, k => by subst e; exact ⟨v, _, rfl, h, Reps.app hr k⟩
theorem Reps.drop {ρ : List Addr} {F : Hp} : ∀ (n : Nat) {ds : List D} {vs : List V}, Reps X ρ F ds vs → Reps X ρ F (ds.drop n) (vs.drop n)
  | 0, _, _, h => h
  | _ + 1, [], _, h => by cases h; exact rfl
  | n + 1, _ :: _, _, ⟨v, r, e, _, h⟩ => by subst e; exact Reps.drop n h
theorem Reps.take {ρ : List Addr} {F : Hp} : ∀ (n : Nat) {ds : List D} {vs : List V}, Reps X ρ F ds vs → Reps X ρ F (ds.take n) (vs.take n)
  | 0, _, _, h => rfl
  | _ + 1, [], _, h => by cases h; exact rfl
  | n + 1, _ :: _, _, ⟨v, r, e, hv, h⟩ => by subst e; exact ⟨v, _, rfl, hv, Reps.take n h⟩
theorem Reps.set {ρ : List Addr} {F : Hp} {d : D} {v : V} (hd : Rep X ρ F d v) : ∀ (n : Nat) {ds : List D} {vs : List V}, Reps X ρ F ds vs → Reps X ρ F (ds.set n d) (vs.set n v)
  | _, [], _, h => by cases h; exact rfl
  | 0, _ :: _, _, ⟨w, r, e, hv, h⟩ => by subst e; exact ⟨v, r, rfl, hd, h⟩
  | n + 1, _ :: _, _, ⟨w, r, e, hv, h⟩ => by subst e; exact ⟨w, _, rfl, hv, Reps.set hd n h⟩
theorem Reps.one {ρ : List Addr} {F : Hp} {d : D} {v : V} (h : Rep X ρ F d v) : Reps X ρ F [d] [v] := ⟨v, [], rfl, h, rfl⟩
theorem Reps.cut {ρ : List Addr} {F : Hp} {ds : List D} {vs : List V} (lo hi : Option Int) (h : Reps X ρ F ds vs) :
    Reps X ρ F ((ds.drop (HT.sIx ds.length 0 lo)).take (HT.sIx ds.length ds.length hi - HT.sIx ds.length 0 lo)) (cutV vs lo hi) := by
  unfold cutV
  rw [h.len]
  exact Reps.take _ (Reps.drop _ h)

variable (X)
/-- an object that is owned (by a slot, a cell) stands at p -/
def At (ρ : List Addr) (F H : Hp) (p : Addr) : D → Prop
  | .lst ds => ∃ vs, H p = some (.lst vs) ∧ Reps X ρ F ds vs
  | .dct ks ds => ∃ kvs, H p = some (.dK kvs) ∧ kvs.map (·.1) = ks ∧ ks.Nodup ∧ Reps X ρ F ds (kvs.map (·.2))
  | .ins c fs ds => ∃ C dx us, H p = some (.ins C dx us) ∧ X.mg c = some (.ref C) ∧ us.map (·.1) = fs ∧ Reps X ρ F ds (us.map (·.2))
  | _ => False
variable {X}
theorem At.mono {ρ ρ' : List Addr} {F F' H H' : Hp} {p : Addr} {d : D} (hF : Same F F') (hρ : Pre ρ ρ') (hH : H' p = H p) (h : At X ρ F H p d) : At X ρ' F' H' p d := by
  cases d with
  | lst ds => obtain ⟨vs, e, r⟩ := h; exact ⟨vs, hH.trans e, r.mono hF hρ⟩
  | dct ks ds => obtain ⟨kvs, e, k, n, r⟩ := h; exact ⟨kvs, hH.trans e, k, n, r.mono hF hρ⟩
  | ins c fs ds => obtain ⟨C, dx, us, e, k, n, r⟩ := h; exact ⟨C, dx, us, hH.trans e, k, n, r.mono hF hρ⟩
  | _ => exact h.elim
theorem At.some {ρ : List Addr} {F H : Hp} {p : Addr} {d : D} (h : At X ρ F H p d) : ∃ o, H p = some o ∧ ∀ ob u, o ≠ .frz ob u := by
  cases d with
  | lst ds => obtain ⟨vs, e, r⟩ := h; exact ⟨_, e, fun _ _ z => nomatch z⟩
  | dct ks ds => obtain ⟨kvs, e, _⟩ := h; exact ⟨_, e, fun _ _ z => nomatch z⟩
  | ins c fs ds => obtain ⟨C, dx, us, e, _⟩ := h; exact ⟨_, e, fun _ _ z => nomatch z⟩
  | _ => exact h.elim
theorem At.ne {ρ : List Addr} {F H : Hp} {p : Addr} {d : D} (h : At X ρ F H p d) : H p ≠ none := by
  obtain ⟨o, e, _⟩ := h.some
  rw [e]; exact fun z => nomatch z
/-- frozen: from now on it is by value -/
theorem At.freeze {ρ : List Addr} {F F' H : Hp} {p : Addr} {d : D} (h : At X ρ F H p d) (hs : Same F F') (hp : F' p = H p) : Rep X ρ F' d (.ref p) := by
  cases d with
  | lst ds => obtain ⟨vs, e, r⟩ := h; exact ⟨p, vs, rfl, hp.trans e, r.mono hs (Pre.refl _)⟩
  | dct ks ds => obtain ⟨kvs, e, k, n, r⟩ := h; exact ⟨p, kvs, rfl, hp.trans e, k, n, r.mono hs (Pre.refl _)⟩
  | ins c fs ds => obtain ⟨C, dx, us, e, k, n, r⟩ := h; exact ⟨p, C, dx, us, rfl, hp.trans e, k, n, r.mono hs (Pre.refl _)⟩
  | _ => exact h.elim

/-! ### the cells, the slots -/
/-- what a slot holds: nothing that is told, a value, an object of its own -/
inductive Sl where
  | no | val (d : D) | own (d : D)
  deriving Inhabited
structure S where
  env : List Sl
  cs : List (Option D)
variable (X)
/-- at a call. R: what is not ours; F: what is by value; ρ: where the cells are, cs: what they hold (none: not to be looked at) -/
structure RelC (R F : Hp) (ρ : List Addr) (cs : List (Option D)) (H : Hp) : Prop where
  leF : Le F H
  leR : Same R H
  dis : ∀ a, R a ≠ none → F a = none
  clen : ρ.length = cs.length
  live : ∀ (l : Nat) (a : Addr) (d : D), ρ[l]? = some a → cs[l]? = some (some d) → F a = none ∧ R a = none ∧ At X ρ F H a d
  inj : ∀ (l l' : Nat) (a : Addr) (d d' : D), ρ[l]? = some a → ρ[l']? = some a → cs[l]? = some (some d) → cs[l']? = some (some d') → l = l'
variable {X}
/-- a body's frame: the module, the rest of the heap, what was by value at the entry, the wish for exceptions -/
structure Ct where
  X : Kx
  R : Hp
  F0 : Hp
  ρ0 : List Addr
  W : WX
variable (C : Ct)
structure Rel (F : Hp) (ρ : List Addr) (s : S) (σ : St) (H : Hp) : Prop where
  sF : Same C.F0 F
  sρ : Pre C.ρ0 ρ
  c : RelC C.X C.R F ρ s.cs H
  len : σ.length = s.env.length
  val : ∀ (i : Nat) (d : D), s.env[i]? = some (.val d) → ∃ v, σ[i]? = some (some v) ∧ Rep C.X ρ F d v
  own : ∀ (i : Nat) (d : D), s.env[i]? = some (.own d) → ∃ p, σ[i]? = some (some (.ref p)) ∧ F p = none ∧ C.R p = none ∧ At C.X ρ F H p d
  oo : ∀ (i j : Nat) (d d' : D) (a : Addr), s.env[i]? = some (.own d) → s.env[j]? = some (.own d') → σ[i]? = some (some (.ref a)) → σ[j]? = some (some (.ref a)) → i = j
  oc : ∀ (i l : Nat) (d d' : D) (a : Addr), s.env[i]? = some (.own d) → σ[i]? = some (some (.ref a)) → ρ[l]? = some a → s.cs[l]? = some (some d') → False
/-- nobody knows p -/
structure Fresh (F : Hp) (ρ : List Addr) (s : S) (σ : St) (p : Addr) : Prop where
  f : F p = none
  r : C.R p = none
  c : ∀ (l : Nat) (d : D), ρ[l]? = some p → s.cs[l]? = some (some d) → False
  o : ∀ (i : Nat) (d : D), s.env[i]? = some (.own d) → σ[i]? = some (some (.ref p)) → False
variable {C}
theorem Rel.fresh {F : Hp} {ρ : List Addr} {s : S} {σ : St} {H : Hp} {p : Addr} (r : Rel C F ρ s σ H) (h : H p = none) : Fresh C F ρ s σ p where
  f := r.c.leF.free h
  r := r.c.leR.free h
  c := fun l d h1 h2 => (r.c.live l p d h1 h2).2.2.ne h
  o := fun i d h1 h2 => by
    obtain ⟨q, e, _, _, a⟩ := r.own i d h1
    rw [h2] at e; cases e
    exact a.ne h
theorem Le.upd {F H : Hp} {p : Addr} {o : HO} (l : Le F H) (h : F p = none) : Le F (upd H p o) := fun a u e => by
  have n : a ≠ p := fun z => by subst z; rw [h] at e; cases e
  rw [upd_ne n]
  exact l a u e
theorem sameUpd {F H : Hp} {p : Addr} {o : HO} (l : Same F H) (h : F p = none) : Same F (upd H p o) := fun a u e => by
  have n : a ≠ p := fun z => by subst z; rw [h] at e; cases e
  rw [upd_ne n]
  exact l a u e
theorem Same.updF {F : Hp} {p : Addr} {o : HO} (h : F p = none) : Same F (upd F p o) := fun a u e => by
  have n : a ≠ p := fun z => by subst z; rw [h] at e; cases e
  rw [upd_ne n]; exact e
/-- an object that nobody knows is laid or changed -/
theorem Rel.laid {F : Hp} {ρ : List Addr} {s : S} {σ : St} {H : Hp} {p : Addr} {o : HO} (r : Rel C F ρ s σ H) (f : Fresh C F ρ s σ p) : Rel C F ρ s σ (upd H p o) where
  sF := r.sF
  sρ := r.sρ
  c := ⟨r.c.leF.upd f.f, sameUpd r.c.leR f.r, r.c.dis, r.c.clen, fun l a d h1 h2 => by
    obtain ⟨x, y, z⟩ := r.c.live l a d h1 h2
    have n : a ≠ p := fun q => by subst q; exact f.c l d h1 h2
    exact ⟨x, y, z.mono (Same.refl _) (Pre.refl _) (upd_ne n)⟩, r.c.inj⟩
  len := r.len
  val := r.val
  own := fun i d h1 => by
    obtain ⟨q, e, x, y, z⟩ := r.own i d h1
    have n : q ≠ p := fun w => by subst w; exact f.o i d h1 e
    exact ⟨q, e, x, y, z.mono (Same.refl _) (Pre.refl _) (upd_ne n)⟩
  oo := r.oo
  oc := r.oc
theorem Fresh.laid {F : Hp} {ρ : List Addr} {s : S} {σ : St} {p : Addr} (f : Fresh C F ρ s σ p) : Fresh C F ρ s σ p := f
/-- it is by value from now on -/
theorem Rel.frozen {F : Hp} {ρ : List Addr} {s : S} {σ : St} {H : Hp} {p : Addr} {o : HO} (r : Rel C F ρ s σ H) (f : Fresh C F ρ s σ p) (h : H p = some o) : Rel C (upd F p o) ρ s σ H := by
  have sm : Same F (upd F p o) := Same.updF f.f
  refine ⟨fun a u e => sm a u (r.sF a u e), r.sρ, ⟨fun a u e => ?_, r.c.leR, fun a e => ?_, r.c.clen, fun l a d h1 h2 => ?_, r.c.inj⟩, r.len, fun i d h1 => ?_, fun i d h1 => ?_, r.oo, r.oc⟩
  · by_cases n : a = p
    · subst n; rw [upd_same] at e; cases e; exact .inl h
    · rw [upd_ne n] at e; exact r.c.leF a u e
  · by_cases n : a = p
    · subst n; exact absurd f.r e
    · rw [upd_ne n]; exact r.c.dis a e
  · obtain ⟨x, y, z⟩ := r.c.live l a d h1 h2
    have n : a ≠ p := fun q => by subst q; exact f.c l d h1 h2
    exact ⟨by rw [upd_ne n]; exact x, y, z.mono sm (Pre.refl _) rfl⟩
  · obtain ⟨v, e, x⟩ := r.val i d h1
    exact ⟨v, e, x.mono sm (Pre.refl _)⟩
  · obtain ⟨q, e, x, y, z⟩ := r.own i d h1
    have n : q ≠ p := fun w => by subst w; exact f.o i d h1 e
    exact ⟨q, e, by rw [upd_ne n]; exact x, y, z.mono sm (Pre.refl _) rfl⟩
theorem Rel.new {F : Hp} {ρ : List Addr} {s : S} {σ : St} {H : Hp} {p : Addr} {o : HO} (r : Rel C F ρ s σ H) (h : H p = none) : Rel C (upd F p o) ρ s σ (upd H p o) :=
  (r.laid (r.fresh h)).frozen (r.fresh h) upd_same
def S.put (s : S) (i : Nat) (x : Sl) : S := ⟨s.env.set i x, s.cs⟩
theorem get_set {α : Type} {l : List α} {i j : Nat} {x y : α} (h : (l.set i x)[j]? = some y) : (i = j ∧ x = y) ∨ (i ≠ j ∧ l[j]? = some y) := by
  by_cases e : i = j
  · subst e
    rw [List.getElem?_set_self'] at h
    cases q : l[i]? with
    | none => rw [q] at h; cases h
    | some z => rw [q] at h; cases h; exact .inl ⟨rfl, rfl⟩
  · rw [List.getElem?_set_ne e] at h; exact .inr ⟨e, h⟩
theorem set_get {α : Type} {l : List α} {i : Nat} {x : α} (h : i < l.length) : (l.set i x)[i]? = some x := by simp [h]
theorem lt_of_get {α : Type} {l : List α} {i : Nat} {x : α} (h : l[i]? = some x) : i < l.length := (List.getElem?_eq_some_iff.mp h).1
/-- a slot's object is by value from now on -/
theorem Rel.fix {F : Hp} {ρ : List Addr} {s : S} {σ : St} {H : Hp} {i : Nat} {d : D} (r : Rel C F ρ s σ H) (h : s.env[i]? = some (.own d)) :
    ∃ F' p, σ[i]? = some (some (.ref p)) ∧ Same F F' ∧ Rep C.X ρ F' d (.ref p) ∧ Rel C F' ρ (s.put i (.val d)) σ H := by
  obtain ⟨p, e, x, y, z⟩ := r.own i d h
  obtain ⟨o, ho, _⟩ := z.some
  have sm : Same F (upd F p o) := Same.updF x
  have rp : Rep C.X ρ (upd F p o) d (.ref p) := z.freeze sm (by rw [upd_same, ho])
  -- the slot without its object
  have r1 : Rel C F ρ (s.put i .no) σ H := by
    refine ⟨r.sF, r.sρ, r.c, by rw [r.len]; simp [S.put], fun j u h1 => ?_, fun j u h1 => ?_, fun j k u w a h1 h2 => ?_, fun j l u w a h1 => ?_⟩
    · rcases get_set h1 with ⟨_, q⟩ | ⟨_, q⟩
      · cases q
      · exact r.val j u q
    · rcases get_set h1 with ⟨_, q⟩ | ⟨_, q⟩
      · cases q
      · exact r.own j u q
    · rcases get_set h1 with ⟨_, q⟩ | ⟨_, q⟩
      · cases q
      · rcases get_set h2 with ⟨_, q'⟩ | ⟨_, q'⟩
        · cases q'
        · exact r.oo j k u w a q q'
    · rcases get_set h1 with ⟨_, q⟩ | ⟨_, q⟩
      · cases q
      · exact r.oc j l u w a q
  have f : Fresh C F ρ (s.put i .no) σ p := ⟨x, y, fun l u h1 h2 => r.oc i l d u p h e h1 h2, fun j u h1 h2 => by
    rcases get_set h1 with ⟨_, q⟩ | ⟨n, q⟩
    · cases q
    · exact n (r.oo i j d u p h q e h2)⟩
  have r2 := r1.frozen f ho
  refine ⟨_, p, e, sm, rp, ⟨r2.sF, r2.sρ, r2.c, by rw [r.len]; simp [S.put], fun j u h1 => ?_, fun j u h1 => ?_, fun j k u w a h1 h2 => ?_, fun j l u w a h1 => ?_⟩⟩
  · rcases get_set h1 with ⟨q, q'⟩ | ⟨n, q⟩
    · cases q; cases q'; exact ⟨_, e, rp⟩
    · obtain ⟨v, e', x'⟩ := r.val j u q
      exact ⟨v, e', x'.mono sm (Pre.refl _)⟩
  · rcases get_set h1 with ⟨_, q⟩ | ⟨n, q⟩
    · cases q
    · exact r2.own j u (by show (s.env.set i .no)[j]? = _; rw [List.getElem?_set_ne n]; exact q)
  · rcases get_set h1 with ⟨_, q⟩ | ⟨_, q⟩
    · cases q
    · rcases get_set h2 with ⟨_, q'⟩ | ⟨_, q'⟩
      · cases q'
      · exact r.oo j k u w a q q'
  · rcases get_set h1 with ⟨_, q⟩ | ⟨_, q⟩
    · cases q
    · exact r.oc j l u w a q
/-- a slot is set to a value -/
theorem Rel.setV {F : Hp} {ρ : List Addr} {s : S} {σ : St} {H : Hp} {d : D} {v : V} (r : Rel C F ρ s σ H) (i : Nat) (h : Rep C.X ρ F d v) : Rel C F ρ (s.put i (.val d)) (σ.set i (some v)) H := by
  refine ⟨r.sF, r.sρ, r.c, by simp [S.put, r.len], fun j u h1 => ?_, fun j u h1 => ?_, fun j k u w a h1 h2 h3 h4 => ?_, fun j l u w a h1 h2 => ?_⟩
  · rcases get_set h1 with ⟨q, q'⟩ | ⟨n, q⟩
    · cases q; cases q'
      have hl : i < σ.length := by rw [r.len]; have := lt_of_get h1; simpa [S.put] using this
      exact ⟨v, set_get hl, h⟩
    · rw [List.getElem?_set_ne n]; exact r.val j u q
  · rcases get_set h1 with ⟨_, q⟩ | ⟨n, q⟩
    · cases q
    · rw [List.getElem?_set_ne n]; exact r.own j u q
  · rcases get_set h1 with ⟨_, q⟩ | ⟨n, q⟩
    · cases q
    · rcases get_set h2 with ⟨_, q'⟩ | ⟨n', q'⟩
      · cases q'
      · rw [List.getElem?_set_ne n] at h3; rw [List.getElem?_set_ne n'] at h4
        exact r.oo j k u w a q q' h3 h4
  · rcases get_set h1 with ⟨_, q⟩ | ⟨n, q⟩
    · cases q
    · rw [List.getElem?_set_ne n] at h2; exact r.oc j l u w a q h2
/-- a slot is forgotten (or set to what is not told) -/
theorem Rel.setN {F : Hp} {ρ : List Addr} {s : S} {σ : St} {H : Hp} (r : Rel C F ρ s σ H) (i : Nat) (o : Option V) : Rel C F ρ (s.put i .no) (σ.set i o) H := by
  refine ⟨r.sF, r.sρ, r.c, by simp [S.put, r.len], fun j u h1 => ?_, fun j u h1 => ?_, fun j k u w a h1 h2 h3 h4 => ?_, fun j l u w a h1 h2 => ?_⟩
  · rcases get_set h1 with ⟨_, q⟩ | ⟨n, q⟩
    · cases q
    · rw [List.getElem?_set_ne n]; exact r.val j u q
  · rcases get_set h1 with ⟨_, q⟩ | ⟨n, q⟩
    · cases q
    · rw [List.getElem?_set_ne n]; exact r.own j u q
  · rcases get_set h1 with ⟨_, q⟩ | ⟨n, q⟩
    · cases q
    · rcases get_set h2 with ⟨_, q'⟩ | ⟨n', q'⟩
      · cases q'
      · rw [List.getElem?_set_ne n] at h3; rw [List.getElem?_set_ne n'] at h4
        exact r.oo j k u w a q q' h3 h4
  · rcases get_set h1 with ⟨_, q⟩ | ⟨n, q⟩
    · cases q
    · rw [List.getElem?_set_ne n] at h2; exact r.oc j l u w a q h2
theorem Rel.drop {F : Hp} {ρ : List Addr} {s : S} {σ : St} {H : Hp} (r : Rel C F ρ s σ H) (i : Nat) : Rel C F ρ (s.put i .no) σ H := by
  refine ⟨r.sF, r.sρ, r.c, by simp [S.put, r.len], fun j u h1 => ?_, fun j u h1 => ?_, fun j k u w a h1 h2 => ?_, fun j l u w a h1 => ?_⟩
  · rcases get_set h1 with ⟨_, q⟩ | ⟨n, q⟩
    · cases q
    · exact r.val j u q
  · rcases get_set h1 with ⟨_, q⟩ | ⟨n, q⟩
    · cases q
    · exact r.own j u q
  · rcases get_set h1 with ⟨_, q⟩ | ⟨n, q⟩
    · cases q
    · rcases get_set h2 with ⟨_, q'⟩ | ⟨n', q'⟩
      · cases q'
      · exact r.oo j k u w a q q'
  · rcases get_set h1 with ⟨_, q⟩ | ⟨n, q⟩
    · cases q
    · exact r.oc j l u w a q
/-- a slot gets a new object of its own -/
theorem Rel.setO {F : Hp} {ρ : List Addr} {s : S} {σ : St} {H : Hp} {d : D} {p : Addr} (r : Rel C F ρ s σ H) (i : Nat) (f : Fresh C F ρ s σ p) (h : At C.X ρ F H p d) : Rel C F ρ (s.put i (.own d)) (σ.set i (some (.ref p))) H := by
  refine ⟨r.sF, r.sρ, r.c, by simp [S.put, r.len], fun j u h1 => ?_, fun j u h1 => ?_, fun j k u w a h1 h2 h3 h4 => ?_, fun j l u w a h1 h2 h3 h4 => ?_⟩
  · rcases get_set h1 with ⟨_, q⟩ | ⟨n, q⟩
    · cases q
    · rw [List.getElem?_set_ne n]; exact r.val j u q
  · rcases get_set h1 with ⟨q, q'⟩ | ⟨n, q⟩
    · cases q; cases q'
      have hl : i < σ.length := by rw [r.len]; have := lt_of_get h1; simpa [S.put] using this
      exact ⟨p, set_get hl, f.f, f.r, h⟩
    · rw [List.getElem?_set_ne n]; exact r.own j u q
  · rcases get_set h3 with ⟨n, q⟩ | ⟨n, q⟩
    · cases q; subst n
      rcases get_set h4 with ⟨n', q'⟩ | ⟨n', q'⟩
      · exact n'
      · rcases get_set h2 with ⟨z, _⟩ | ⟨_, z⟩
        · exact absurd z n'
        · exact (f.o k w z q').elim
    · rcases get_set h1 with ⟨z, _⟩ | ⟨_, z⟩
      · exact absurd z n
      · rcases get_set h4 with ⟨n', q'⟩ | ⟨n', q'⟩
        · cases q'
          exact (f.o j u z q).elim
        · rcases get_set h2 with ⟨y, _⟩ | ⟨_, y⟩
          · exact absurd y n'
          · exact r.oo j k u w a z y q q'
  · rcases get_set h2 with ⟨n, q⟩ | ⟨n, q⟩
    · cases q
      exact f.c l w h3 h4
    · rcases get_set h1 with ⟨z, _⟩ | ⟨_, z⟩
      · exact absurd z n
      · exact r.oc j l u w a z q h3 h4
/-- a slot's object is changed -/
theorem Rel.mutO {F : Hp} {ρ : List Addr} {s : S} {σ : St} {H : Hp} {d d' : D} {p : Addr} {o : HO} {i : Nat} (r : Rel C F ρ s σ H) (hi : s.env[i]? = some (.own d)) (hp : σ[i]? = some (some (.ref p))) (h : At C.X ρ F (upd H p o) p d') :
    Rel C F ρ (s.put i (.own d')) σ (upd H p o) := by
  obtain ⟨q, e, x, y, z⟩ := r.own i d hi
  rw [hp] at e; cases e
  have r1 := r.drop i
  have f : Fresh C F ρ (s.put i .no) σ p := ⟨x, y, fun l u h1 h2 => r.oc i l d u p hi hp h1 h2, fun j u h1 h2 => by
    rcases get_set h1 with ⟨_, q⟩ | ⟨n, q⟩
    · cases q
    · exact n (r.oo i j d u p hi q hp h2)⟩
  have r2 := (r1.laid (o := o) f).setO i f h
  have e1 : (s.put i .no).put i (.own d') = s.put i (.own d') := by simp [S.put, List.set_set]
  have e2 : σ.set i (some (.ref p)) = σ := List.ext_getElem? fun j => by
    by_cases n : i = j
    · subst n; rw [set_get (lt_of_get hp), hp]
    · rw [List.getElem?_set_ne n]
  rw [e1, e2] at r2
  exact r2
/-- a cell's object is changed -/
theorem Rel.mutC {F : Hp} {ρ : List Addr} {s : S} {σ : St} {H : Hp} {d d' : D} {p : Addr} {o : HO} {l : Nat} (r : Rel C F ρ s σ H) (hl : s.cs[l]? = some (some d)) (hp : ρ[l]? = some p) (h : At C.X ρ F (upd H p o) p d') :
    Rel C F ρ ⟨s.env, s.cs.set l (some d')⟩ σ (upd H p o) := by
  obtain ⟨x, y, z⟩ := r.c.live l p d hp hl
  refine ⟨r.sF, r.sρ, ⟨r.c.leF.upd x, sameUpd r.c.leR y, r.c.dis, by simp [r.c.clen], fun k a u h1 h2 => ?_, fun k k' a u w h1 h2 h3 h4 => ?_⟩, r.len, r.val, fun i u h1 => ?_, r.oo, fun i k u w a h1 h2 h3 h4 => ?_⟩
  · rcases get_set h2 with ⟨n, q⟩ | ⟨n, q⟩
    · subst n; cases q; rw [hp] at h1; cases h1; exact ⟨x, y, h⟩
    · obtain ⟨x', y', z'⟩ := r.c.live k a u h1 q
      have ne : a ≠ p := fun e => by subst e; exact n (r.c.inj l k a d u hp h1 hl q)
      exact ⟨x', y', z'.mono (Same.refl _) (Pre.refl _) (upd_ne ne)⟩
  · have g : ∀ {k : Nat} {u : D}, (s.cs.set l (some d'))[k]? = some (some u) → ∃ u', s.cs[k]? = some (some u') := fun {k u} q => by
      rcases get_set q with ⟨n, q⟩ | ⟨n, q⟩
      · subst n; exact ⟨d, hl⟩
      · exact ⟨u, q⟩
    obtain ⟨u', g1⟩ := g h3
    obtain ⟨w', g2⟩ := g h4
    exact r.c.inj k k' a u' w' h1 h2 g1 g2
  · obtain ⟨q, e, x', y', z'⟩ := r.own i u h1
    have ne : q ≠ p := fun w => by subst w; exact r.oc i l u d q h1 e hp hl
    exact ⟨q, e, x', y', z'.mono (Same.refl _) (Pre.refl _) (upd_ne ne)⟩
  · rcases get_set h4 with ⟨n, q⟩ | ⟨n, q⟩
    · subst n; rw [hp] at h3; cases h3; exact r.oc i l u d p h1 h2 hp hl
    · exact r.oc i k u w a h1 h2 h3 q
/-- a new object becomes a cell -/
theorem Rel.newC {F : Hp} {ρ : List Addr} {s : S} {σ : St} {H : Hp} {d : D} {p : Addr} (r : Rel C F ρ s σ H) (f : Fresh C F ρ s σ p) (h : At C.X ρ F H p d) :
    Rel C F (ρ ++ [p]) ⟨s.env, s.cs ++ [some d]⟩ σ H := by
  have pr := Pre.app ρ [p]
  have old : ∀ {l : Nat} {a : Addr} {u : D}, (ρ ++ [p])[l]? = some a → (s.cs ++ [some d])[l]? = some (some u) → (ρ[l]? = some a ∧ s.cs[l]? = some (some u)) ∨ (l = ρ.length ∧ a = p ∧ u = d) := fun {l a u} h1 h2 => by
    by_cases n : l < ρ.length
    · rw [List.getElem?_append_left n] at h1
      rw [List.getElem?_append_left (by rw [← r.c.clen]; exact n)] at h2
      exact .inl ⟨h1, h2⟩
    · have hl := lt_of_get h1
      rw [List.length_append, List.length_singleton] at hl
      have e : l = ρ.length := by omega
      subst e
      have q1 : (ρ ++ [p])[ρ.length]? = some p := by simp
      rw [q1] at h1; cases h1
      rw [r.c.clen] at h2
      have q2 : (s.cs ++ [some d])[s.cs.length]? = some (some d) := by simp
      rw [q2] at h2; cases h2
      exact .inr ⟨rfl, rfl, rfl⟩
  refine ⟨r.sF, r.sρ.trans pr, ⟨r.c.leF, r.c.leR, r.c.dis, by simp [r.c.clen], fun l a u h1 h2 => ?_, fun l k a u w h1 h2 h3 h4 => ?_⟩, r.len, fun i u h1 => ?_, fun i u h1 => ?_, r.oo, fun i l u w a h1 h2 h3 h4 => ?_⟩
  · rcases old h1 h2 with ⟨g1, g2⟩ | ⟨_, g1, g2⟩
    · obtain ⟨x, y, z⟩ := r.c.live l a u g1 g2
      exact ⟨x, y, z.mono (Same.refl _) pr rfl⟩
    · subst g1; subst g2; exact ⟨f.f, f.r, h.mono (Same.refl _) pr rfl⟩
  · rcases old h1 h3 with ⟨g1, g2⟩ | ⟨n1, g1, g2⟩ <;> rcases old h2 h4 with ⟨g3, g4⟩ | ⟨n2, g3, g4⟩
    · exact r.c.inj l k a u w g1 g3 g2 g4
    · subst g3; exact (f.c l u g1 g2).elim
    · subst g1; exact (f.c k w g3 g4).elim
    · omega
  · obtain ⟨v, e, x⟩ := r.val i u h1
    exact ⟨v, e, x.mono (Same.refl _) pr⟩
  · obtain ⟨q, e, x, y, z⟩ := r.own i u h1
    exact ⟨q, e, x, y, z.mono (Same.refl _) pr rfl⟩
  · rcases old h3 h4 with ⟨g1, g2⟩ | ⟨_, g1, g2⟩
    · exact r.oc i l u w a h1 h2 g1 g2
    · subst g1; exact f.o i u h1 h2
end Ev
set_option Elab.async false
set_option linter.all false
set_option maxRecDepth 100000
set_option maxHeartbeats 4000000
/-! EvB: a small language of bodies, and what it does, as total functions. -/
namespace Ev
open PySem L2

structure Exn where
  c : Str
  fs : List Str
  ds : List D
inductive RE (α : Type) where
  | ok (a : α) (s : S) | exn (x : Exn) (s : S) | bad
def RE.bind {α β : Type} (r : RE α) (f : α → S → RE β) : RE β := match r with
  | .ok a s => f a s
  | .exn x s => .exn x s
  | .bad => .bad
@[simp] theorem RE.bind_ok {α β : Type} (a : α) (s : S) (f : α → S → RE β) : (RE.ok a s).bind f = f a s := rfl
@[simp] theorem RE.bind_exn {α β : Type} (x : Exn) (s : S) (f : α → S → RE β) : (RE.exn x s : RE α).bind f = .exn x s := rfl
@[simp] theorem RE.bind_bad {α β : Type} (f : α → S → RE β) : (RE.bad : RE α).bind f = .bad := rfl

/-- what a def gives back: an object of its own (true) or a value; the cells behind it (none: as they were) -/
inductive FRes where
  | ret (fresh : Bool) (d : D) (cs : Option (List (Option D)))
  | exn (x : Exn) (cs : Option (List (Option D)))
  | bad
structure Fn where
  ar : Nat
  run : List D → List (Option D) → FRes
structure G where
  fn : Str → Option Fn
  con : Str → Option D

inductive Bop where
  | add | sub | mul | fdiv | mod | pow
inductive Uop where
  | neg | len | int | list | tuple | isi (T : String)
inductive Cop where
  | eq | ne | lt | le | gt | ge | isin | notin | is | isnot
inductive Tg where
  | one (i : Nat) | two (i j : Nat) | three (i j k : Nat)
inductive Md where
  | val | own | cell
  deriving DecidableEq
mutual
inductive Ex where
  | bad
  | con (d : D) | var (i : Nat) | glob (x : Str)
  | bin (o : Bop) (a b : Ex) | cmp (o : Cop) (a b : Ex) | un (o : Uop) (a : Ex) | not (a : Ex) | and (a b : Ex) | or (a b : Ex) | ite (c a b : Ex)
  | tup (es : Exs) | lst (es : Exs) | idx (a i : Ex) | slc (kl kh : Bool) (a lo hi : Ex)
  | call (f : Str) (es : Exs)
  | lc (t : Tg) (src : Ex) (c : Ex) (e : Ex)
inductive Exs where
  | nil | cons (e : Ex) (es : Exs)
end
inductive It where
  | rng1 (a : Ex) | rng2 (a b : Ex) | seq (a : Ex)
mutual
inductive Sm where
  | bad | pass
  | set (m : Md) (i : Nat) (e : Ex) | expr (e : Ex) | ret (e : Ex) | ret0
  | ife (c : Ex) (a b : Sms) | for (t : Tg) (it : It) (b : Sms) | whl (c : Ex) (b : Sms) | brk | cont
  | app (x e : Ex) | seti (x i e : Ex) | aug (i : Nat) (o : Bop) (e : Ex) | unp (t : Tg) (e : Ex)
inductive Sms where
  | nil | cons (s : Sm) (ss : Sms)
end

/-! ### operations on what is by value -/
def okSz (n : Nat) : Bool := Nat.ble n 16777216
theorem okSz_of {n : Nat} (h : n ≤ 16777216) : okSz n = true := Nat.ble_eq.mpr h
def binD : Bop → D → D → Option (Bool × D)
  | .add, .int i, .int j => some (false, .int (i + j))
  | .add, .str a, .str b => if okSz (a.length + b.length) = true then some (false, .str (a ++ b)) else none
  | .add, .lst a, .lst b => if okSz (a.length + b.length) = true then some (true, .lst (a ++ b)) else none
  | .add, .tup (x :: a), .tup b => if okSz ((x :: a).length + b.length) = true then some (false, .tup (x :: a ++ b)) else none
  | .sub, .int i, .int j => some (false, .int (i - j))
  | .mul, .int i, .int j => if (-(2 ^ 64) < i ∧ i < 2 ^ 64) ∨ (-(2 ^ 64) < j ∧ j < 2 ^ 64) then some (false, .int (i * j)) else none
  | .fdiv, .int i, .int j => if 0 < j ∧ j.natAbs.log2 < 9000 then some (false, .int (i / j)) else none
  | .mod, .int i, .int j => if 0 < j then some (false, .int (i % j)) else none
  | .pow, .int i, .int j => if 0 ≤ j ∧ j ≤ 1000000 ∧ i.natAbs < 2 ^ 64 then some (false, .int (i ^ j.toNat)) else none
  | _, _, _ => none
/-- == of flat things; others: none -/
def eqF : D → D → Option Bool
  | .non, .non => some true
  | .int i, .int j => some (decide (i = j))
  | .bl i, .bl j => some (decide (i = j))
  | .str i, .str j => some (decide (i = j))
  | .non, .int _ => some false
  | .int _, .non => some false
  | .non, .str _ => some false
  | .str _, .non => some false
  | .non, .bl _ => some false
  | .bl _, .non => some false
  | _, _ => none
def isF : D → Bool
  | .non => true
  | .bl _ => true
  | .int _ => true
  | .str _ => true
  | _ => false
def eqFb : D → D → Bool
  | .non, .non => true
  | .bl a, .bl b => a == b
  | .bl a, .int b => (if a then 1 else 0) == b
  | .int a, .bl b => a == (if b then 1 else 0)
  | .int a, .int b => a == b
  | .str a, .str b => a == b
  | _, _ => false
def inF : D → D → Option Bool
  | .str x, .str z => match x.cps.toList with
    | [c] => some (decide (c ∈ z.cps.toList))
    | _ => none
  | d, .tup ds => if isF d = true ∧ ds.all isF = true then some (ds.any fun y => eqFb y d) else none
  | d, .lst ds => if isF d = true ∧ ds.all isF = true then some (ds.any fun y => eqFb y d) else none
  | _, _ => none
/-- is None, is True, is False -/
def isD : D → D → Option Bool
  | .own _, _ => none
  | .non, .non => some true
  | .bl a, .bl b => some (decide (a = b))
  | _, .non => some false
  | _, .bl _ => some false
  | _, _ => none
def cmpD : Cop → D → D → Option Bool
  | .eq, a, b => eqF a b
  | .ne, a, b => (eqF a b).map (!·)
  | .lt, .int i, .int j => some (decide (i < j))
  | .le, .int i, .int j => some (decide (i ≤ j))
  | .gt, .int i, .int j => some (decide (j < i))
  | .ge, .int i, .int j => some (decide (j ≤ i))
  | .isin, a, b => inF a b
  | .notin, a, b => (inF a b).map (!·)
  | .is, a, b => isD a b
  | .isnot, a, b => (isD a b).map (!·)
  | _, _, _ => none
def idxD : D → D → Option D
  | .lst ds, .int i => atI ds i
  | .tup ds, .int i => atI ds i
  | .ro ds, .int i => atI ds i
  | .str z, .int i => if okSz z.length = true then (atI z.cps.toList i).map fun c => .str ⟨#[c]⟩ else none
  | _, _ => none
def bndD : Bool → D → Option (Option Int)
  | false, _ => some none
  | true, .int i => some (some i)
  | _, _ => none
def cutD (ds : List D) (lo hi : Option Int) : List D := (ds.drop (HT.sIx ds.length 0 lo)).take (HT.sIx ds.length ds.length hi - HT.sIx ds.length 0 lo)
def slcD : D → Option Int → Option Int → Option (Bool × D)
  | .lst ds, lo, hi => some (true, .lst (cutD ds lo hi))
  | .ro ds, lo, hi => some (true, .lst (cutD ds lo hi))
  | .str z, lo, hi => if okSz z.length = true then some (false, .str (cutS z lo hi)) else none
  | _, _, _ => none
def lenD : D → Option Int
  | .lst ds => some ds.length
  | .tup ds => some ds.length
  | .ro ds => some ds.length
  | .dct ks _ => some ks.length
  | .str z => if okSz z.length = true then some z.length else none
  | _ => none
def intD : D → Option Int
  | .int i => some i
  | .bl b => some (if b then 1 else 0)
  | _ => none
def listD : D → Option (List D)
  | .lst ds => some ds
  | .tup ds => some ds
  | .ro ds => some ds
  | _ => none
def tyD : D → Option String
  | .non => some "NoneType"
  | .bl _ => some "bool"
  | .int _ => some "int"
  | .str _ => some "str"
  | .tup _ => some "tuple"
  | .lst _ => some "list"
  | .dct _ _ => some "dict"
  | _ => none
def isiT (t T : String) : Option Bool :=
  if T = "int" then some (decide (t = "int") || decide (t = "bool")) else
  if T = "bool" ∨ T = "str" ∨ T = "list" ∨ T = "tuple" ∨ T = "dict" then some (decide (t = T)) else none
def unD : Uop → D → Option (Bool × D)
  | .neg, .int i => some (false, .int (-i))
  | .neg, _ => none
  | .len, d => (lenD d).map fun n => (false, .int n)
  | .int, d => (intD d).map fun n => (false, .int n)
  | .list, d => (listD d).map fun ds => (true, .lst ds)
  | .tuple, d => (listD d).map fun ds => (false, .tup ds)
  | .isi T, d => ((tyD d).bind fun t => isiT t T).map fun b => (false, .bl b)
/-! ### the state -/
def S.at_ (s : S) (i : Nat) : Sl := (s.env[i]?).getD .no
/-- what an operand is, at the time of the operation -/
def res (s : S) : D → D
  | .own i => match s.env[i]? with
    | some (.own d) => d
    | some (.val d) => d
    | _ => .own i
  | .cell l => match s.cs[l]? with
    | some (some d) => d
    | _ => .cell l
  | d => d
/-- a value that goes on its way: an owned object is by value from now on -/
def fix (d : D) (s : S) : RE D := match d with
  | .own i => match s.env[i]? with
    | some (.own d) => .ok d (s.put i (.val d))
    | some (.val d) => .ok d s
    | _ => .bad
  | d => .ok d s
def ofO {α β : Type} (o : Option α) (s : S) (f : α → RE β) : RE β := match o with
  | some a => f a
  | none => .bad
def S.withCs (s : S) : Option (List (Option D)) → S
  | none => s
  | some cs => ⟨s.env, cs⟩
def callD (fn : Fn) (ds : List D) (s : S) : RE (Bool × D) := if ds.length = fn.ar then
      match fn.run ds s.cs with
      | .ret fr d cs => .ok (fr, d) (s.withCs cs)
      | .exn x cs => .exn x (s.withCs cs)
      | .bad => .bad
    else .bad

def setT (t : Tg) (d : D) (s : S) : Option S := match t with
  | .one i => some (s.put i (.val d))
  | .two i j => match d with
    | .tup [a, b] => some ((s.put i (.val a)).put j (.val b))
    | _ => none
  | .three i j k => match d with
    | .tup [a, b, c] => some (((s.put i (.val a)).put j (.val b)).put k (.val c))
    | _ => none
def wipeT (t : Tg) (s : S) : S := match t with
  | .one i => s.put i .no
  | .two i j => (s.put i .no).put j .no
  | .three i j k => ((s.put i .no).put j .no).put k .no
/-- a comprehension's turns -/
def lcL (t : Tg) (c : S → RE Bool) (e : S → RE D) : List D → List D → S → RE (List D)
  | [], acc, s => .ok acc s
  | d :: ds, acc, s => match setT t d (wipeT t s) with
    | none => .bad
    | some s1 => (c s1).bind fun b s2 => if b = true then (e s2).bind fun y s3 => if okSz (acc.length + 1) = true then lcL t c e ds (acc ++ [y]) (wipeT t s3) else .bad
      else lcL t c e ds acc (wipeT t s2)
def bool1 (d : D) (s : S) : RE Bool := match d with
  | .bl b => .ok b s
  | _ => .bad

/-- an operand; a value that goes on its way; a truth -/
def pP (r : RE (Bool × D)) : RE D := r.bind fun r s1 => .ok r.2 s1
def pE (r : RE (Bool × D)) : RE D := r.bind fun r s1 => fix r.2 s1
def pB (r : RE (Bool × D)) : RE Bool := r.bind fun r s1 => bool1 r.2 s1
mutual
/-- (fresh, d): fresh: a new object that nobody else knows; else a value (own i: what slot i owns) -/
def ev (g : G) : Ex → S → RE (Bool × D)
  | .bad, _ => .bad
  | .con d, s => .ok (false, d) s
  | .var i, s => match s.env[i]? with
    | some (.val d) => .ok (false, d) s
    | some (.own _) => .ok (false, .own i) s
    | _ => .bad
  | .glob x, s => ofO (g.con x) s fun d => .ok (false, d) s
  | .bin o a b, s => (pP (ev g a s)).bind fun x s1 => (pP (ev g b s1)).bind fun y s2 => ofO (binD o (res s2 x) (res s2 y)) s2 fun r => .ok r s2
  | .cmp o a b, s => (pP (ev g a s)).bind fun x s1 => (pP (ev g b s1)).bind fun y s2 => ofO (cmpD o (res s2 x) (res s2 y)) s2 fun r => .ok (false, .bl r) s2
  | .un o a, s => (pP (ev g a s)).bind fun x s1 => ofO (unD o (res s1 x)) s1 fun r => .ok r s1
  | .not a, s => (pB (ev g a s)).bind fun b s1 => .ok (false, .bl (!b)) s1
  | .and a b, s => (pB (ev g a s)).bind fun x s1 => if x = true then (pB (ev g b s1)).bind fun y s2 => .ok (false, .bl y) s2 else .ok (false, .bl false) s1
  | .or a b, s => (pB (ev g a s)).bind fun x s1 => if x = true then .ok (false, .bl true) s1 else (pB (ev g b s1)).bind fun y s2 => .ok (false, .bl y) s2
  | .ite c a b, s => (pB (ev g c s)).bind fun x s1 => if x = true then ev g a s1 else ev g b s1
  | .tup es, s => (evEs g es s).bind fun ds s1 => if okSz ds.length = true then .ok (false, .tup ds) s1 else .bad
  | .lst es, s => (evEs g es s).bind fun ds s1 => if okSz ds.length = true then .ok (true, .lst ds) s1 else .bad
  | .idx a i, s => (pP (ev g a s)).bind fun x s1 => (pP (ev g i s1)).bind fun y s2 => ofO (idxD (res s2 x) (res s2 y)) s2 fun r => .ok (false, r) s2
  | .slc kl kh a lo hi, s => (pP (ev g a s)).bind fun x s1 => (pP (ev g lo s1)).bind fun l s2 => ofO (bndD kl l) s2 fun l' =>
      (pP (ev g hi s2)).bind fun h s3 => ofO (bndD kh h) s3 fun h' => ofO (slcD (res s3 x) l' h') s3 fun r => .ok r s3
  | .call f es, s => match g.fn f with
    | none => .bad
    | some fn => (evEs g es s).bind fun ds s1 => callD fn ds s1
  | .lc t src c e, s => (pE (ev g src s)).bind fun x s1 => ofO (listD x) s1 fun ds => (lcL t (fun s => pB (ev g c s)) (fun s => pE (ev g e s)) ds [] s1).bind fun ys s2 => .ok (true, .lst ys) s2
def evEs (g : G) : Exs → S → RE (List D)
  | .nil, s => .ok [] s
  | .cons e es, s => (pE (ev g e s)).bind fun d s1 => (evEs g es s1).bind fun ds s2 => .ok (d :: ds) s2
end
end Ev
set_option Elab.async false
set_option linter.all false
set_option maxRecDepth 100000
set_option maxHeartbeats 4000000
/-! EvC: what the small language does is what the body does: expressions. -/
namespace Ev
open PySem L2

def Post {α : Type} (r : RE α) (k : α → S → Prop) (e : Exn → S → Prop) : Prop := match r with
  | .ok a s => k a s
  | .exn x s => e x s
  | .bad => False
theorem Post.bind {α β : Type} {r : RE α} {f : α → S → RE β} {k : β → S → Prop} {e : Exn → S → Prop} (h : Post (r.bind f) k e) : Post r (fun a s => Post (f a s) k e) e := by
  cases r with
  | ok a s => exact h
  | exn x s => exact h
  | bad => exact h
theorem Post.join {α β : Type} {r : RE α} {f : α → S → RE β} {k : β → S → Prop} {e : Exn → S → Prop} (h : Post r (fun a s => Post (f a s) k e) e) : Post (r.bind f) k e := by
  cases r with
  | ok a s => exact h
  | exn x s => exact h
  | bad => exact h
theorem Post.imp {α : Type} {r : RE α} {k k' : α → S → Prop} {e : Exn → S → Prop} (h : Post r k e) (f : ∀ a s, k a s → k' a s) : Post r k' e := by
  cases r with
  | ok a s => exact f _ _ h
  | exn x s => exact h
  | bad => exact h
theorem Post.ofO {α β : Type} {o : Option α} {s : S} {f : α → RE β} {k : β → S → Prop} {e : Exn → S → Prop} (h : Post (ofO o s f) k e) : ∃ a, o = some a ∧ Post (f a) k e := by
  cases o with
  | none => exact h.elim
  | some a => exact ⟨a, rfl, h⟩

/-- an exception as it lies: its class, its own dict -/
def ExnAt (X : Kx) (ρ : List Addr) (F H : Hp) (x : Exn) (c : Value) (dd : Option Addr) : Prop :=
  ∃ Ca, c = .ref Ca ∧ X.mg x.c = some (.ref Ca) ∧ (x.fs = [] ∨ ∃ a us, dd = some a ∧ H a = some (.xd us) ∧ us.map (·.1) = x.fs ∧ Reps X ρ F x.ds (us.map (·.2)))
def XP (C : Ct) (σ : St) (x : Exn) (s : S) : Prop := ∀ c dd F H ρ, Rel C F ρ s σ H → ExnAt C.X ρ F H x c dd → C.W c dd σ H
def RepT (C : Ct) (ρ : List Addr) (F : Hp) (σ : St) (d : D) (v : V) : Prop := (∃ i, d = .own i ∧ σ[i]? = some (some v)) ∨ Rep C.X ρ F d v
def RepR (C : Ct) (F : Hp) (ρ : List Addr) (s : S) (σ : St) (H : Hp) (x : Bool × D) (v : V) : Prop :=
  (x.1 = true ∧ ∃ p, v = .ref p ∧ Fresh C F ρ s σ p ∧ At C.X ρ F H p x.2) ∨ (x.1 = false ∧ RepT C ρ F σ x.2 v)

section
variable (C : Ct)
def TR (r : S → RE (Bool × D)) : TE := fun σ H Q => ∃ F ρ s, Rel C F ρ s σ H ∧ Post (r s) (fun x s' => ∀ v F' ρ' H', Rel C F' ρ' s' σ H' → Same F F' → Pre ρ ρ' → RepR C F' ρ' s' σ H' x v → Q v H') (XP C σ)
def TP (r : S → RE D) : TE := fun σ H Q => ∃ F ρ s, Rel C F ρ s σ H ∧ Post (r s) (fun x s' => ∀ v F' ρ' H', Rel C F' ρ' s' σ H' → Same F F' → Pre ρ ρ' → RepT C ρ' F' σ x v → Q v H') (XP C σ)
def TV (r : S → RE D) : TE := fun σ H Q => ∃ F ρ s, Rel C F ρ s σ H ∧ Post (r s) (fun x s' => ∀ v F' ρ' H', Rel C F' ρ' s' σ H' → Same F F' → Pre ρ ρ' → Rep C.X ρ' F' x v → Q v H') (XP C σ)
def TBl (r : S → RE Bool) : TT := fun σ H Q => ∃ F ρ s, Rel C F ρ s σ H ∧ Post (r s) (fun x s' => ∀ F' ρ' H', Rel C F' ρ' s' σ H' → Same F F' → Pre ρ ρ' → Q x H') (XP C σ)
def TVs (r : S → RE (List D)) : TA := fun σ H Q => ∃ F ρ s, Rel C F ρ s σ H ∧ Post (r s) (fun x s' => ∀ vs F' ρ' H', Rel C F' ρ' s' σ H' → Same F F' → Pre ρ ρ' → Reps C.X ρ' F' x vs → Q vs H') (XP C σ)
end
variable {C : Ct} {X : Cx}
theorem PE.imp {e : Expr} {t t' : TE} (h : PE X e t) (k : ∀ σ H Q, t' σ H Q → t σ H Q) : PE X e t' := ⟨fun pins s σ H Q I q => h.run pins s σ H Q I (k _ _ _ q)⟩
theorem PT.imp {e : Expr} {t t' : TT} (h : PT X e t) (k : ∀ σ H Q, t' σ H Q → t σ H Q) : PT X e t' := ⟨fun pins s σ H Q I q => h.run pins s σ H Q I (k _ _ _ q)⟩
theorem PA.imp {es : List Expr} {t t' : TA} (h : PA X es t) (k : ∀ σ H Q, t' σ H Q → t σ H Q) : PA X es t' := ⟨fun pos pins s σ H Q I q => h.run pos pins s σ H Q I (k _ _ _ q)⟩

theorem RepT.mono {ρ ρ' : List Addr} {F F' : Hp} {σ : St} {d : D} {v : V} (hF : Same F F') (hρ : Pre ρ ρ') (h : RepT C ρ F σ d v) : RepT C ρ' F' σ d v := h.imp id fun h => h.mono hF hρ
theorem At.own {ρ : List Addr} {F H : Hp} {p : Addr} {X : Kx} {d : D} (h : At X ρ F H p d) : (∀ i, d ≠ .own i) ∧ (∀ l, d ≠ .cell l) := by
  cases d with
  | own i => exact h.elim
  | cell i => exact h.elim
  | _ => exact ⟨(fun _ z => nomatch z), (fun _ z => nomatch z)⟩
/-- what is fresh may be taken as a value -/
theorem RepR.t {F : Hp} {ρ : List Addr} {s : S} {σ : St} {H : Hp} {x : Bool × D} {v : V} (r : Rel C F ρ s σ H) (h : RepR C F ρ s σ H x v) : ∃ F', Same F F' ∧ Rel C F' ρ s σ H ∧ RepT C ρ F' σ x.2 v := by
  rcases h with ⟨_, p, rfl, f, a⟩ | ⟨_, h⟩
  · obtain ⟨o, ho, _⟩ := a.some
    exact ⟨_, Same.updF f.f, r.frozen f ho, .inr (a.freeze (Same.updF f.f) (by rw [upd_same, ho]))⟩
  · exact ⟨F, Same.refl _, r, h⟩
theorem pP_ok {e : Expr} {r : S → RE (Bool × D)} (h : PE X e (TR C r)) : PE X e (TP C fun s => pP (r s)) :=
  PE.imp h fun σ H Q ⟨F, ρ, s, R, p⟩ => ⟨F, ρ, s, R, (Post.bind p).imp fun x s' k v F' ρ' H' R' hF hρ rv => by
    obtain ⟨F2, h2, R2, t2⟩ := rv.t R'
    exact k v F2 ρ' H' R2 (hF.trans h2) hρ t2⟩
theorem RepT.fix {F : Hp} {ρ : List Addr} {s : S} {σ : St} {H : Hp} {d : D} {v : V} {k : D → S → Prop} {e : Exn → S → Prop} (r : Rel C F ρ s σ H) (h : RepT C ρ F σ d v) (p : Post (fix d s) k e) :
    ∃ d' s' F', Same F F' ∧ Rel C F' ρ s' σ H ∧ Rep C.X ρ F' d' v ∧ k d' s' := by
  rcases h with ⟨i, rfl, hv⟩ | h
  · unfold Ev.fix at p
    dsimp only at p
    cases q : s.env[i]? with
    | none => rw [q] at p; exact p.elim
    | some x =>
      rw [q] at p
      cases x with
      | no => exact p.elim
      | val d =>
        obtain ⟨w, e1, e2⟩ := r.val i d q
        rw [hv] at e1; cases e1
        exact ⟨d, s, F, Same.refl _, r, e2, p⟩
      | own d =>
        obtain ⟨F', a, e1, e2, e3, e4⟩ := r.fix q
        rw [hv] at e1; cases e1
        exact ⟨d, _, F', e2, e4, e3, p⟩
  · have z : Post (.ok d s) k e := by
      cases d with
      | own i => exact h.elim
      | _ => exact p
    exact ⟨d, s, F, Same.refl _, r, h, z⟩
theorem pE_ok {e : Expr} {r : S → RE (Bool × D)} (h : PE X e (TR C r)) : PE X e (TV C fun s => pE (r s)) :=
  PE.imp (pP_ok h) fun σ H Q ⟨F, ρ, s, R, p⟩ => ⟨F, ρ, s, R, by
    have p2 := Post.bind p
    unfold pP
    show Post ((r s).bind _) _ _
    cases q : r s with
    | bad => rw [q] at p2; exact p2.elim
    | exn x s' => rw [q] at p2; exact p2
    | ok x s' =>
      rw [q] at p2
      intro v F' ρ' H' R' hF hρ t
      obtain ⟨d, s2, F2, h2, R2, t2, k⟩ := t.fix R' p2
      exact k v F2 ρ' H' R2 (hF.trans h2) hρ t2⟩
theorem bool1_post {d : D} {s : S} {k : Bool → S → Prop} {e : Exn → S → Prop} (h : Post (bool1 d s) k e) : ∃ b, d = .bl b ∧ k b s := by
  cases d with
  | bl b => exact ⟨b, rfl, h⟩
  | _ => exact h.elim
theorem RepT.flat {ρ : List Addr} {F : Hp} {σ : St} {d : D} {v : V} (h : RepT C ρ F σ d v) (n : ∀ i, d ≠ .own i) : Rep C.X ρ F d v := by
  rcases h with ⟨i, e, _⟩ | h
  · exact absurd e (n i)
  · exact h
/-- a test by its value -/
theorem pB_ok {e : Expr} {r : S → RE (Bool × D)} (h : PE X e (TR C r)) (he : ∀ whole, isTrue e X.env whole = (do let v ← whole; standAt e.pos; holding [v] (truthy v))) : PT X e (TBl C fun s => pB (r s)) :=
  PT.imp (pt_val (pP_ok h) he) fun σ H Q ⟨F, ρ, s, R, p⟩ => ⟨F, ρ, s, R, by
    have p2 := Post.bind p
    show Post ((r s).bind _) _ _
    cases q : r s with
    | bad => rw [q] at p2; exact p2.elim
    | exn x s' => rw [q] at p2; exact p2
    | ok x s' =>
      rw [q] at p2
      intro v F' ρ' H' R' hF hρ t
      obtain ⟨b, hb, k⟩ := bool1_post p2
      have t2 := t.flat (fun i z => by rw [hb] at z; cases z)
      rw [hb] at t2
      exact ⟨b, t2, k F' ρ' H' R' hF hρ⟩⟩

/-- the next step: from what was reached to what is asked -/
theorem TP.go {r : S → RE D} {σ : St} {F : Hp} {ρ : List Addr} {s : S} {H : Hp} {Q : VK} {β : Type} {f : D → S → RE β} {k : β → S → Prop} (R : Rel C F ρ s σ H) (p : Post ((r s).bind f) k (XP C σ))
    (n : ∀ d s' v F' ρ' H', Rel C F' ρ' s' σ H' → Same F F' → Pre ρ ρ' → RepT C ρ' F' σ d v → Post (f d s') k (XP C σ) → Q v H') : TP C r σ H Q :=
  ⟨F, ρ, s, R, (Post.bind p).imp fun d s' z v F' ρ' H' R' hF hρ t => n d s' v F' ρ' H' R' hF hρ t z⟩
theorem TV.go {r : S → RE D} {σ : St} {F : Hp} {ρ : List Addr} {s : S} {H : Hp} {Q : VK} {β : Type} {f : D → S → RE β} {k : β → S → Prop} (R : Rel C F ρ s σ H) (p : Post ((r s).bind f) k (XP C σ))
    (n : ∀ d s' v F' ρ' H', Rel C F' ρ' s' σ H' → Same F F' → Pre ρ ρ' → Rep C.X ρ' F' d v → Post (f d s') k (XP C σ) → Q v H') : TV C r σ H Q :=
  ⟨F, ρ, s, R, (Post.bind p).imp fun d s' z v F' ρ' H' R' hF hρ t => n d s' v F' ρ' H' R' hF hρ t z⟩
theorem TBl.go {r : S → RE Bool} {σ : St} {F : Hp} {ρ : List Addr} {s : S} {H : Hp} {Q : Bool → Hp → Prop} {β : Type} {f : Bool → S → RE β} {k : β → S → Prop} (R : Rel C F ρ s σ H) (p : Post ((r s).bind f) k (XP C σ))
    (n : ∀ d s' F' ρ' H', Rel C F' ρ' s' σ H' → Same F F' → Pre ρ ρ' → Post (f d s') k (XP C σ) → Q d H') : TBl C r σ H Q :=
  ⟨F, ρ, s, R, (Post.bind p).imp fun d s' z F' ρ' H' R' hF hρ => n d s' F' ρ' H' R' hF hρ z⟩
theorem TVs.go {r : S → RE (List D)} {σ : St} {F : Hp} {ρ : List Addr} {s : S} {H : Hp} {Q : List V → Hp → Prop} {β : Type} {f : List D → S → RE β} {k : β → S → Prop} (R : Rel C F ρ s σ H) (p : Post ((r s).bind f) k (XP C σ))
    (n : ∀ d s' vs F' ρ' H', Rel C F' ρ' s' σ H' → Same F F' → Pre ρ ρ' → Reps C.X ρ' F' d vs → Post (f d s') k (XP C σ) → Q vs H') : TVs C r σ H Q :=
  ⟨F, ρ, s, R, (Post.bind p).imp fun d s' z v F' ρ' H' R' hF hρ t => n d s' v F' ρ' H' R' hF hρ t z⟩

/-! ### an operand when the operation comes -/
/-- readable: by value, or an object of ours -/
def Rdy (C : Ct) (ρ : List Addr) (F H : Hp) (d : D) (v : V) : Prop := Rep C.X ρ F d v ∨ ∃ p, v = .ref p ∧ At C.X ρ F H p d
theorem RepT.rdy {F : Hp} {ρ : List Addr} {s : S} {σ : St} {H : Hp} {d : D} {v : V} (r : Rel C F ρ s σ H) (h : RepT C ρ F σ d v) : Rdy C ρ F H (res s d) v ∨ ∃ i, res s d = .own i := by
  rcases h with ⟨i, rfl, hv⟩ | h
  · unfold res
    dsimp only
    cases q : s.env[i]? with
    | none => exact .inr ⟨i, rfl⟩
    | some x =>
      cases x with
      | no => exact .inr ⟨i, rfl⟩
      | val d =>
        obtain ⟨w, e1, e2⟩ := r.val i d q
        rw [hv] at e1; cases e1
        exact .inl (.inl e2)
      | own d =>
        obtain ⟨p, e1, _, _, a⟩ := r.own i d q
        rw [hv] at e1; cases e1
        exact .inl (.inr ⟨p, rfl, a⟩)
  · left
    cases d with
    | cell l =>
      unfold res
      dsimp only
      obtain ⟨a, rfl, ha⟩ := h
      cases q : s.cs[l]? with
      | none => exact .inl ⟨a, rfl, ha⟩
      | some x =>
        cases x with
        | none => exact .inl ⟨a, rfl, ha⟩
        | some d => exact .inr ⟨a, rfl, (r.c.live l a d ha q).2.2⟩
    | own i => exact h.elim
    | _ => exact .inl h
theorem RepT.rdy' {F : Hp} {ρ : List Addr} {s : S} {σ : St} {H : Hp} {d d' : D} {v : V} (r : Rel C F ρ s σ H) (h : RepT C ρ F σ d v) (e : res s d = d') (n : ∀ i, d' ≠ .own i) : Rdy C ρ F H d' v := by
  rcases h.rdy r with h | ⟨i, h⟩
  · rw [e] at h; exact h
  · rw [e] at h; exact absurd h (n i)
variable {ρ : List Addr} {F H : Hp} {v : V}
theorem Rdy.int {i : Int} (h : Rdy C ρ F H (.int i) v) : v = .int i := by
  rcases h with h | ⟨p, _, h⟩
  · exact h
  · exact h.elim
theorem Rdy.bl {i : Bool} (h : Rdy C ρ F H (.bl i) v) : v = .bl i := by
  rcases h with h | ⟨p, _, h⟩
  · exact h
  · exact h.elim
theorem Rdy.str {i : Str} (h : Rdy C ρ F H (.str i) v) : v = .str i := by
  rcases h with h | ⟨p, _, h⟩
  · exact h
  · exact h.elim
theorem Rdy.non (h : Rdy C ρ F H .non v) : v = .non := by
  rcases h with h | ⟨p, _, h⟩
  · exact h
  · exact h.elim
theorem Rdy.lst {ds : List D} (l : Le F H) (h : Rdy C ρ F H (.lst ds) v) : ∃ a vs, v = .ref a ∧ H a = some (.lst vs) ∧ Reps C.X ρ F ds vs := by
  rcases h with ⟨a, vs, e, q, r⟩ | ⟨p, e, vs, q, r⟩
  · exact ⟨a, vs, e, l.lst q, r⟩
  · exact ⟨p, vs, e, q, r⟩
theorem Rdy.tup {ds : List D} (l : Le F H) (h : Rdy C ρ F H (.tup ds) v) : ∃ a vs, v = .ref a ∧ SqT C.X.K H a vs ∧ Reps C.X ρ F ds vs := by
  rcases h with ⟨a, vs, e, q, r⟩ | ⟨p, _, h⟩
  · exact ⟨a, vs, e, l.tup q, r⟩
  · exact h.elim
theorem Rdy.ro {ds : List D} (l : Le F H) (h : Rdy C ρ F H (.ro ds) v) : ∃ a vs, v = .ref a ∧ SqL C.X.K H a vs ∧ Reps C.X ρ F ds vs := by
  rcases h with ⟨a, vs, e, q, r⟩ | ⟨p, _, h⟩
  · exact ⟨a, vs, e, l.sql q, r⟩
  · exact h.elim
theorem Rdy.dct {ks : List Key} {ds : List D} (l : Le F H) (h : Rdy C ρ F H (.dct ks ds) v) : ∃ a kvs, v = .ref a ∧ Rd H a (.dK kvs) ∧ kvs.map (·.1) = ks ∧ ks.Nodup ∧ Reps C.X ρ F ds (kvs.map (·.2)) := by
  rcases h with ⟨a, kvs, e, q, r⟩ | ⟨p, e, kvs, q, r⟩
  · exact ⟨a, kvs, e, l.dk q, r⟩
  · exact ⟨p, kvs, e, .inl q, r⟩

/-! ### the rules -/
/-- a new frozen object, handed on -/
theorem Rel.newV {σ : St} {s : S} {p : Addr} {o : HO} {d : D} {v : V} {F0 : Hp} {ρ0 : List Addr} {k : Bool × D → S → Prop} {e : Exn → S → Prop} {Q : VK}
    (R : Rel C F ρ s σ H) (hF : Same F0 F) (hρ : Pre ρ0 ρ) (hp : H p = none) (hv : ∀ F', Same F F' → F' p = some o → Rep C.X ρ F' d (.ref p))
    (z : ∀ v F' ρ' H', Rel C F' ρ' s σ H' → Same F0 F' → Pre ρ0 ρ' → RepR C F' ρ' s σ H' (false, d) v → Q v H') : Q (.ref p) (upd H p o) :=
  z _ _ ρ _ (R.new hp) (hF.trans (Same.updF (R.c.leF.free hp))) hρ (.inr ⟨rfl, .inr (hv _ (Same.updF (R.c.leF.free hp)) upd_same)⟩)
theorem Rel.newF {σ : St} {s : S} {p : Addr} {o : HO} {d : D} {F0 : Hp} {ρ0 : List Addr} {Q : VK}
    (R : Rel C F ρ s σ H) (hF : Same F0 F) (hρ : Pre ρ0 ρ) (hp : H p = none) (hv : At C.X ρ F (upd H p o) p d)
    (z : ∀ v F' ρ' H', Rel C F' ρ' s σ H' → Same F0 F' → Pre ρ0 ρ' → RepR C F' ρ' s σ H' (true, d) v → Q v H') : Q (.ref p) (upd H p o) :=
  z _ F ρ _ (R.laid (R.fresh hp)) hF hρ (.inl ⟨rfl, p, rfl, R.fresh hp, hv⟩)
end Ev
set_option Elab.async false
set_option linter.all false
set_option maxRecDepth 100000
set_option maxHeartbeats 4000000
/-! EvC2: the rules of the expressions. -/
namespace Ev
open PySem L2
variable {C : Ct} {X : Cx}

theorem PE.never {e : Expr} {t : TE} (h : ∀ σ H Q, ¬ t σ H Q) : PE X e t := ⟨fun _ _ σ H Q _ q => (h σ H Q q).elim⟩
theorem PT.never {e : Expr} {t : TT} (h : ∀ σ H Q, ¬ t σ H Q) : PT X e t := ⟨fun _ _ σ H Q _ q => (h σ H Q q).elim⟩
theorem TR.bad {r : S → RE (Bool × D)} (h : ∀ s, r s = .bad) (σ : St) (H : Hp) (Q : VK) : ¬ TR C r σ H Q := fun ⟨_, _, s, _, p⟩ => by
  rw [h s] at p; exact p
theorem TBl.bad {r : S → RE Bool} (h : ∀ s, r s = .bad) (σ : St) (H : Hp) (Q : Bool → Hp → Prop) : ¬ TBl C r σ H Q := fun ⟨_, _, s, _, p⟩ => by
  rw [h s] at p; exact p

/-- constants -/
theorem con_ok {e : Expr} {w : V} {d : D} (h : PE X e (tC w)) (hd : ∀ ρ F, Rep C.X ρ F d w) (hn : ∀ i, d ≠ .own i) : PE X e (TR C fun s => .ok (false, d) s) :=
  PE.imp h fun σ H Q ⟨F, ρ, s, R, p⟩ => p w F ρ H R (Same.refl _) (Pre.refl _) (.inr ⟨rfl, .inr (hd ρ F)⟩)
theorem var_ok {i : Nat} {e : Expr} {g : G} (h : PE X e (tVar i)) : PE X e (TR C fun s => ev g (.var i) s) :=
  PE.imp h fun σ H Q ⟨F, ρ, s, R, p⟩ => by
    dsimp only at p; rw [ev] at p
    cases q : s.env[i]? with
    | none => simp only [q] at p; exact p.elim
    | some x =>
      simp only [q] at p
      cases x with
      | no => exact p.elim
      | val d =>
        obtain ⟨v, e1, e2⟩ := R.val i d q
        exact ⟨v, e1, p v F ρ H R (Same.refl _) (Pre.refl _) (.inr ⟨rfl, .inr e2⟩)⟩
      | own d =>
        obtain ⟨a, e1, _⟩ := R.own i d q
        exact ⟨_, e1, p _ F ρ H R (Same.refl _) (Pre.refl _) (.inr ⟨rfl, .inl ⟨i, rfl, e1⟩⟩)⟩

/-! ### two operands -/
/-- what an operation by values does -/
def OpS (C : Ct) (f : D → D → Option (Bool × D)) (r : R2) : Prop := ∀ {F : Hp} {ρ : List Addr} {s : S} {σ : St} {H : Hp} {d e z : D} {v w : V} {fr : Bool} {Q : VK}, Rel C F ρ s σ H → Rdy C ρ F H d v → Rdy C ρ F H e w → f d e = some (fr, z) →
  (∀ v' F' ρ' H', Rel C F' ρ' s σ H' → Same F F' → Pre ρ ρ' → RepR C F' ρ' s σ H' (fr, z) v' → Q v' H') → r v w H Q
theorem two_ok {a b e : Expr} {ra rb : S → RE (Bool × D)} {f : D → D → Option (Bool × D)} {r : R2} (hs : OpS C f r) (h1 : ∀ i d, f (.own i) d = none) (h2 : ∀ i d, f d (.own i) = none)
    (hr : ∀ {ta tb : TE}, PE X a ta → PE X b tb → PE X e (tOp r ta tb)) (ha : PE X a (TR C ra)) (hb : PE X b (TR C rb)) :
    PE X e (TR C fun s => (pP (ra s)).bind fun x s1 => (pP (rb s1)).bind fun y s2 => ofO (f (res s2 x) (res s2 y)) s2 fun r => .ok r s2) :=
  PE.imp (hr (pP_ok ha) (pP_ok hb)) fun σ H Q ⟨F, ρ, s, R, p⟩ =>
    TP.go R p fun x s1 v F1 ρ1 H1 R1 hF1 hρ1 t1 p1 =>
    TP.go R1 p1 fun y s2 w F2 ρ2 H2 R2 hF2 hρ2 t2 p2 => by
      obtain ⟨⟨fr, z⟩, e1, k⟩ := Post.ofO p2
      have k : ∀ v F' ρ' H', Rel C F' ρ' s2 σ H' → Same F F' → Pre ρ ρ' → RepR C F' ρ' s2 σ H' (fr, z) v → Q v H' := k
      rcases (t1.mono hF2 hρ2).rdy R2 with q1 | ⟨i, q1⟩
      · rcases t2.rdy R2 with q2 | ⟨i, q2⟩
        · exact hs R2 q1 q2 e1 fun v' F' ρ' H' R' hF hρ z => k v' F' ρ' H' R' ((hF1.trans hF2).trans hF) ((hρ1.trans hρ2).trans hρ) z
        · rw [q2, h2] at e1; cases e1
      · rw [q1, h1] at e1; cases e1
theorem binD_own1 (o : Bop) (i : Nat) (d : D) : binD o (.own i) d = none := by cases o <;> cases d <;> rfl
theorem binD_own2 (o : Bop) (i : Nat) (d : D) : binD o d (.own i) = none := by
  cases o <;> cases d <;> first | rfl | (rename_i ds; cases ds <;> rfl)
theorem szLine {n : Nat} (h : okSz n = true) : n ≤ sizeLine := by rw [sizeLine_eq]; exact Nat.ble_eq.mp h

theorem scalar {F : Hp} {ρ : List Addr} {s : S} {σ : St} {H : Hp} {z : D} {w : V} {Q : VK} (R : Rel C F ρ s σ H) (h : Rep C.X ρ F z w)
    (k : ∀ v' F' ρ' H', Rel C F' ρ' s σ H' → Same F F' → Pre ρ ρ' → RepR C F' ρ' s σ H' (false, z) v' → Q v' H') : Q w H := k w F ρ H R (Same.refl _) (Pre.refl _) (.inr ⟨rfl, .inr h⟩)

theorem sInt {F : Hp} {ρ : List Addr} {s : S} {σ : St} {H : Hp} {i : Int} {Q : VK} (R : Rel C F ρ s σ H) (k : ∀ v' F' ρ' H', Rel C F' ρ' s σ H' → Same F F' → Pre ρ ρ' → RepR C F' ρ' s σ H' (false, .int i) v' → Q v' H') : Q (.int i) H :=
  scalar R (z := .int i) (w := .int i) rfl k
theorem sStr {F : Hp} {ρ : List Addr} {s : S} {σ : St} {H : Hp} {i : Str} {Q : VK} (R : Rel C F ρ s σ H) (k : ∀ v' F' ρ' H', Rel C F' ρ' s σ H' → Same F F' → Pre ρ ρ' → RepR C F' ρ' s σ H' (false, .str i) v' → Q v' H') : Q (.str i) H :=
  scalar R (z := .str i) (w := .str i) rfl k
theorem sBl {F : Hp} {ρ : List Addr} {s : S} {σ : St} {H : Hp} {i : Bool} {Q : VK} (R : Rel C F ρ s σ H) (k : ∀ v' F' ρ' H', Rel C F' ρ' s σ H' → Same F F' → Pre ρ ρ' → RepR C F' ρ' s σ H' (false, .bl i) v' → Q v' H') : Q (.bl i) H :=
  scalar R (z := .bl i) (w := .bl i) rfl k
theorem sNon {F : Hp} {ρ : List Addr} {s : S} {σ : St} {H : Hp} {Q : VK} (R : Rel C F ρ s σ H) (k : ∀ v' F' ρ' H', Rel C F' ρ' s σ H' → Same F F' → Pre ρ ρ' → RepR C F' ρ' s σ H' (false, .non) v' → Q v' H') : Q .non H :=
  scalar R (z := .non) (w := .non) rfl k

def rAddAll (K : PySem.W.Frag) : R2 := fun x y H Q => rI0 (fun i j => .int (i + j)) x y H Q ∨ (∃ i j, x = .str i ∧ y = .str j ∧ i.length + j.length ≤ sizeLine ∧ Q (.str (i ++ j)) H) ∨ rCat x y H Q ∨ rCatT K x y H Q
theorem op_addAll : OpR X (binaryOp .Add) (rAddAll X.K) := OpR.or op_add (OpR.or op_add_str (OpR.or op_cat op_catT))
theorem add_s (hK : X.K = C.X.K) : OpS C (binD .add) (rAddAll X.K) := by
  intro F ρ s σ H d e z v w fr Q R hd he h k
  cases d with
  | int i => cases e with
    | int j =>
      cases h
      exact .inl ⟨i, j, hd.int, he.int, sInt R k⟩
    | _ => cases h
  | str a => cases e with
    | str b =>
      have h : (if okSz (a.length + b.length) = true then some (false, D.str (a ++ b)) else none) = some (fr, z) := h
      split at h
      · rename_i q
        cases h
        exact .inr (.inl ⟨a, b, hd.str, he.str, szLine q, sStr R k⟩)
      · cases h
    | _ => cases h
  | lst a => cases e with
    | lst b =>
      have h : (if okSz (a.length + b.length) = true then some (true, D.lst (a ++ b)) else none) = some (fr, z) := h
      split at h
      · rename_i q
        cases h
        obtain ⟨p1, vs, rfl, q1, r1⟩ := hd.lst R.c.leF
        obtain ⟨p2, us, rfl, q2, r2⟩ := he.lst R.c.leF
        refine .inr (.inr (.inl ⟨p1, p2, vs, us, rfl, rfl, q1, q2, by rw [r1.len, r2.len]; exact szLine q, fun p hp => ?_⟩))
        exact R.newF (d := .lst (a ++ b)) (Same.refl _) (Pre.refl _) hp ⟨_, upd_same, r1.app r2⟩ k
      · cases h
    | _ => cases h
  | tup a => cases a with
    | nil => cases e <;> cases h
    | cons x a => cases e with
      | tup b =>
        have h : (if okSz ((x :: a).length + b.length) = true then some (false, D.tup (x :: a ++ b)) else none) = some (fr, z) := h
        split at h
        · rename_i q
          cases h
          obtain ⟨p1, vs, rfl, q1, r1⟩ := hd.tup R.c.leF
          obtain ⟨p2, us, rfl, q2, r2⟩ := he.tup R.c.leF
          refine .inr (.inr (.inr ⟨p1, p2, vs, us, rfl, rfl, by rw [hK]; exact q1, by rw [hK]; exact q2, ?_, by rw [r1.len, r2.len]; exact szLine q, fun e => ?_, fun _ p hp => ?_⟩))
          · intro z; subst z; obtain ⟨_, _, z, _⟩ := r1; cases z
          · subst e
            have e2 : b = [] := by
              cases b with
              | nil => rfl
              | cons _ _ => obtain ⟨_, _, z, _⟩ := r2; cases z
            subst e2
            rw [List.append_nil] at k
            rcases hd with hd | ⟨_, _, hd⟩
            · exact scalar R hd k
            · exact hd.elim
          · exact R.newV (d := .tup (x :: a ++ b)) (e := fun _ _ => True) (k := fun _ _ => True) (v := .non) (Same.refl _) (Pre.refl _) hp (fun F' s1 h1 => ⟨p, _, rfl, .inl (.inl h1), (r1.app r2).mono s1 (Pre.refl _)⟩) k
        · cases h
      | _ => cases h
  | _ => cases e <;> cases h
theorem sub_s : OpS C (binD .sub) (rI0 fun i j => .int (i - j)) := by
  intro F ρ s σ H d e z v w fr Q R hd he h k
  cases d with
  | int i => cases e with
    | int j => cases h; exact ⟨i, j, hd.int, he.int, sInt R k⟩
    | _ => cases h
  | _ => cases e <;> cases h
theorem mul_s : OpS C (binD .mul) (rI CMul fun i j => .int (i * j)) := by
  intro F ρ s σ H d e z v w fr Q R hd he h k
  cases d with
  | int i => cases e with
    | int j =>
      have h : (if (-(2 ^ 64) < i ∧ i < 2 ^ 64) ∨ (-(2 ^ 64) < j ∧ j < 2 ^ 64) then some (false, D.int (i * j)) else none) = some (fr, z) := h
      split at h
      · rename_i q
        cases h
        exact ⟨i, j, hd.int, he.int, q, sInt R k⟩
      · cases h
    | _ => cases h
  | _ => cases e <;> cases h
theorem fdiv_s : OpS C (binD .fdiv) (rI CDivW fun i j => .int (i / j)) := by
  intro F ρ s σ H d e z v w fr Q R hd he h k
  cases d with
  | int i => cases e with
    | int j =>
      have h : (if 0 < j ∧ j.natAbs.log2 < 9000 then some (false, D.int (i / j)) else none) = some (fr, z) := h
      split at h
      · rename_i q
        cases h
        exact ⟨i, j, hd.int, he.int, q, sInt R k⟩
      · cases h
    | _ => cases h
  | _ => cases e <;> cases h
theorem mod_s : OpS C (binD .mod) (rI (fun _ j => 0 < j) fun i j => .int (i % j)) := by
  intro F ρ s σ H d e z v w fr Q R hd he h k
  cases d with
  | int i => cases e with
    | int j =>
      have h : (if 0 < j then some (false, D.int (i % j)) else none) = some (fr, z) := h
      split at h
      · rename_i q
        cases h
        exact ⟨i, j, hd.int, he.int, q, sInt R k⟩
      · cases h
    | _ => cases h
  | _ => cases e <;> cases h
theorem pow_s : OpS C (binD .pow) (rI CPow fun i j => .int (i ^ j.toNat)) := by
  intro F ρ s σ H d e z v w fr Q R hd he h k
  cases d with
  | int i => cases e with
    | int j =>
      have h : (if 0 ≤ j ∧ j ≤ 1000000 ∧ i.natAbs < 2 ^ 64 then some (false, D.int (i ^ j.toNat)) else none) = some (fr, z) := h
      split at h
      · rename_i q
        cases h
        exact ⟨i, j, hd.int, he.int, q, sInt R k⟩
      · cases h
    | _ => cases h
  | _ => cases e <;> cases h

def bopOf : Operator → Option Bop
  | .Add => some .add
  | .Sub => some .sub
  | .Mult => some .mul
  | .FloorDiv => some .fdiv
  | .Mod => some .mod
  | .Pow => some .pow
  | _ => none
theorem bin_ok {a b : Expr} {op : Operator} {o : Bop} {pos : Pos} {g : G} {ca cb : Ex} (hK : X.K = C.X.K) (ho : bopOf op = some o) (ha : PE X a (TR C (ev g ca))) (hb : PE X b (TR C (ev g cb))) : PE X (.BinOp a op b pos) (TR C (ev g (.bin o ca cb))) := by
  have e : ev g (.bin o ca cb) = fun s => (pP (ev g ca s)).bind fun x s1 => (pP (ev g cb s1)).bind fun y s2 => ofO (binD o (res s2 x) (res s2 y)) s2 fun r => .ok r s2 := by funext s; rw [ev]
  rw [e]
  cases op <;> first | (cases ho; done) | (injection ho with ho; subst ho)
  case Add => exact two_ok (add_s hK) (binD_own1 _) (binD_own2 _) (fun x y => pe_op op_addAll x y) ha hb
  case Sub => exact two_ok sub_s (binD_own1 _) (binD_own2 _) (fun x y => pe_op op_sub x y) ha hb
  case Mult => exact two_ok mul_s (binD_own1 _) (binD_own2 _) (fun x y => pe_op op_mul x y) ha hb
  case FloorDiv => exact two_ok fdiv_s (binD_own1 _) (binD_own2 _) (fun x y => pe_op op_fdivW x y) ha hb
  case Mod => exact two_ok mod_s (binD_own1 _) (binD_own2 _) (fun x y => pe_op op_mod x y) ha hb
  case Pow => exact two_ok pow_s (binD_own1 _) (binD_own2 _) (fun x y => pe_op op_pow x y) ha hb
end Ev
set_option Elab.async false
set_option linter.all false
set_option maxRecDepth 100000
set_option maxHeartbeats 4000000
/-! EvC3: comparisons, tests, and, or, not. -/
namespace Ev
open PySem L2
variable {C : Ct} {X : Cx}

/-! ### the readings, one in another -/
theorem tp_imp {r : S → RE (Bool × D)} {σ : St} {H : Hp} {Q : VK} (h : TP C (fun s => pP (r s)) σ H Q) : TR C r σ H Q := by
  obtain ⟨F, ρ, s, R, p⟩ := h
  exact ⟨F, ρ, s, R, (Post.bind p).imp fun x s' k v F' ρ' H' R' hF hρ rv => by
    obtain ⟨F2, h2, R2, t2⟩ := rv.t R'
    exact k v F2 ρ' H' R2 (hF.trans h2) hρ t2⟩
theorem tb_imp {r : S → RE (Bool × D)} {σ : St} {H : Hp} {Q : Bool → Hp → Prop} (h : TBl C (fun s => pB (r s)) σ H Q) : TR C r σ H (fun x H' => ∃ k, x = .bl k ∧ Q k H') := by
  refine tp_imp ?_
  obtain ⟨F, ρ, s, R, p⟩ := h
  refine ⟨F, ρ, s, R, ?_⟩
  have p2 := Post.bind p
  show Post ((r s).bind _) _ _
  cases q : r s with
  | bad => rw [q] at p2; exact p2.elim
  | exn x s' => rw [q] at p2; exact p2
  | ok x s' =>
    rw [q] at p2
    intro v F' ρ' H' R' hF hρ t
    obtain ⟨b, hb, k⟩ := bool1_post p2
    have t2 := t.flat (fun i z => by rw [hb] at z; cases z)
    rw [hb] at t2
    exact ⟨b, t2, k F' ρ' H' R' hF hρ⟩
theorem two_imp {ra rb : S → RE (Bool × D)} {f : D → D → Option (Bool × D)} {r : R2} (hs : OpS C f r) (h1 : ∀ i d, f (.own i) d = none) (h2 : ∀ i d, f d (.own i) = none) {σ : St} {H : Hp} {Q : VK}
    (h : TR C (fun s => (pP (ra s)).bind fun x s1 => (pP (rb s1)).bind fun y s2 => ofO (f (res s2 x) (res s2 y)) s2 fun r => .ok r s2) σ H Q) :
    tOp r (TP C fun s => pP (ra s)) (TP C fun s => pP (rb s)) σ H Q := by
  obtain ⟨F, ρ, s, R, p⟩ := h
  exact TP.go R p fun x s1 v F1 ρ1 H1 R1 hF1 hρ1 t1 p1 =>
    TP.go R1 p1 fun y s2 w F2 ρ2 H2 R2 hF2 hρ2 t2 p2 => by
      obtain ⟨⟨fr, z⟩, e1, k⟩ := Post.ofO p2
      have k : ∀ v F' ρ' H', Rel C F' ρ' s2 σ H' → Same F F' → Pre ρ ρ' → RepR C F' ρ' s2 σ H' (fr, z) v → Q v H' := k
      rcases (t1.mono hF2 hρ2).rdy R2 with q1 | ⟨i, q1⟩
      · rcases t2.rdy R2 with q2 | ⟨i, q2⟩
        · exact hs R2 q1 q2 e1 fun v' F' ρ' H' R' hF hρ z => k v' F' ρ' H' R' ((hF1.trans hF2).trans hF) ((hρ1.trans hρ2).trans hρ) z
        · rw [q2, h2] at e1; cases e1
      · rw [q1, h1] at e1; cases e1

/-! ### comparisons -/
def cmpF (o : Cop) (d e : D) : Option (Bool × D) := (cmpD o d e).map fun b => (false, .bl b)
theorem cmpF_of {o : Cop} {d e z : D} {fr : Bool} (h : cmpF o d e = some (fr, z)) : ∃ b, cmpD o d e = some b ∧ fr = false ∧ z = .bl b := by
  unfold cmpF at h
  cases q : cmpD o d e with
  | none => rw [q] at h; cases h
  | some b => rw [q] at h; cases h; exact ⟨b, rfl, rfl, rfl⟩
theorem ev_cmp (g : G) (o : Cop) (a b : Ex) : ev g (.cmp o a b) = fun s => (pP (ev g a s)).bind fun x s1 => (pP (ev g b s1)).bind fun y s2 => ofO (cmpF o (res s2 x) (res s2 y)) s2 fun r => .ok r s2 := by
  funext s
  rw [ev]
  congr 1; funext x s1; congr 1; funext y s2
  unfold cmpF
  cases cmpD o (res s2 x) (res s2 y) <;> rfl
theorem eqF_own1 (i : Nat) (d : D) : eqF (.own i) d = none := by cases d <;> rfl
theorem eqF_own2 (i : Nat) (d : D) : eqF d (.own i) = none := by cases d <;> rfl
theorem inF_own1 (i : Nat) (d : D) : inF (.own i) d = none := by cases d <;> rfl
theorem inF_own2 (i : Nat) (d : D) : inF d (.own i) = none := by cases d <;> rfl
theorem isD_own1 (i : Nat) (d : D) : isD (.own i) d = none := by cases d <;> rfl
theorem isD_own2 (i : Nat) (d : D) : isD d (.own i) = none := by cases d <;> rfl
theorem cmpF_own1 (o : Cop) (i : Nat) (d : D) : cmpF o (.own i) d = none := by
  unfold cmpF cmpD
  cases o <;> first | (simp only [eqF_own1, inF_own1, isD_own1]; rfl) | (cases d <;> rfl)
theorem cmpF_own2 (o : Cop) (i : Nat) (d : D) : cmpF o d (.own i) = none := by
  unfold cmpF cmpD
  cases o <;> first | (simp only [eqF_own2, inF_own2, isD_own2]; rfl) | (cases d <;> rfl)

section
variable {F : Hp} {ρ : List Addr} {H : Hp} {d e : D} {v w : V} {b : Bool}
theorem eqF_s (hd : Rdy C ρ F H d v) (he : Rdy C ρ F H e w) (h : eqF d e = some b) : scal v w = true ∧ decide (v = w) = b := by
  cases d <;> cases e <;> first | (cases h; done) | skip
  all_goals (cases h)
  · rw [hd.non, he.non]; exact ⟨rfl, by simp⟩
  · rw [hd.non, he.bl]; exact ⟨rfl, by simp⟩
  · rw [hd.non, he.int]; exact ⟨rfl, by simp⟩
  · rw [hd.non, he.str]; exact ⟨rfl, by simp⟩
  · rw [hd.bl, he.non]; exact ⟨rfl, by simp⟩
  · rw [hd.bl, he.bl]; exact ⟨rfl, by simp⟩
  · rw [hd.int, he.non]; exact ⟨rfl, by simp⟩
  · rw [hd.int, he.int]; exact ⟨rfl, by simp⟩
  · rw [hd.str, he.non]; exact ⟨rfl, by simp⟩
  · rw [hd.str, he.str]; exact ⟨rfl, by simp⟩
theorem isF_flat (hd : Rep C.X ρ F d v) (h : isF d = true) : flatV v = true := by
  cases d <;> first | (cases h; done) | (have hd := hd; unfold Rep at hd; subst hd; rfl)
theorem isF_all : ∀ {ds : List D} {vs : List V}, Reps C.X ρ F ds vs → ds.all isF = true → vs.all flatV = true
  | [], _, h, _ => by cases h; rfl
  | d :: ds, _, ⟨v, r, e, h, hr⟩, q => by
    subst e
    obtain ⟨q1, q2⟩ := Bool.and_eq_true_iff.mp (show (isF d && ds.all isF) = true from q)
    show (flatV v && r.all flatV) = true
    rw [isF_flat h q1, isF_all hr q2]
    rfl
theorem eqFb_s {y : D} {u : V} (hd : Rep C.X ρ F d v) (hy : Rep C.X ρ F y u) (h : isF d = true) (h' : isF y = true) : eqV u v = eqFb y d := by
  cases d <;> first | (cases h; done) | skip
  all_goals (cases y <;> first | (cases h'; done) | skip)
  all_goals (unfold Rep at hd hy; subst hd; subst hy; rfl)
theorem inF_any (hd : Rep C.X ρ F d v) (h : isF d = true) : ∀ {ds : List D} {vs : List V}, Reps C.X ρ F ds vs → ds.all isF = true → inV v vs = ds.any fun y => eqFb y d
  | [], _, h, _ => by cases h; rfl
  | e :: ds, _, ⟨w, r, q0, he, hr⟩, q => by
    subst q0
    obtain ⟨q1, q2⟩ := Bool.and_eq_true_iff.mp (show (isF e && ds.all isF) = true from q)
    show (eqV w v || inV v r) = (eqFb e d || ds.any fun y => eqFb y d)
    rw [eqFb_s hd he h q1, inF_any hd h hr q2]
end
theorem Rdy.flat {ρ : List Addr} {F H : Hp} {d : D} {v : V} (h : Rdy C ρ F H d v) (f : isF d = true) : Rep C.X ρ F d v := by
  rcases h with h | ⟨p, _, h⟩
  · exact h
  · cases d <;> first | (cases f; done) | exact h.elim
/-- in, not in -/
def rInAll (K : PySem.W.Frag) (neg : Bool) : R2 := fun x y H Q => (∃ (c : Nat) (z : Str), x = .str ⟨#[c]⟩ ∧ y = .str z ∧ Q (.bl (if neg then !decide (c ∈ z.cps.toList) else decide (c ∈ z.cps.toList))) H) ∨ rIn K neg x y H Q
theorem in_s (neg : Bool) (hK : X.K = C.X.K) {F : Hp} {ρ : List Addr} {s : S} {σ : St} {H : Hp} {d e : D} {v w : V} {b : Bool} {Q : VK} (R : Rel C F ρ s σ H) (hd : Rdy C ρ F H d v) (he : Rdy C ρ F H e w) (h : inF d e = some b)
    (k : Q (.bl (if neg then !b else b)) H) : rInAll X.K neg v w H Q := by
  cases e with
  | str z =>
    cases d with
    | str x =>
      unfold inF at h
      dsimp only at h
      obtain ⟨⟨xs⟩⟩ := x
      cases xs with
      | nil => cases h
      | cons c r => cases r with
        | nil => cases h; exact .inl ⟨c, z, hd.str, he.str, k⟩
        | cons _ _ => cases h
    | _ => cases h
  | tup ds =>
    have h : (if isF d = true ∧ ds.all isF = true then some (ds.any fun y => eqFb y d) else none) = some b := by cases d <;> exact h
    split at h
    · rename_i q
      cases h
      obtain ⟨a, vs, rfl, q1, r1⟩ := he.tup R.c.leF
      have hv := hd.flat q.1
      refine .inr ⟨a, vs, rfl, .inr (by rw [hK]; exact q1), isF_flat hv q.1, isF_all r1 q.2, ?_⟩
      rw [inF_any hv q.1 r1 q.2]; exact k
    · cases h
  | lst ds =>
    have h : (if isF d = true ∧ ds.all isF = true then some (ds.any fun y => eqFb y d) else none) = some b := by cases d <;> exact h
    split at h
    · rename_i q
      cases h
      obtain ⟨a, vs, rfl, q1, r1⟩ := he.lst R.c.leF
      have hv := hd.flat q.1
      refine .inr ⟨a, vs, rfl, .inl (.inl (.inl q1)), isF_flat hv q.1, isF_all r1 q.2, ?_⟩
      rw [inF_any hv q.1 r1 q.2]; exact k
    · cases h
  | _ => cases d <;> cases h
theorem op_inAll : OpR X (compareOp .In) (rInAll X.K false) := OpR.or (fun pins s σ H x y v u Q I rx ry h => op_in_sign pins s σ H x y v u Q I rx ry h) op_in_seq
theorem op_notInAll : OpR X (compareOp .NotIn) (rInAll X.K true) := OpR.or (fun pins s σ H x y v u Q I rx ry h => op_notIn_sign pins s σ H x y v u Q I rx ry h) op_notIn_seq
/-- is None, is True, is False -/
def rIsC (neg : Bool) : R2 := fun x y H Q => (y = .non ∨ ∃ b, y = .bl b) ∧ Q (.bl (if neg then !decide (x = y) else decide (x = y))) H
theorem rel_beq {x y : V} {v u : Value} (rx : RelV x v) (ry : RelV y u) (h : y = .non ∨ ∃ b, y = .bl b) : plainIs v u = true ∧ (v == u) = decide (x = y) := by
  rcases h with rfl | ⟨b, rfl⟩
  · cases ry
    cases x <;> first | (cases rx; exact ⟨rfl, by simp⟩) | (obtain ⟨t, rfl⟩ := rx; exact ⟨rfl, by simp⟩)
  · cases ry
    cases x <;> first | (cases rx; exact ⟨rfl, by rw [Bool.eq_iff_iff]; simp⟩) | (obtain ⟨t, rfl⟩ := rx; exact ⟨rfl, by simp⟩)
theorem op_isC : OpR X (compareOp .Is) (rIsC false) := by
  intro pins s σ H x y v u Q I rx ry ⟨h, q⟩
  obtain ⟨p, e⟩ := rel_beq rx ry h
  exact wpAny_is_plain p ⟨.bl _, H, I, by rw [e]; rfl, q⟩
theorem op_notC : OpR X (compareOp .IsNot) (rIsC true) := by
  intro pins s σ H x y v u Q I rx ry ⟨h, q⟩
  obtain ⟨p, e⟩ := rel_beq rx ry h
  exact wpAny_isNot_plain p ⟨.bl _, H, I, by rw [e]; rfl, q⟩
theorem isD_s {F : Hp} {ρ : List Addr} {H : Hp} {d e : D} {v w : V} {b : Bool} (hd : Rdy C ρ F H d v) (he : Rdy C ρ F H e w) (h : isD d e = some b) : (w = .non ∨ ∃ b, w = .bl b) ∧ decide (v = w) = b := by
  have ref : ∀ {a : Addr}, v = .ref a → (w = .non ∨ ∃ b, w = .bl b) → decide (v = w) = false := fun e q => by
    subst e
    rcases q with rfl | ⟨b, rfl⟩ <;> simp
  have isRef : (∃ a, v = .ref a) ∨ d = .non ∨ (∃ b, d = .bl b) ∨ (∃ i, d = .int i) ∨ (∃ x, d = .str x) ∨ (∃ i, d = .own i) := by
    rcases hd with hd | ⟨p, e, _⟩
    · cases d with
      | tup ds => obtain ⟨a, _, e, _⟩ := hd; exact .inl ⟨a, e⟩
      | lst ds => obtain ⟨a, _, e, _⟩ := hd; exact .inl ⟨a, e⟩
      | ro ds => obtain ⟨a, _, e, _⟩ := hd; exact .inl ⟨a, e⟩
      | dct ks ds => obtain ⟨a, _, e, _⟩ := hd; exact .inl ⟨a, e⟩
      | ins c fs ds => obtain ⟨a, _, _, _, e, _⟩ := hd; exact .inl ⟨a, e⟩
      | cell l => obtain ⟨a, e, _⟩ := hd; exact .inl ⟨a, e⟩
      | non => exact .inr (.inl rfl)
      | bl b => exact .inr (.inr (.inl ⟨b, rfl⟩))
      | int i => exact .inr (.inr (.inr (.inl ⟨i, rfl⟩)))
      | str x => exact .inr (.inr (.inr (.inr (.inl ⟨x, rfl⟩))))
      | own i => exact hd.elim
    · exact .inl ⟨p, e⟩
  cases e <;> first | (cases d <;> cases h; done) | skip
  · have ew := he.non
    refine ⟨.inl ew, ?_⟩
    rcases isRef with ⟨a, q⟩ | rfl | ⟨_, rfl⟩ | ⟨_, rfl⟩ | ⟨_, rfl⟩ | ⟨_, rfl⟩
    · rw [ref q (.inl ew)]
      cases d <;> first | (cases h; done) | (cases h; rfl) | (have z : v = .non := hd.non; rw [z] at q; cases q)
    · cases h; rw [hd.non, ew]; simp
    · cases h; rw [hd.bl, ew]; simp
    · cases h; rw [hd.int, ew]; simp
    · cases h; rw [hd.str, ew]; simp
    · cases h
  · have ew := he.bl
    refine ⟨.inr ⟨_, ew⟩, ?_⟩
    rcases isRef with ⟨a, q⟩ | rfl | ⟨_, rfl⟩ | ⟨_, rfl⟩ | ⟨_, rfl⟩ | ⟨_, rfl⟩
    · rw [ref q (.inr ⟨_, ew⟩)]
      cases d <;> first | (cases h; done) | (cases h; rfl) | (have z : v = .bl _ := hd.bl; rw [z] at q; cases q)
    · cases h; rw [hd.non, ew]; simp
    · cases h; rw [hd.bl, ew]; simp
    · cases h; rw [hd.int, ew]; simp
    · cases h; rw [hd.str, ew]; simp
    · cases h

def copOf : CmpOp → Cop
  | .Eq => .eq
  | .NotEq => .ne
  | .Lt => .lt
  | .LtE => .le
  | .Gt => .gt
  | .GtE => .ge
  | .In => .isin
  | .NotIn => .notin
  | .Is => .is
  | .IsNot => .isnot
def rCmp (K : PySem.W.Frag) : CmpOp → R2
  | .Eq => rEq
  | .NotEq => rNe
  | .Lt => rI0 fun i j => .bl (decide (i < j))
  | .LtE => rI0 fun i j => .bl (decide (i ≤ j))
  | .Gt => rI0 fun i j => .bl (decide (j < i))
  | .GtE => rI0 fun i j => .bl (decide (j ≤ i))
  | .In => rInAll K false
  | .NotIn => rInAll K true
  | .Is => rIsC false
  | .IsNot => rIsC true
theorem rCmp_ok (op : CmpOp) : OpR X (compareOp op) (rCmp X.K op) := by
  cases op
  · exact op_eq
  · exact op_ne
  · exact op_lt
  · exact op_le
  · exact op_gt
  · exact op_ge
  · exact op_isC
  · exact op_notC
  · exact op_inAll
  · exact op_notInAll
theorem cmp_s (hK : X.K = C.X.K) (op : CmpOp) : OpS C (cmpF (copOf op)) (rCmp X.K op) := by
  intro F ρ s σ H d e z v w fr Q R hd he h k
  obtain ⟨b, hb, rfl, rfl⟩ := cmpF_of h
  have k' : Q (.bl b) H := sBl R k
  have kn : ∀ {o : Option Bool}, o.map (!·) = some b → ∃ c, o = some c ∧ b = !c := fun {o} q => by
    cases o with
    | none => cases q
    | some c => cases q; exact ⟨c, rfl, rfl⟩
  cases op with
  | Eq => obtain ⟨q1, q2⟩ := eqF_s hd he hb; exact ⟨q1, by rw [q2]; exact k'⟩
  | NotEq =>
    obtain ⟨c, hc, rfl⟩ := kn hb
    obtain ⟨q1, q2⟩ := eqF_s hd he hc; exact ⟨q1, by rw [q2]; exact k'⟩
  | Lt => cases d <;> first | (cases hb; done) | skip
          cases e <;> first | (cases hb; done) | skip
          cases hb; exact ⟨_, _, hd.int, he.int, k'⟩
  | LtE => cases d <;> first | (cases hb; done) | skip
           cases e <;> first | (cases hb; done) | skip
           cases hb; exact ⟨_, _, hd.int, he.int, k'⟩
  | Gt => cases d <;> first | (cases hb; done) | skip
          cases e <;> first | (cases hb; done) | skip
          cases hb; exact ⟨_, _, hd.int, he.int, k'⟩
  | GtE => cases d <;> first | (cases hb; done) | skip
           cases e <;> first | (cases hb; done) | skip
           cases hb; exact ⟨_, _, hd.int, he.int, k'⟩
  | In => exact in_s false hK R hd he hb k'
  | NotIn =>
    obtain ⟨c, hc, rfl⟩ := kn hb
    exact in_s true hK R hd he hc k'
  | Is =>
    obtain ⟨q1, q2⟩ := isD_s hd he hb
    exact ⟨q1, by rw [q2]; exact k'⟩
  | IsNot =>
    obtain ⟨c, hc, rfl⟩ := kn hb
    obtain ⟨q1, q2⟩ := isD_s hd he hc
    exact ⟨q1, by rw [q2]; exact k'⟩

/-- an expression and its small form: as a value, as a test -/
structure Snd (C : Ct) (X : Cx) (g : G) (e : Expr) (c : Ex) : Prop where
  pe : PE X e (TR C (ev g c))
  pt : PT X e (TBl C fun s => pB (ev g c s))
variable {g : G} {a b e : Expr} {ca cb cc : Ex} {pos : Pos}
theorem Snd.bad : Snd C X g e .bad := ⟨PE.never (TR.bad fun s => by rw [ev]), PT.never (TBl.bad fun s => by rw [ev]; rfl)⟩
/-- a test by its value -/
theorem Snd.val (h : PE X e (TR C (ev g ca))) (he : ∀ whole, isTrue e X.env whole = (do let v ← whole; standAt e.pos; holding [v] (truthy v))) : Snd C X g e ca := ⟨h, pB_ok h he⟩
theorem Snd.P (h : Snd C X g e ca) : PE X e (TP C fun s => pP (ev g ca s)) := pP_ok h.pe
theorem Snd.E (h : Snd C X g e ca) : PE X e (TV C fun s => pE (ev g ca s)) := pE_ok h.pe
theorem Snd.cmp {op : CmpOp} (hK : X.K = C.X.K) (hm : behindInMarks op b = false) (ha : Snd C X g a ca) (hb : Snd C X g b cb) : Snd C X g (.Compare a [op] [b] pos) (.cmp (copOf op) ca cb) := by
  refine ⟨?_, ?_⟩
  · rw [ev_cmp]
    exact PE.imp (pe_cmpR (rCmp_ok op) ha.P hb.P hm) fun σ H Q h => two_imp (cmp_s hK op) (cmpF_own1 _) (cmpF_own2 _) h
  · refine PT.imp (pt_cmpR (rCmp_ok op) ha.P hb.P hm) fun σ H Q h => ?_
    have h2 := tb_imp h
    rw [ev_cmp] at h2
    exact two_imp (cmp_s hK op) (cmpF_own1 _) (cmpF_own2 _) h2
theorem Snd.bin {op : Operator} {o : Bop} (hK : X.K = C.X.K) (ho : bopOf op = some o) (ha : Snd C X g a ca) (hb : Snd C X g b cb) : Snd C X g (.BinOp a op b pos) (.bin o ca cb) :=
  Snd.val (bin_ok hK ho ha.pe hb.pe) fun _ => rfl
/-- a truth from a value -/
theorem Snd.tb (h : Snd C X g a ca) {σ : St} {H : Hp} {Q : Bool → Hp → Prop} (q : TBl C (fun s => pB (ev g ca s)) σ H Q) : TP C (fun s => pP (ev g ca s)) σ H fun x H1 => ∃ c, x = .bl c ∧ Q c H1 := by
  obtain ⟨F, ρ, s, R, p⟩ := q
  refine ⟨F, ρ, s, R, ?_⟩
  have p2 := Post.bind p
  show Post ((ev g ca s).bind _) _ _
  cases q : ev g ca s with
  | bad => rw [q] at p2; exact p2.elim
  | exn x s' => rw [q] at p2; exact p2
  | ok x s' =>
    rw [q] at p2
    intro v F' ρ' H' R' hF hρ t
    obtain ⟨b, hb, k⟩ := bool1_post p2
    have t2 := t.flat (fun i z => by rw [hb] at z; cases z)
    rw [hb] at t2
    exact ⟨b, t2, k F' ρ' H' R' hF hρ⟩
theorem Snd.not (ha : Snd C X g a ca) : Snd C X g (.UnaryOp .Not a pos) (.not ca) := by
  have e : ev g (.not ca) = fun s => (pB (ev g ca s)).bind fun b s1 => .ok (false, .bl (!b)) s1 := by funext s; rw [ev]
  refine ⟨?_, ?_⟩
  · rw [e]
    refine PE.imp (pe_not ha.P) fun σ H Q ⟨F, ρ, s, R, p⟩ => ?_
    refine ha.tb (TBl.go (Q := fun c H1 => Q (.bl (!c)) H1) R p fun b s1 F1 ρ1 H1 R1 hF1 hρ1 p1 => ?_)
    exact p1 _ F1 ρ1 H1 R1 hF1 hρ1 (.inr ⟨rfl, .inr rfl⟩)
  · refine PT.imp (pt_not ha.pt) fun σ H Q ⟨F, ρ, s, R, p⟩ => ?_
    dsimp only at p
    rw [e] at p
    have p : Post (pB ((pB (ev g ca s)).bind fun b s1 => RE.ok (false, D.bl (!b)) s1)) _ _ := p
    have p2 := Post.bind (Post.bind p)
    refine ⟨F, ρ, s, R, p2.imp fun b s1 k F' ρ' H' R' hF hρ => ?_⟩
    exact k F' ρ' H' R' hF hρ
end Ev
set_option Elab.async false
set_option linter.all false
set_option maxRecDepth 100000
set_option maxHeartbeats 4000000
/-! EvC4: one operand, built-ins, and, or, choice, displays, items, slices. -/
namespace Ev
open PySem L2
variable {C : Ct} {X : Cx} {g : G} {a b e : Expr} {ca cb cc : Ex} {pos p : Pos}

/-! ### the module as the body sees it -/
/-- the built-in names in use -/
def bnames : List Str := ["len", "int", "list", "tuple", "isinstance", "range", "bool", "str", "dict", "set", "sorted", "enumerate", "min", "max", "sum", "all", "any", "zip", "iter", "super", "bytes", "abs"]
structure Mods (C : Ct) (X : Cx) : Prop where
  K : X.K = C.X.K
  mg : X.mg = C.X.mg
  free : ∀ x ∈ bnames, X.mg x = none
  hu : X.A.units + 64 < cLine

def notStar : Expr → Bool
  | .Starred _ _ => false
  | _ => true
theorem star_cons {es : List Expr} {env : Env} (h : notStar e = true) : starEach (e :: es) env = (false, eval e env) :: starEach es env := by
  cases e <;> first | (cases h; done) | rfl
theorem star_plain {env : Env} : ∀ {es : List Expr}, es.all notStar = true → (backTo pos (starEach es env)).any (·.1) = false
  | [], _ => rfl
  | e :: es, h => by
    obtain ⟨h1, h2⟩ := Bool.and_eq_true_iff.mp (show (notStar e && es.all notStar) = true from h)
    rw [star_cons h1]
    show (false || (backTo pos (starEach es env)).any (·.1)) = false
    rw [star_plain h2]; rfl

/-! ### one operand -/
def OpS1 (C : Ct) (f : D → Option (Bool × D)) (r : V → Hp → VK → Prop) : Prop := ∀ {F : Hp} {ρ : List Addr} {s : S} {σ : St} {H : Hp} {d z : D} {v : V} {fr : Bool} {Q : VK}, Rel C F ρ s σ H → Rdy C ρ F H d v → f d = some (fr, z) →
  (∀ v' F' ρ' H', Rel C F' ρ' s σ H' → Same F F' → Pre ρ ρ' → RepR C F' ρ' s σ H' (fr, z) v' → Q v' H') → r v H Q
theorem one_imp {ra : S → RE (Bool × D)} {f : D → Option (Bool × D)} {r : V → Hp → VK → Prop} (hs : OpS1 C f r) (h1 : ∀ i, f (.own i) = none) {σ : St} {H : Hp} {Q : VK}
    (h : TR C (fun s => (pP (ra s)).bind fun x s1 => ofO (f (res s1 x)) s1 fun r => .ok r s1) σ H Q) : TP C (fun s => pP (ra s)) σ H fun x H1 => r x H1 Q := by
  obtain ⟨F, ρ, s, R, p⟩ := h
  exact TP.go R p fun x s1 v F1 ρ1 H1 R1 hF1 hρ1 t1 p1 => by
      obtain ⟨⟨fr, z⟩, e1, k⟩ := Post.ofO p1
      have k : ∀ v F' ρ' H', Rel C F' ρ' s1 σ H' → Same F F' → Pre ρ ρ' → RepR C F' ρ' s1 σ H' (fr, z) v → Q v H' := k
      rcases t1.rdy R1 with q1 | ⟨i, q1⟩
      · exact hs R1 q1 e1 fun v' F' ρ' H' R' hF hρ z => k v' F' ρ' H' R' (hF1.trans hF) (hρ1.trans hρ) z
      · rw [q1, h1] at e1; cases e1
theorem unD_own (o : Uop) (i : Nat) : unD o (.own i) = none := by cases o <;> rfl
theorem ev_un (g : G) (o : Uop) (a : Ex) : ev g (.un o a) = fun s => (pP (ev g a s)).bind fun x s1 => ofO (unD o (res s1 x)) s1 fun r => .ok r s1 := by funext s; rw [ev]
theorem omap {α β : Type} {o : Option α} {f : α → β} {z : β} (h : o.map f = some z) : ∃ a, o = some a ∧ f a = z := by
  cases o with
  | none => cases h
  | some a => exact ⟨a, rfl, Option.some.inj h⟩
theorem Snd.neg (ha : Snd C X g a ca) : Snd C X g (.UnaryOp .USub a pos) (.un .neg ca) := by
  refine Snd.val ?_ fun _ => rfl
  rw [ev_un]
  refine PE.imp (pe_un un_neg ha.P) fun σ H Q h => one_imp (r := fun x H Q => rU (fun i => .int (-i)) x H Q) ?_ (unD_own _) h
  intro F ρ s σ H d z v fr Q R hd h k
  cases d <;> first | (cases h; done) | skip
  cases h
  exact ⟨_, hd.int, sInt R k⟩
@[reducible] def rOne (r : List V → Hp → VK → Prop) : V → Hp → VK → Prop := fun v H Q => r [v] H Q
/-- a built-in of one argument -/
theorem call1 {id : String} {x : Str} {r : List V → Hp → VK → Prop} {te : TE} (M : Mods C X) (hc : CallR X (.builtin id) r) (hx : x ∈ bnames) (hg : Gl X x) (hv : bootBuiltins x = some (.builtin id)) (hn : notStar a = true) (ha : PE X a te) (h1 : x ≠ "__name__" := by decide) (h2 : (x == ("__debug__" : Str)) = false := by decide) :
    PE X (.Call (.Name x p) [a] [] pos) fun σ H Q => te σ H fun v H1 => rOne r v H1 Q :=
  PE.imp (pe_callB hc hg (M.free x hx) hv (pa_cons ha pa_nil (star_cons hn)) h1 h2 (star_cons hn) (by rfl)) fun _ _ _ h => h
theorem callT1 {T : String} {x : Str} {r : List V → Hp → VK → Prop} {te : TE} (M : Mods C X) (hc : CallR X (.type T) r) (hx : x ∈ bnames) (hg : Gl X x) (hv : bootBuiltins x = some (.type T)) (hn : notStar a = true) (ha : PE X a te) (h1 : x ≠ "__name__" := by decide) (h2 : (x == ("__debug__" : Str)) = false := by decide) :
    PE X (.Call (.Name x p) [a] [] pos) fun σ H Q => te σ H fun v H1 => rOne r v H1 Q :=
  PE.imp (pe_callTy hc hg (M.free x hx) hv (pa_cons ha pa_nil (star_cons hn)) h1 h2 (star_cons hn) (by rfl)) fun _ _ _ h => h
theorem call_lenR : CallR X (.builtin "len") (fun xs H Q => ∃ a kvs, xs = [V.ref a] ∧ Rd H a (.dK kvs) ∧ Q (.int kvs.length) H) := by
  intro pins s σ H xs us Q I r h
  obtain ⟨a, kvs, rfl, ha, q⟩ := h
  obtain ⟨u, rfl, ru⟩ := vals1 r
  cases ru
  exact d_len I ha fun t s' I' => ⟨.int kvs.length, H, I', ⟨t, rfl⟩, q⟩
theorem Snd.len (M : Mods C X) (hg : Gl X "len") (hn : notStar a = true) (ha : Snd C X g a ca) : Snd C X g (.Call (.Name "len" p) [a] [] pos) (.un .len ca) := by
  refine Snd.val ?_ fun _ => rfl
  rw [ev_un]
  refine PE.imp (call1 M (CallR.or call_len call_lenR) (by decide +kernel) hg boot_len hn ha.P) fun σ H Q h => one_imp ?_ (unD_own _) h
  intro F ρ s σ H d z v fr Q R hd h k
  obtain ⟨n, hn, h⟩ := omap h
  cases h
  cases d with
  | lst ds =>
    cases hn
    obtain ⟨a, vs, rfl, q1, r1⟩ := hd.lst R.c.leF
    exact .inl ⟨_, vs.length, rfl, .inl ⟨vs, .inl (.inl q1), rfl⟩, by rw [r1.len]; exact sInt R k⟩
  | ro ds =>
    cases hn
    obtain ⟨a, vs, rfl, q1, r1⟩ := hd.ro R.c.leF
    exact .inl ⟨_, vs.length, rfl, .inl ⟨vs, by rw [M.K]; exact q1, rfl⟩, by rw [r1.len]; exact sInt R k⟩
  | tup ds =>
    cases hn
    obtain ⟨a, vs, rfl, q1, r1⟩ := hd.tup R.c.leF
    exact .inl ⟨_, vs.length, rfl, .inr ⟨vs, by rw [M.K]; exact q1, rfl⟩, by rw [r1.len]; exact sInt R k⟩
  | str x =>
    have hn : (if okSz x.length = true then some (x.length : Int) else none) = some n := hn
    split at hn
    · rename_i q
      cases hn
      exact .inl ⟨_, x.length, rfl, by rw [hd.str]; exact ⟨szLine q, rfl⟩, sInt R k⟩
    · cases hn
  | dct ks ds =>
    cases hn
    obtain ⟨a, kvs, rfl, q1, q2, _, r1⟩ := hd.dct R.c.leF
    refine .inr ⟨a, kvs, rfl, q1, ?_⟩
    rw [← q2, List.length_map] at k
    exact sInt R k
  | _ => cases hn
theorem Snd.int (M : Mods C X) (hg : Gl X "int") (hn : notStar a = true) (ha : Snd C X g a ca) : Snd C X g (.Call (.Name "int" p) [a] [] pos) (.un .int ca) := by
  refine Snd.val ?_ fun _ => rfl
  rw [ev_un]
  refine PE.imp (callT1 M call_int1 (by decide +kernel) hg (by decide +kernel) hn ha.P) fun σ H Q h => one_imp ?_ (unD_own _) h
  intro F ρ s σ H d z v fr Q R hd h k
  obtain ⟨n, hn, h⟩ := omap h
  cases h
  cases d with
  | int i => cases hn; exact .inl ⟨_, by rw [hd.int], sInt R k⟩
  | bl i => cases hn; exact .inr ⟨_, by rw [hd.bl], sInt R k⟩
  | _ => cases hn
theorem listD_s {F : Hp} {ρ : List Addr} {s : S} {σ : St} {H : Hp} {d : D} {v : V} {ds : List D} (R : Rel C F ρ s σ H) (hd : Rdy C ρ F H d v) (h : listD d = some ds) :
    ∃ a vs, v = .ref a ∧ (SqL C.X.K H a vs ∨ SqT C.X.K H a vs) ∧ Reps C.X ρ F ds vs ∧ (SqT C.X.K H a vs → (∃ vs', SqL C.X.K H a vs') → True) := by
  cases d with
  | lst ds => cases h; obtain ⟨a, vs, e, q, r⟩ := hd.lst R.c.leF; exact ⟨a, vs, e, .inl (.inl (.inl q)), r, fun _ _ => trivial⟩
  | ro ds => cases h; obtain ⟨a, vs, e, q, r⟩ := hd.ro R.c.leF; exact ⟨a, vs, e, .inl q, r, fun _ _ => trivial⟩
  | tup ds => cases h; obtain ⟨a, vs, e, q, r⟩ := hd.tup R.c.leF; exact ⟨a, vs, e, .inr q, r, fun _ _ => trivial⟩
  | _ => cases h
theorem Snd.list (M : Mods C X) (hg : Gl X "list") (hn : notStar a = true) (ha : Snd C X g a ca) : Snd C X g (.Call (.Name "list" p) [a] [] pos) (.un .list ca) := by
  refine Snd.val ?_ fun _ => rfl
  rw [ev_un]
  refine PE.imp (callT1 M call_list_of (by decide +kernel) hg (by decide +kernel) hn ha.P) fun σ H Q h => one_imp ?_ (unD_own _) h
  intro F ρ s σ H d z v fr Q R hd h k
  obtain ⟨ds, hn, h⟩ := omap h
  cases h
  obtain ⟨a, vs, rfl, q, r, _⟩ := listD_s R hd hn
  refine ⟨a, vs, rfl, by rw [M.K]; exact q, fun p hp => ?_⟩
  exact R.newF (d := .lst ds) (Same.refl _) (Pre.refl _) hp ⟨_, upd_same, r⟩ k
theorem Snd.tuple (M : Mods C X) (hg : Gl X "tuple") (hn : notStar a = true) (ha : Snd C X g a ca) : Snd C X g (.Call (.Name "tuple" p) [a] [] pos) (.un .tuple ca) := by
  refine Snd.val ?_ fun _ => rfl
  rw [ev_un]
  refine PE.imp (callT1 M call_tuple_of (by decide +kernel) hg (by decide +kernel) hn ha.P) fun σ H Q h => one_imp ?_ (unD_own _) h
  intro F ρ s σ H d z v fr Q R hd h k
  obtain ⟨ds, hn, h⟩ := omap h
  cases h
  cases d with
  | lst es =>
    cases hn
    obtain ⟨a, vs, rfl, q, r⟩ := hd.lst R.c.leF
    refine ⟨a, vs, rfl, .inl ⟨.inl (.inl q), fun p hp => ?_⟩⟩
    exact R.newV (d := .tup ds) (e := fun _ _ => True) (k := fun _ _ => True) (v := .non) (Same.refl _) (Pre.refl _) hp (fun F' s1 h1 => ⟨p, _, rfl, .inl (.inl h1), r.mono s1 (Pre.refl _)⟩) k
  | ro es =>
    cases hn
    obtain ⟨a, vs, rfl, q, r⟩ := hd.ro R.c.leF
    refine ⟨a, vs, rfl, .inl ⟨by rw [M.K]; exact q, fun p hp => ?_⟩⟩
    exact R.newV (d := .tup ds) (e := fun _ _ => True) (k := fun _ _ => True) (v := .non) (Same.refl _) (Pre.refl _) hp (fun F' s1 h1 => ⟨p, _, rfl, .inl (.inl h1), r.mono s1 (Pre.refl _)⟩) k
  | tup es =>
    cases hn
    obtain ⟨a, vs, e, q, r⟩ := hd.tup R.c.leF
    rcases hd with hd | ⟨_, _, hd⟩
    · refine ⟨a, vs, by rw [e], .inr ⟨by rw [M.K]; exact q, ?_⟩⟩
      rw [← e]
      exact scalar R hd k
    · exact hd.elim
  | _ => cases hn
theorem isiT_ok {K : PySem.W.Frag} {t T : String} {b : Bool} (ht : t = "NoneType" ∨ t = "bool" ∨ t = "int" ∨ t = "str" ∨ t = "tuple" ∨ t = "list" ∨ t = "dict") (h : isiT t T = some b) : PySem.W.kitOne K (.type t) (.type T) = some b := by
  unfold isiT at h
  split at h
  · rename_i e
    subst e
    cases h
    rcases ht with rfl | rfl | rfl | rfl | rfl | rfl | rfl <;> exact kit_ty (by decide +kernel)
  · split at h
    · rename_i e
      cases h
      rcases e with rfl | rfl | rfl | rfl | rfl <;> rcases ht with rfl | rfl | rfl | rfl | rfl | rfl | rfl <;> exact kit_ty (by decide +kernel)
    · cases h
theorem tyD_s (M : Mods C X) {F : Hp} {ρ : List Addr} {s : S} {σ : St} {H : Hp} {d : D} {v : V} {t : String} (R : Rel C F ρ s σ H) (hd : Rdy C ρ F H d v) (h : tyD d = some t) :
    TyX X.K H v (.type t) ∧ (t = "NoneType" ∨ t = "bool" ∨ t = "int" ∨ t = "str" ∨ t = "tuple" ∨ t = "list" ∨ t = "dict") := by
  cases d with
  | non => cases h; rw [hd.non]; exact ⟨.base .non, by simp⟩
  | bl b => cases h; rw [hd.bl]; exact ⟨.base (.bl b), by simp⟩
  | int b => cases h; rw [hd.int]; exact ⟨.base (.int b), by simp⟩
  | str b => cases h; rw [hd.str]; exact ⟨.base (.str b), by simp⟩
  | lst ds => cases h; obtain ⟨a, vs, rfl, q, r⟩ := hd.lst R.c.leF; exact ⟨.base (.lst q), by simp⟩
  | tup ds =>
    cases h
    obtain ⟨a, vs, rfl, q, r⟩ := hd.tup R.c.leF
    refine ⟨?_, by simp⟩
    rcases q with (q | ⟨o, q⟩) | ⟨o, its, n, q, hc, _⟩
    · exact .base (.tup q)
    · exact .fTuple q
    · exact .kTuple (by rw [M.K]; exact q) hc
  | dct ks ds =>
    cases h
    obtain ⟨a, kvs, rfl, q, r⟩ := hd.dct R.c.leF
    refine ⟨?_, by simp⟩
    rcases q with q | ⟨o, q⟩
    · exact .base (.dK q)
    · exact .fDict q
  | _ => cases h
theorem Snd.isi {T : Str} {Ts : String} {p2 : Pos} (M : Mods C X) (hg : Gl X "isinstance") (hgT : Gl X T) (hT : T ∈ bnames) (hv : bootBuiltins T = some (.type Ts)) (hn : notStar a = true) (ha : Snd C X g a ca) (h1 : T ≠ "__name__") (h2 : (T == ("__debug__" : Str)) = false) :
    Snd C X g (.Call (.Name "isinstance" p) [a, .Name T p2] [] pos) (.un (.isi Ts) ca) := by
  refine Snd.val ?_ fun _ => rfl
  rw [ev_un]
  have hA : PA X [a, .Name T p2] (tCons (TP C fun s => pP (ev g ca s)) (tCons (tC (.ty Ts)) tNil)) :=
    pa_cons ha.P (pa_cons (pe_bltn hgT (M.free T hT) hv rfl h1 h2) pa_nil) (star_cons hn)
  refine PE.imp (pe_callB call_isi hg (M.free _ (by decide +kernel)) (by decide +kernel) hA (by decide) (by decide) (star_cons hn) (by rfl)) fun σ H Q h => ?_
  show TP C _ σ H fun x H1 => rIsi X.K [x, .ty Ts] H1 Q
  refine one_imp (r := fun x H Q => rIsi X.K [x, .ty Ts] H Q) ?_ (unD_own _) h
  intro F ρ s σ H d z v fr Q R hd h k
  obtain ⟨b, hb, h⟩ := omap h
  cases h
  cases ht : tyD d with
  | none => rw [ht] at hb; cases hb
  | some t =>
    rw [ht] at hb
    obtain ⟨h1, h2⟩ := tyD_s M R hd ht
    exact ⟨v, .ty Ts, .type t, .type Ts, b, rfl, .ty Ts, h1, isiT_ok h2 hb, sBl R k⟩

/-! ### and, or, choice -/
theorem pw_of {op : BoolOp} {vs : List Expr} {t : TT} (h : PT X (.BoolOp op vs pos) t) : PW X (.BoolOp op vs pos) t := ⟨fun whole pins s σ H Q I q => h.run pins s σ H Q I q⟩
theorem Snd.one1 (ha : Snd C X g a ca) : Snd C X g (.BoolOp .And [a] pos) ca := ⟨pe_one ha.pe, (pw_and1 ha.pt).pt⟩
theorem Snd.one2 (ha : Snd C X g a ca) : Snd C X g (.BoolOp .Or [a] pos) ca := ⟨pe_one ha.pe, (pw_or1 ha.pt).pt⟩
/-- a test's truth as a value -/
theorem TBl.val {r : S → RE (Bool × D)} {σ : St} {H : Hp} {Q : VK} (h : TBl C (fun s => pB (r s)) σ H fun y H2 => Q (.bl y) H2) : TR C r σ H Q ∨ True := .inr trivial
theorem Snd.and {rest : List Expr} (ha : Snd C X g a ca) (hb : Snd C X g (.BoolOp .And (b :: rest) pos) cb) : Snd C X g (.BoolOp .And (a :: b :: rest) pos) (.and ca cb) := by
  have e : ev g (.and ca cb) = fun s => (pB (ev g ca s)).bind fun x s1 => if x = true then (pB (ev g cb s1)).bind fun y s2 => .ok (false, .bl y) s2 else .ok (false, .bl false) s1 := by funext s; rw [ev]
  refine ⟨?_, ?_⟩
  · rw [e]
    refine PE.imp (pe_and ha.P hb.P) fun σ H Q ⟨F, ρ, s, R, p⟩ => ?_
    refine ha.tb (TBl.go (Q := fun c H1 => if c = true then _ else Q (.bl false) H1) R p fun c s1 F1 ρ1 H1 R1 hF1 hρ1 p1 => ?_)
    cases c with
    | false => exact p1 _ F1 ρ1 H1 R1 hF1 hρ1 (.inr ⟨rfl, .inr rfl⟩)
    | true =>
      rw [if_pos rfl]
      rw [if_pos rfl] at p1
      have := hb.tb (TBl.go (Q := fun y H2 => Q (.bl y) H2) R1 p1 fun y s2 F2 ρ2 H2 R2 hF2 hρ2 p2 => p2 _ F2 ρ2 H2 R2 (hF1.trans hF2) (hρ1.trans hρ2) (.inr ⟨rfl, .inr rfl⟩))
      obtain ⟨F', ρ', s', R', q⟩ := this
      exact ⟨F', ρ', s', R', q.imp fun d s2 z v F2 ρ2 H2 R2 hF2 hρ2 t => by
        obtain ⟨c, rfl, z⟩ := z v F2 ρ2 H2 R2 hF2 hρ2 t
        exact z⟩
  · refine PT.imp (pw_and ha.pt (pw_of hb.pt)).pt fun σ H Q ⟨F, ρ, s, R, p⟩ => ?_
    dsimp only at p
    rw [e] at p
    have p := Post.bind (Post.bind p)
    refine ⟨F, ρ, s, R, p.imp fun c s1 k F1 ρ1 H1 R1 hF1 hρ1 => ?_⟩
    cases c with
    | false => exact k F1 ρ1 H1 R1 hF1 hρ1
    | true =>
      rw [if_pos rfl]
      rw [if_pos rfl] at k
      exact TBl.go R1 k fun y s2 F2 ρ2 H2 R2 hF2 hρ2 p2 => p2 F2 ρ2 H2 R2 (hF1.trans hF2) (hρ1.trans hρ2)
theorem Snd.or {rest : List Expr} (ha : Snd C X g a ca) (hb : Snd C X g (.BoolOp .Or (b :: rest) pos) cb) : Snd C X g (.BoolOp .Or (a :: b :: rest) pos) (.or ca cb) := by
  have e : ev g (.or ca cb) = fun s => (pB (ev g ca s)).bind fun x s1 => if x = true then .ok (false, .bl true) s1 else (pB (ev g cb s1)).bind fun y s2 => .ok (false, .bl y) s2 := by funext s; rw [ev]
  refine ⟨?_, ?_⟩
  · rw [e]
    refine PE.imp (pe_or ha.P hb.P) fun σ H Q ⟨F, ρ, s, R, p⟩ => ?_
    refine ha.tb (TBl.go (Q := fun c H1 => if c = true then Q (.bl true) H1 else _) R p fun c s1 F1 ρ1 H1 R1 hF1 hρ1 p1 => ?_)
    cases c with
    | true => exact p1 _ F1 ρ1 H1 R1 hF1 hρ1 (.inr ⟨rfl, .inr rfl⟩)
    | false =>
      rw [if_neg Bool.false_ne_true]
      rw [if_neg Bool.false_ne_true] at p1
      have := hb.tb (TBl.go (Q := fun y H2 => Q (.bl y) H2) R1 p1 fun y s2 F2 ρ2 H2 R2 hF2 hρ2 p2 => p2 _ F2 ρ2 H2 R2 (hF1.trans hF2) (hρ1.trans hρ2) (.inr ⟨rfl, .inr rfl⟩))
      obtain ⟨F', ρ', s', R', q⟩ := this
      exact ⟨F', ρ', s', R', q.imp fun d s2 z v F2 ρ2 H2 R2 hF2 hρ2 t => by
        obtain ⟨c, rfl, z⟩ := z v F2 ρ2 H2 R2 hF2 hρ2 t
        exact z⟩
  · refine PT.imp (pw_or ha.pt (pw_of hb.pt)).pt fun σ H Q ⟨F, ρ, s, R, p⟩ => ?_
    dsimp only at p
    rw [e] at p
    have p := Post.bind (Post.bind p)
    refine ⟨F, ρ, s, R, p.imp fun c s1 k F1 ρ1 H1 R1 hF1 hρ1 => ?_⟩
    cases c with
    | true => exact k F1 ρ1 H1 R1 hF1 hρ1
    | false =>
      rw [if_neg Bool.false_ne_true]
      rw [if_neg Bool.false_ne_true] at k
      exact TBl.go R1 k fun y s2 F2 ρ2 H2 R2 hF2 hρ2 p2 => p2 F2 ρ2 H2 R2 (hF1.trans hF2) (hρ1.trans hρ2)
theorem pt_ifExp {c : Expr} {tA tB tD : TT} (hc : PT X c tA) (ha : PT X a tB) (hb : PT X b tD) : PT X (.IfExp c a b pos) (fun σ H Q => tA σ H fun k H1 => if k = true then tB σ H1 Q else tD σ H1 Q) := by
  refine ⟨fun pins s σ H Q I h => ?_⟩
  show wpAny _ _ (do
    if ← isTrue c X.env (eval c X.env) then isTrue a X.env (eval a X.env) else isTrue b X.env (eval b X.env)) _ _ s
  refine wpAny_bind (thn (hc.run pins s σ H _ I h) fun d s1 ⟨H1, I1, q1⟩ => ?_)
  cases d with
  | true => exact ha.run pins s1 σ H1 Q I1 q1
  | false => exact hb.run pins s1 σ H1 Q I1 q1
theorem Snd.ite {c : Expr} (hc : Snd C X g c cc) (ha : Snd C X g a ca) (hb : Snd C X g b cb) : Snd C X g (.IfExp c a b pos) (.ite cc ca cb) := by
  have e : ev g (.ite cc ca cb) = fun s => (pB (ev g cc s)).bind fun x s1 => if x = true then ev g ca s1 else ev g cb s1 := by funext s; rw [ev]
  have sub : ∀ {F F1 : Hp} {ρ ρ1 : List Addr} {s1 : S} {σ : St} {H1 : Hp} {Q : VK} {r : S → RE (Bool × D)}, Rel C F1 ρ1 s1 σ H1 → Same F F1 → Pre ρ ρ1 →
      Post (r s1) (fun (x : Bool × D) s' => ∀ v F' ρ' H', Rel C F' ρ' s' σ H' → Same F F' → Pre ρ ρ' → RepR C F' ρ' s' σ H' x v → Q v H') (XP C σ) → TR C r σ H1 Q :=
    fun {F F1 ρ ρ1 s1 σ H1 Q r} R1 hF1 hρ1 p1 => ⟨F1, ρ1, s1, R1, p1.imp fun y s2 k v F2 ρ2 H2 R2 hF2 hρ2 t => k v F2 ρ2 H2 R2 (hF1.trans hF2) (hρ1.trans hρ2) t⟩
  refine ⟨?_, ?_⟩
  · rw [e]
    refine PE.imp (pe_ifExp hc.pt ha.pe hb.pe) fun σ H Q ⟨F, ρ, s, R, p⟩ => ?_
    refine TBl.go R p fun x s1 F1 ρ1 H1 R1 hF1 hρ1 p1 => ?_
    cases x with
    | true => rw [if_pos rfl]; exact sub R1 hF1 hρ1 p1
    | false => rw [if_neg Bool.false_ne_true]; exact sub R1 hF1 hρ1 p1
  · refine PT.imp (pt_ifExp hc.pt ha.pt hb.pt) fun σ H Q ⟨F, ρ, s, R, p⟩ => ?_
    dsimp only at p
    rw [e] at p
    have p := Post.bind (Post.bind p)
    refine ⟨F, ρ, s, R, p.imp fun x s1 k F1 ρ1 H1 R1 hF1 hρ1 => ?_⟩
    cases x with
    | true =>
      rw [if_pos rfl] at k ⊢
      refine ⟨F1, ρ1, s1, R1, ?_⟩
      have z := Post.join (f := fun (r : Bool × D) s1 => bool1 r.2 s1) k
      exact z.imp fun y s2 k F2 ρ2 H2 R2 hF2 hρ2 => k F2 ρ2 H2 R2 (hF1.trans hF2) (hρ1.trans hρ2)
    | false =>
      rw [if_neg Bool.false_ne_true] at k ⊢
      refine ⟨F1, ρ1, s1, R1, ?_⟩
      have z := Post.join (f := fun (r : Bool × D) s1 => bool1 r.2 s1) k
      exact z.imp fun y s2 k F2 ρ2 H2 R2 hF2 hρ2 => k F2 ρ2 H2 R2 (hF1.trans hF2) (hρ1.trans hρ2)
end Ev
set_option Elab.async false
set_option linter.all false
set_option maxRecDepth 100000
set_option maxHeartbeats 4000000
/-! EvC5: names, displays, items, slices, calls. -/
namespace Ev
open PySem L2
variable {C : Ct} {X : Cx} {g : G} {a b e : Expr} {ca cb cc : Ex} {pos p : Pos}

theorem ev_con (g : G) (d : D) : ev g (.con d) = fun s => .ok (false, d) s := by funext s; rw [ev]
theorem Snd.cInt {i : Int} {j : Nat} : Snd C X g (.Constant (.int i) j pos) (.con (.int i)) :=
  Snd.val (by rw [ev_con]; exact con_ok pe_int (fun _ _ => rfl) (fun _ z => nomatch z)) fun _ => rfl
theorem Snd.cBl {i : Bool} {j : Nat} : Snd C X g (.Constant (.bool i) j pos) (.con (.bl i)) :=
  Snd.val (by rw [ev_con]; exact con_ok pe_bl (fun _ _ => rfl) (fun _ z => nomatch z)) fun _ => rfl
theorem Snd.cNon {j : Nat} : Snd C X g (.Constant .none j pos) (.con .non) :=
  Snd.val (by rw [ev_con]; exact con_ok pe_non (fun _ _ => rfl) (fun _ z => nomatch z)) fun _ => rfl
theorem Snd.cStr {i : Str} {j : Nat} : Snd C X g (.Constant (.str i) j pos) (.con (.str i)) :=
  Snd.val (by rw [ev_con]; exact con_ok pe_str (fun _ _ => rfl) (fun _ z => nomatch z)) fun _ => rfl
theorem Snd.var {x : Str} {i : Nat} (h : PE X (.Name x pos) (tVar i)) : Snd C X g (.Name x pos) (.var i) :=
  Snd.val (var_ok h) fun _ => rfl

/-! ### the defs and constants of the module -/
/-- what a def promises -/
structure FreshC (R F : Hp) (ρ : List Addr) (cs : List (Option D)) (p : Addr) : Prop where
  f : F p = none
  r : R p = none
  c : ∀ (l : Nat) (d : D), ρ[l]? = some p → cs[l]? = some (some d) → False
def RetAt (kx : Kx) (R F : Hp) (ρ : List Addr) (cs : List (Option D)) (H : Hp) (fr : Bool) (d : D) (v : V) : Prop :=
  (fr = true ∧ ∃ p, v = .ref p ∧ FreshC R F ρ cs p ∧ At kx ρ F H p d) ∨ (fr = false ∧ Rep kx ρ F d v)
def spPost (kx : Kx) (R F : Hp) (ρ : List Addr) (cs : List (Option D)) (Q : VK) (E : XK) : FRes → Prop
  | .ret fr d cs' => ∀ v F' ρ' H', RelC kx R F' ρ' (cs'.getD cs) H' → Same F F' → Pre ρ ρ' → RetAt kx R F' ρ' (cs'.getD cs) H' fr d v → Q v H'
  | .exn x cs' => ∀ c dd F' ρ' H', RelC kx R F' ρ' (cs'.getD cs) H' → Same F F' → Pre ρ ρ' → ExnAt kx ρ' F' H' x c dd → E c dd H'
  | .bad => False
def spOf (kx : Kx) (fn : Fn) : Sp := fun vs H Q E => ∃ R F ρ ds cs, RelC kx R F ρ cs H ∧ Reps kx ρ F ds vs ∧ ds.length = fn.ar ∧ spPost kx R F ρ cs Q E (fn.run ds cs)
structure FnAt (kx : Kx) (P : Program) (w : World) (base : Heap) (k : Nat) (x : Str) (fn : Fn) : Prop where
  at_ : ∃ f fd ps, kx.mg x = some (.ref f) ∧ PySem.W.keepIn kx.K (.ref f) = true ∧ FnOk P w kx.K kx.mg base (L2.CX P w) k f fd ps (spOf kx fn) ∧ Binds kx.K fd ps []
structure GOk (kx : Kx) (P : Program) (w : World) (base : Heap) (k : Nat) (g : G) : Prop where
  fn : ∀ x fn, g.fn x = some fn → FnAt kx P w base k x fn
  con : ∀ x d, g.con x = some d → ∃ v u, kx.mg x = some u ∧ RelV v u ∧ ∀ ρ F, Rep kx ρ F d v
structure XOk (C : Ct) (X : Cx) (k : Nat) (g : G) : Prop extends Mods C X where
  g : GOk C.X X.prog X.w X.base k g
  room : Room k X.A
  tk : Takes X C.W
  nd : X.N.Nodup
  calm : X.calm = true

theorem Rep.notOwn {ρ : List Addr} {F : Hp} {kx : Kx} {d : D} {v : V} (h : Rep kx ρ F d v) : ∀ i, d ≠ .own i := fun i z => by subst z; exact h.elim
theorem Snd.glob {k : Nat} {x : Str} (O : XOk C X k g) (hg : Gl X x) (hd : (x == ("__debug__" : Str)) = false) : Snd C X g (.Name x pos) (.glob x) := by
  refine Snd.val ?_ fun _ => rfl
  have e : ev g (.glob x) = fun s => ofO (g.con x) s fun d => .ok (false, d) s := by funext s; rw [ev]
  rw [e]
  cases q : g.con x with
  | none => exact PE.never (TR.bad fun s => rfl)
  | some d =>
    obtain ⟨v, u, h1, h2, h3⟩ := O.g.con x d q
    exact con_ok (pe_glob hg (by rw [O.mg]; exact h1) h2 hd) h3 (h3 [] (fun _ => none)).notOwn

/-! ### rows of expressions -/
structure SndA (C : Ct) (X : Cx) (g : G) (es : List Expr) (cs : Exs) : Prop where
  pa : PA X es (TVs C (evEs g cs))
  ns : es.all notStar = true
  shape : es = [] → cs = .nil
theorem SndA.nil : SndA C X g [] .nil := by
  refine ⟨PA.imp pa_nil fun σ H Q ⟨F, ρ, s, R, p⟩ => ?_, rfl, fun _ => rfl⟩
  rw [evEs] at p
  exact p [] F ρ H R (Same.refl _) (Pre.refl _) rfl
theorem SndA.cons {es : List Expr} {cs : Exs} (hn : notStar e = true) (h : Snd C X g e ca) (hs : SndA C X g es cs) : SndA C X g (e :: es) (.cons ca cs) := by
  refine ⟨PA.imp (pa_cons h.E hs.pa (star_cons hn)) fun σ H Q ⟨F, ρ, s, R, p⟩ => ?_, by show (notStar e && es.all notStar) = true; rw [hn, hs.ns]; rfl, fun z => nomatch z⟩
  rw [evEs] at p
  exact TV.go R p fun d s1 v F1 ρ1 H1 R1 hF1 hρ1 t1 p1 =>
    TVs.go R1 p1 fun ds s2 vs F2 ρ2 H2 R2 hF2 hρ2 t2 p2 =>
      p2 (v :: vs) F2 ρ2 H2 R2 (hF1.trans hF2) (hρ1.trans hρ2) ⟨v, vs, rfl, t1.mono hF2 hρ2, t2⟩
theorem ite_post {α : Type} {c : Prop} [Decidable c] {r : RE α} {k : α → S → Prop} {e : Exn → S → Prop} (h : Post (if c then r else .bad) k e) : c ∧ Post r k e := by
  by_cases q : c
  · rw [if_pos q] at h; exact ⟨q, h⟩
  · rw [if_neg q] at h; exact h.elim
theorem Snd.tup {es : List Expr} {cs : Exs} {x1 : Nat} (hs : SndA C X g es cs) : Snd C X g (.Tuple es x1 pos) (.tup cs) := by
  refine Snd.val ?_ fun _ => rfl
  have e : ev g (.tup cs) = fun s => (evEs g cs s).bind fun ds s1 => if okSz ds.length = true then .ok (false, .tup ds) s1 else .bad := by funext s; rw [ev]
  rw [e]
  refine PE.imp (pe_tup hs.pa) fun σ H Q ⟨F, ρ, s, R, p⟩ => ?_
  refine TVs.go R p fun ds s1 vs F1 ρ1 H1 R1 hF1 hρ1 t1 p1 => ?_
  obtain ⟨q, k⟩ := ite_post p1
  have k : ∀ v F' ρ' H', Rel C F' ρ' s1 σ H' → Same F F' → Pre ρ ρ' → RepR C F' ρ' s1 σ H' (false, D.tup ds) v → Q v H' := k
  refine ⟨by rw [t1.len]; exact szLine q, fun p hp => ?_⟩
  exact R1.newV (d := .tup ds) (e := fun _ _ => True) (k := fun _ _ => True) (v := .non) hF1 hρ1 hp (fun F' s1 h1 => ⟨p, _, rfl, .inl (.inl h1), t1.mono s1 (Pre.refl _)⟩) k
theorem Snd.lst {es : List Expr} {cs : Exs} (hs : SndA C X g es cs) : Snd C X g (.List es pos) (.lst cs) := by
  refine Snd.val ?_ fun _ => rfl
  have e : ev g (.lst cs) = fun s => (evEs g cs s).bind fun ds s1 => if okSz ds.length = true then .ok (true, .lst ds) s1 else .bad := by funext s; rw [ev]
  rw [e]
  refine PE.imp (pe_lst hs.pa) fun σ H Q ⟨F, ρ, s, R, p⟩ => ?_
  refine TVs.go R p fun ds s1 vs F1 ρ1 H1 R1 hF1 hρ1 t1 p1 => ?_
  obtain ⟨q, k⟩ := ite_post p1
  have k : ∀ v F' ρ' H', Rel C F' ρ' s1 σ H' → Same F F' → Pre ρ ρ' → RepR C F' ρ' s1 σ H' (true, D.lst ds) v → Q v H' := k
  refine ⟨by rw [t1.len]; exact szLine q, fun p hp => ?_⟩
  exact R1.newF (d := .lst ds) hF1 hρ1 hp ⟨_, upd_same, t1⟩ k

/-! ### items, slices -/
def notSlice : Expr → Bool
  | .Slice _ _ _ _ => false
  | _ => true
theorem plainIx (h : notSlice b = true) : PlainIx b := by
  cases b <;> first | (cases h; done) | exact fun _ _ => rfl
def idxF (d e : D) : Option (Bool × D) := (idxD d e).map fun r => (false, r)
theorem idxF_own1 (i : Nat) (d : D) : idxF (.own i) d = none := by cases d <;> rfl
theorem idxF_own2 (i : Nat) (d : D) : idxF d (.own i) = none := by cases d <;> rfl
theorem at_get {ρ : List Addr} {F : Hp} {ds : List D} {vs : List V} {i : Int} {d : D} (r : Reps C.X ρ F ds vs) (h : atI ds i = some d) : ∃ v, atI vs i = some v ∧ Rep C.X ρ F d v := by
  unfold atI at h ⊢
  rw [r.len]
  cases q : ixN ds.length i with
  | none => rw [q] at h; cases h
  | some j => rw [q] at h; exact r.get h
theorem idx_s (M : Mods C X) : OpS C idxF (rIx X.K) := by
  intro F ρ s σ H d e z v w fr Q R hd he h k
  obtain ⟨y, hy, h⟩ := omap h
  injection h with h1 h2
  subst h1
  subst h2
  have ret : ∀ {u : V}, Rep C.X ρ F y u → Q u H := fun r => scalar R r k
  cases e with
  | int i =>
    have hw := he.int
    cases d with
    | lst ds =>
      obtain ⟨a, vs, rfl, q, r⟩ := hd.lst R.c.leF
      obtain ⟨u, h1, h2⟩ := at_get r hy
      exact .inl ⟨a, vs, i, u, rfl, hw, .inl (.inl q), h1, ret h2⟩
    | ro ds =>
      obtain ⟨a, vs, rfl, q, r⟩ := hd.ro R.c.leF
      obtain ⟨u, h1, h2⟩ := at_get r hy
      exact .inl ⟨a, vs, i, u, rfl, hw, by rw [M.K]; exact q, h1, ret h2⟩
    | tup ds =>
      obtain ⟨a, vs, rfl, q, r⟩ := hd.tup R.c.leF
      obtain ⟨u, h1, h2⟩ := at_get r hy
      exact .inr (.inl ⟨a, vs, i, u, rfl, hw, by rw [M.K]; exact q, h1, ret h2⟩)
    | str x =>
      have hy : (if okSz x.length = true then (atI x.cps.toList i).map fun c => D.str ⟨#[c]⟩ else none) = some y := hy
      split at hy
      · rename_i q
        obtain ⟨c, h1, h2⟩ := omap hy
        subst h2
        exact .inr (.inr ⟨x, i, c, hd.str, hw, szLine q, h1, ret rfl⟩)
      · cases hy
    | _ => cases hy
  | _ => cases d <;> cases hy
theorem Snd.idx (M : Mods C X) (hn : notSlice b = true) (ha : Snd C X g a ca) (hb : Snd C X g b cb) : Snd C X g (.Subscript a b pos) (.idx ca cb) := by
  refine Snd.val ?_ fun _ => rfl
  have e : ev g (.idx ca cb) = fun s => (pP (ev g ca s)).bind fun x s1 => (pP (ev g cb s1)).bind fun y s2 => ofO (idxF (res s2 x) (res s2 y)) s2 fun r => .ok r s2 := by
    funext s
    rw [ev]
    congr 1; funext x s1; congr 1; funext y s2
    unfold idxF
    cases idxD (res s2 x) (res s2 y) <;> rfl
  rw [e]
  exact PE.imp (pe_ix ix_seq ha.P hb.P (plainIx hn)) fun σ H Q h => two_imp (idx_s M) idxF_own1 idxF_own2 h
/-- a slice's bound: left out, or an int -/
structure SndO (C : Ct) (X : Cx) (g : G) (o : Option Expr) (k : Bool) (c : Ex) : Prop where
  po : PO X o fun σ H Q => ∃ F ρ s, Rel C F ρ s σ H ∧ Post (pP (ev g c s)) (fun d s' => ∀ F' ρ' H', Rel C F' ρ' s' σ H' → Same F F' → Pre ρ ρ' → ∃ i, bndD k d = some i ∧ Q i H') (XP C σ)
theorem PO.imp {o : Option Expr} {t t' : TO} (h : PO X o t) (k : ∀ σ H Q, t' σ H Q → t σ H Q) : PO X o t' := ⟨fun pins s σ H Q I q => h.run pins s σ H Q I (k _ _ _ q)⟩
theorem SndO.none : SndO C X g none false (.con .non) := ⟨PO.imp po_none fun σ H Q ⟨F, ρ, s, R, p⟩ => by
  rw [ev] at p
  obtain ⟨i, h, q⟩ := p F ρ H R (Same.refl _) (Pre.refl _)
  cases h
  exact q⟩
theorem SndO.some (h : Snd C X g a ca) : SndO C X g (some a) true ca := ⟨PO.imp (po_some h.P) fun σ H Q ⟨F, ρ, s, R, p⟩ => by
  refine ⟨F, ρ, s, R, p.imp fun d s1 k v F1 ρ1 H1 R1 hF1 hρ1 t => ?_⟩
  obtain ⟨i, h, q⟩ := k F1 ρ1 H1 R1 hF1 hρ1
  cases d with
  | int j =>
    cases h
    exact ⟨j, t.flat (fun _ z => nomatch z), q⟩
  | _ => cases h⟩
def rSlAll (K : PySem.W.Frag) : V → Option Int → Option Int → Hp → VK → Prop := fun x lo hi H Q => rSlL K x lo hi H Q ∨ rSlS x lo hi H Q
theorem Snd.slc (M : Mods C X) {lo hi : Option Expr} {kl kh : Bool} {cl ch : Ex} {p2 : Pos} (ha : Snd C X g a ca) (hl : SndO C X g lo kl cl) (hh : SndO C X g hi kh ch) :
    Snd C X g (.Subscript a (.Slice lo hi none p2) pos) (.slc kl kh ca cl ch) := by
  refine Snd.val ?_ fun _ => rfl
  have e : ev g (.slc kl kh ca cl ch) = fun s => (pP (ev g ca s)).bind fun x s1 => (pP (ev g cl s1)).bind fun l s2 => ofO (bndD kl l) s2 fun l' =>
      (pP (ev g ch s2)).bind fun h s3 => ofO (bndD kh h) s3 fun h' => ofO (slcD (res s3 x) l' h') s3 fun r => .ok r s3 := by funext s; rw [ev]
  rw [e]
  refine PE.imp (pe_slice (r := rSlAll X.K) (SlR.or sl_list sl_str) ha.P hl.po hh.po) fun σ H Q ⟨F, ρ, s, R, p⟩ => ?_
  refine TP.go R p fun x s1 v F1 ρ1 H1 R1 hF1 hρ1 t1 p1 => ?_
  refine ⟨F1, ρ1, s1, R1, (Post.bind p1).imp fun l s2 p2 F2 ρ2 H2 R2 hF2 hρ2 => ?_⟩
  obtain ⟨l', e1, p3⟩ := Post.ofO p2
  refine ⟨l', e1, F2, ρ2, s2, R2, (Post.bind p3).imp fun h s3 p4 F3 ρ3 H3 R3 hF3 hρ3 => ?_⟩
  · obtain ⟨h', e2, p5⟩ := Post.ofO p4
    obtain ⟨⟨fr, z⟩, e3, k⟩ := Post.ofO p5
    have k : ∀ v F' ρ' H', Rel C F' ρ' s3 σ H' → Same F F' → Pre ρ ρ' → RepR C F' ρ' s3 σ H' (fr, z) v → Q v H' := k
    refine ⟨h', e2, ?_⟩
    have hF := (hF1.trans hF2).trans hF3
    have hρ := (hρ1.trans hρ2).trans hρ3
    have rd : Rdy C ρ3 F3 H3 (res s3 x) v := by
      rcases (t1.mono (hF2.trans hF3) (hρ2.trans hρ3)).rdy R3 with q | ⟨i, q⟩
      · exact q
      · rw [q] at e3; cases e3
    cases q : res s3 x with
    | lst ds =>
      rw [q] at e3 rd; cases e3
      obtain ⟨a, vs, rfl, q1, r1⟩ := rd.lst R3.c.leF
      refine .inl ⟨a, vs, rfl, .inl (.inl q1), fun p hp => ?_⟩
      exact R3.newF (d := .lst (cutD ds l' h')) hF hρ hp ⟨_, upd_same, r1.cut l' h'⟩ k
    | ro ds =>
      rw [q] at e3 rd; cases e3
      obtain ⟨a, vs, rfl, q1, r1⟩ := rd.ro R3.c.leF
      refine .inl ⟨a, vs, rfl, by rw [M.K]; exact q1, fun p hp => ?_⟩
      exact R3.newF (d := .lst (cutD ds l' h')) hF hρ hp ⟨_, upd_same, r1.cut l' h'⟩ k
    | str x =>
      rw [q] at e3 rd
      have e3 : (if okSz x.length = true then some (false, D.str (cutS x l' h')) else none) = some (fr, z) := e3
      split at e3
      · rename_i qs
        cases e3
        exact .inr ⟨x, rd.str, szLine qs, k _ F3 ρ3 H3 R3 hF hρ (.inr ⟨rfl, .inr rfl⟩)⟩
      · cases e3
    | _ => rw [q] at e3; cases e3

/-! ### calls -/
open Classical in
/-- what a callee leaves as it is: what our slots own, too -/
noncomputable def restOf (C : Ct) (s : S) (σ : St) (H : Hp) : Hp := fun a => if ∃ (i : Nat) (d : D), s.env[i]? = some (Sl.own d) ∧ σ[i]? = some (some (V.ref a)) then H a else C.R a
theorem Rel.toC {F : Hp} {ρ : List Addr} {s : S} {σ : St} {H : Hp} (r : Rel C F ρ s σ H) : RelC C.X (restOf C s σ H) F ρ s.cs H where
  leF := r.c.leF
  leR := fun a o h => by
    unfold restOf at h
    split at h
    · exact h
    · exact r.c.leR a o h
  dis := fun a h => by
    unfold restOf at h
    split at h
    · rename_i q
      obtain ⟨i, d, h1, h2⟩ := q
      obtain ⟨p, e, x, _⟩ := r.own i d h1
      rw [h2] at e; cases e
      exact x
    · exact r.c.dis a h
  clen := r.c.clen
  live := fun l a d h1 h2 => by
    obtain ⟨x, y, z⟩ := r.c.live l a d h1 h2
    refine ⟨x, ?_, z⟩
    unfold restOf
    split
    · rename_i q
      obtain ⟨i, u, h3, h4⟩ := q
      exact (r.oc i l u d a h3 h4 h1 h2).elim
    · exact y
  inj := r.c.inj
theorem Rel.ofC {F F' : Hp} {ρ ρ' : List Addr} {s : S} {σ : St} {H H' : Hp} {cs : List (Option D)} (r : Rel C F ρ s σ H) (c : RelC C.X (restOf C s σ H) F' ρ' cs H') (hF : Same F F') (hρ : Pre ρ ρ') : Rel C F' ρ' ⟨s.env, cs⟩ σ H' := by
  have own : ∀ {i : Nat} {d : D} {a : Addr}, s.env[i]? = some (.own d) → σ[i]? = some (some (.ref a)) → restOf C s σ H a = H a := fun {i d a} h1 h2 => by
    unfold restOf
    rw [if_pos ⟨i, d, h1, h2⟩]
  have keep : ∀ {a : Addr}, C.R a ≠ none → restOf C s σ H a = C.R a := fun {a} h => by
    unfold restOf
    split
    · rename_i q
      obtain ⟨i, d, h1, h2⟩ := q
      obtain ⟨p, e, _, x, _⟩ := r.own i d h1
      rw [h2] at e; cases e
      exact absurd x h
    · rfl
  refine ⟨fun a o h => hF a o (r.sF a o h), r.sρ.trans hρ, ⟨c.leF, fun a o h => c.leR a o (by rw [keep (by rw [h]; exact fun z => nomatch z)]; exact h), fun a h => c.dis a (by rw [keep h]; exact h), c.clen, fun l a d h1 h2 => ?_, c.inj⟩, r.len, fun i d h => ?_, fun i d h => ?_, r.oo, fun i l d d' a h1 h2 h3 h4 => ?_⟩
  · obtain ⟨x, y, z⟩ := c.live l a d h1 h2
    refine ⟨x, ?_, z⟩
    cases q : C.R a with
    | none => rfl
    | some o => rw [keep (by rw [q]; exact fun z => nomatch z), q] at y; cases y
  · obtain ⟨v, e, x⟩ := r.val i d h
    exact ⟨v, e, x.mono hF hρ⟩
  · obtain ⟨p, e, x, y, z⟩ := r.own i d h
    obtain ⟨o, ho, _⟩ := z.some
    have q : H' p = some o := c.leR p o (by rw [own h e]; exact ho)
    refine ⟨p, e, c.dis p (by rw [own h e, ho]; exact fun z => nomatch z), y, z.mono hF hρ (by rw [q, ho])⟩
  · obtain ⟨p, e, _, _, z⟩ := r.own i d h1
    rw [h2] at e; cases e
    obtain ⟨_, y, _⟩ := c.live l a d' h3 h4
    rw [own h1 h2] at y
    exact z.ne y
theorem withCs_eq (s : S) (cs : Option (List (Option D))) : s.withCs cs = ⟨s.env, cs.getD s.cs⟩ := by cases cs <;> rfl
/-- the callee's promise, by what the caller knows -/
theorem call_sp {fn : Fn} {F : Hp} {ρ : List Addr} {s : S} {σ : St} {H : Hp} {ds : List D} {vs : List V} {Q : VK} (R : Rel C F ρ s σ H) (t : Reps C.X ρ F ds vs) {F0 : Hp} {ρ0 : List Addr} (h0 : Same F0 F) (h1 : Pre ρ0 ρ)
    (p : Post (callD fn ds s) (fun x s' => ∀ v F' ρ' H', Rel C F' ρ' s' σ H' → Same F0 F' → Pre ρ0 ρ' → RepR C F' ρ' s' σ H' x v → Q v H') (XP C σ)) : spOf C.X fn vs H Q (fun c d H' => C.W c d σ H') := by
  unfold callD at p
  obtain ⟨hl, p⟩ := ite_post p
  refine ⟨restOf C s σ H, F, ρ, ds, s.cs, R.toC, t, hl, ?_⟩
  cases q : fn.run ds s.cs with
  | ret fr d cs =>
    rw [q] at p
    intro v F' ρ' H' c hF hρ rt
    have R' := R.ofC c hF hρ
    rw [← withCs_eq] at R'
    refine p v F' ρ' H' R' (h0.trans hF) (h1.trans hρ) ?_
    rcases rt with ⟨rfl, a, rfl, f, ha⟩ | ⟨rfl, h⟩
    · refine .inl ⟨rfl, a, rfl, ⟨f.f, ?_, fun l u h1 h2 => f.c l u h1 (by rw [withCs_eq] at h2; exact h2), fun i u h1 h2 => ?_⟩, ha⟩
      · cases q : C.R a with
        | none => rfl
        | some o =>
          have z := f.r
          unfold restOf at z
          split at z
          · rename_i q'
            obtain ⟨i, d, h1, h2⟩ := q'
            obtain ⟨p, e, _, x, _⟩ := R.own i d h1
            rw [h2] at e; cases e
            rw [x] at q; cases q
          · rw [z] at q; cases q
      · rw [withCs_eq] at h1
        have z := f.r
        unfold restOf at z
        rw [if_pos ⟨i, u, h1, h2⟩] at z
        obtain ⟨p, e, _, _, y⟩ := R.own i u h1
        rw [h2] at e; cases e
        exact y.ne z
    · exact .inr ⟨rfl, .inr h⟩
  | exn x cs =>
    rw [q] at p
    intro c dd F' ρ' H' rc hF hρ ex
    have R' := R.ofC rc hF hρ
    rw [← withCs_eq] at R'
    exact p c dd F' H' ρ' R' ex
  | bad => rw [q] at p; exact p
theorem pe_call0S {k : Nat} {f : Addr} {fd : FuncData} {ps : List Str} {sp : Sp} {CXc : CXT} {E : St → XK} {x : Str} (F : FnOk X.prog X.w X.K X.mg X.base CXc k f fd ps sp) (hr : Room k X.A) (hg : Gl X x) (hm : X.mg x = some (.ref f)) (hk : PySem.W.keepIn X.K (.ref f) = true) (hb : Binds X.K fd ps []) (hx : ∀ σ, PassesAt CXc X σ (E σ))
    (hdb : (x == ("__debug__" : Str)) = false) : PE X (.Call (.Name x p) [] [] pos) (fun σ H Q => sp [] H Q (E σ)) := by
  refine ⟨fun pins s σ H Q I h => ?_⟩
  refine wpAny_Call_Name_kw (ld_glob I hg hm ?_ hdb)
  exact PySem.W.callWith_K0 I.kIn hk (run_fnSD (us := []) (vs := []) F hr hb .nil (hx σ) I .nil h)
theorem Snd.call {k : Nat} {x : Str} {es : List Expr} {cs : Exs} (O : XOk C X k g) (hg : Gl X x) (hd : (x == ("__debug__" : Str)) = false) (hs : SndA C X g es cs) : Snd C X g (.Call (.Name x p) es [] pos) (.call x cs) := by
  refine Snd.val ?_ fun _ => rfl
  cases q : g.fn x with
  | none => exact PE.never (TR.bad fun s => by rw [ev, q])
  | some fn =>
    have e : ev g (.call x cs) = fun s => (evEs g cs s).bind fun ds s1 => callD fn ds s1 := by funext s; rw [ev, q]
    rw [e]
    obtain ⟨f, fd, ps, h1, h2, h3, h4⟩ := (O.g.fn x fn q).at_
    have h3 : FnOk X.prog X.w X.K X.mg X.base (L2.CX X.prog X.w) k f fd ps (spOf C.X fn) := by rw [O.K, O.mg]; exact h3
    cases es with
    | nil =>
      refine PE.imp (pe_call0S h3 O.room hg (by rw [O.mg]; exact h1) (by rw [O.K]; exact h2) (by rw [O.K]; exact h4) (fun σ => passAt O.tk σ) hd) fun σ H Q ⟨F, ρ, s, R, p⟩ => ?_
      cases hs.shape rfl
      dsimp only at p
      rw [evEs] at p
      exact call_sp R (ds := []) (show Reps C.X ρ F [] [] from rfl) (Same.refl _) (Pre.refl _) p
    | cons e es =>
      have hn := hs.ns
      obtain ⟨n1, n2⟩ := Bool.and_eq_true_iff.mp (show (notStar e && es.all notStar) = true from hn)
      refine PE.imp (pe_callSD (dvs := []) (ds := []) h3 O.room hg (by rw [O.mg]; exact h1) (by rw [O.K]; exact h2) (by rw [O.K]; exact h4) .nil (fun σ => passAt O.tk σ) hs.pa hd (star_cons n1) (star_plain n2)) fun σ H Q ⟨F, ρ, s, R, p⟩ => ?_
      refine TVs.go R p fun ds s1 vs F1 ρ1 H1 R1 hF1 hρ1 t1 p1 => ?_
      rw [List.append_nil]
      exact call_sp R1 t1 hF1 hρ1 p1
end Ev
set_option Elab.async false
set_option linter.all false
set_option maxRecDepth 100000
set_option maxHeartbeats 4000000
/-! EvD: statements: what they do; that this is what the body does. -/
namespace Ev
open PySem L2

inductive Ctl where
  | nx (s : S) | ret (fr : Bool) (d : D) (s : S) | brk (s : S) | ct (s : S) | exn (x : Exn) (s : S) | bad
def RE.to {α : Type} (r : RE α) (f : α → S → Ctl) : Ctl := match r with
  | .ok a s => f a s
  | .exn x s => .exn x s
  | .bad => .bad
def Ctl.then (c : Ctl) (f : S → Ctl) : Ctl := match c with
  | .nx s => f s
  | c => c
@[simp] theorem RE.to_ok {α : Type} (a : α) (s : S) (f : α → S → Ctl) : (RE.ok a s).to f = f a s := rfl
@[simp] theorem RE.to_exn {α : Type} (x : Exn) (s : S) (f : α → S → Ctl) : (RE.exn x s : RE α).to f = .exn x s := rfl
@[simp] theorem RE.to_bad {α : Type} (f : α → S → Ctl) : (RE.bad : RE α).to f = .bad := rfl
@[simp] theorem Ctl.then_nx (s : S) (f : S → Ctl) : (Ctl.nx s).then f = f s := rfl
@[simp] theorem Ctl.then_ret (fr : Bool) (d : D) (s : S) (f : S → Ctl) : (Ctl.ret fr d s).then f = .ret fr d s := rfl
@[simp] theorem Ctl.then_brk (s : S) (f : S → Ctl) : (Ctl.brk s).then f = .brk s := rfl
@[simp] theorem Ctl.then_ct (s : S) (f : S → Ctl) : (Ctl.ct s).then f = .ct s := rfl
@[simp] theorem Ctl.then_exn (x : Exn) (s : S) (f : S → Ctl) : (Ctl.exn x s).then f = .exn x s := rfl
@[simp] theorem Ctl.then_bad (f : S → Ctl) : Ctl.bad.then f = .bad := rfl

def ofC {α : Type} (o : Option α) (f : α → Ctl) : Ctl := match o with
  | some a => f a
  | none => .bad
@[simp] theorem ofC_some {α : Type} (a : α) (f : α → Ctl) : ofC (some a) f = f a := rfl
@[simp] theorem ofC_none {α : Type} (f : α → Ctl) : ofC none f = .bad := rfl
@[simp] theorem ofO_some {α β : Type} (a : α) (s : S) (f : α → RE β) : ofO (some a) s f = f a := rfl
@[simp] theorem ofO_none {α β : Type} (s : S) (f : α → RE β) : ofO none s f = .bad := rfl

/-- an owned object changed in place -/
def mutD (r : D) (s : S) (f : D → Option D) : Ctl := match r with
  | .own i => match s.env[i]? with
    | some (.own d) => ofC (f d) fun d' => .nx (s.put i (.own d'))
    | _ => .bad
  | .cell l => match s.cs[l]? with
    | some (some d) => ofC (f d) fun d' => .nx ⟨s.env, s.cs.set l (some d')⟩
    | _ => .bad
  | _ => .bad
def appD (y : D) : D → Option D
  | .lst ds => if okSz (ds.length + 1) = true then some (.lst (ds ++ [y])) else none
  | _ => none
def keyD : D → Option Key
  | .int i => some (.inl i)
  | .str x => some (.inr x)
  | _ => none
/-- a dict's store: in its place, or at the end -/
def putD : List Key → List D → Key → D → List Key × List D
  | k' :: ks, d' :: ds, k, d => if k' = k then (k' :: ks, d :: ds) else (k' :: (putD ks ds k d).1, d' :: (putD ks ds k d).2)
  | _, _, k, d => ([k], [d])
def setD (i y : D) : D → Option D
  | .lst ds => match i with
    | .int k => (ixN ds.length k).map fun j => .lst (ds.set j y)
    | _ => none
  | .dct ks ds => (keyD i).bind fun k => if okSz (ks.length + 1) = true then some (.dct (putD ks ds k y).1 (putD ks ds k y).2) else none
  | _ => none
def isList : D → Bool
  | .lst _ => true
  | _ => false
def iterD : D → Option (List D)
  | .lst ds => some ds
  | .tup ds => some ds
  | .ro ds => some ds
  | .str x => some (x.cps.toList.map fun c => .str ⟨#[c]⟩)
  | _ => none
def rngOk (i : Int) : Bool := decide (-(2 ^ 62) ≤ i) && decide (i < 2 ^ 62)
def rngD (lo : Int) (n : Nat) : List D := (List.range n).map fun (k : Nat) => .int (lo + k)
def iterE (g : G) : It → S → RE (List D)
  | .rng1 a, s => (pE (ev g a s)).bind fun d s1 => match d with
    | .int j => if rngOk j = true then .ok (rngD 0 j.toNat) s1 else .bad
    | _ => .bad
  | .rng2 a b, s => (pE (ev g a s)).bind fun d s1 => (pE (ev g b s1)).bind fun e s2 => match d, e with
    | .int i, .int j => if (rngOk i && rngOk j) = true then .ok (rngD i (j - i).toNat) s2 else .bad
    | _, _ => .bad
  | .seq a, s => (pE (ev g a s)).bind fun d s1 => ofO (iterD d) s1 fun ds => .ok ds s1
/-- the turns of a for -/
def forL (t : Tg) (b : S → Ctl) : List D → S → Ctl
  | [], s => .nx s
  | d :: ds, s => ofC (setT t d s) fun s1 => match b s1 with
    | .nx s2 => forL t b ds s2
    | .ct s2 => forL t b ds s2
    | .brk s2 => .nx s2
    | c => c
/-- n turns of a while, at most -/
def whlN (c : S → RE Bool) (b : S → Ctl) : Nat → S → Option Ctl
  | 0, _ => none
  | n + 1, s => match c s with
    | .ok true s1 => match b s1 with
      | .nx s2 => whlN c b n s2
      | .ct s2 => whlN c b n s2
      | .brk s2 => some (.nx s2)
      | r => some r
    | .ok false s1 => some (.nx s1)
    | .exn x s1 => some (.exn x s1)
    | .bad => some .bad
open Classical in
noncomputable def whlL (c : S → RE Bool) (b : S → Ctl) (s : S) : Ctl := if h : ∃ n r, whlN c b n s = some r then h.choose_spec.choose else .bad
theorem whlN_mono {c : S → RE Bool} {b : S → Ctl} : ∀ {n m : Nat} {s : S} {r : Ctl}, whlN c b n s = some r → n ≤ m → whlN c b m s = some r
  | 0, _, _, _, h, _ => nomatch h
  | n + 1, 0, _, _, _, h => absurd h (by omega)
  | n + 1, m + 1, s, r, h, hl => by
    unfold whlN at h ⊢
    cases q : c s with
    | bad => rw [q] at h; exact h
    | exn x s1 => rw [q] at h; exact h
    | ok k s1 =>
      rw [q] at h
      cases k with
      | false => exact h
      | true =>
        dsimp only at h ⊢
        cases q2 : b s1 with
        | nx s2 => rw [q2] at h; exact whlN_mono (n := n) h (by omega)
        | ct s2 => rw [q2] at h; exact whlN_mono (n := n) h (by omega)
        | brk s2 => rw [q2] at h; exact h
        | ret fr d s2 => rw [q2] at h; exact h
        | exn x s2 => rw [q2] at h; exact h
        | bad => rw [q2] at h; exact h
theorem whlL_of {c : S → RE Bool} {b : S → Ctl} {n : Nat} {s : S} {r : Ctl} (h : whlN c b n s = some r) : whlL c b s = r := by
  have e : ∃ n r, whlN c b n s = some r := ⟨n, r, h⟩
  unfold whlL
  rw [dif_pos e]
  have h2 := e.choose_spec.choose_spec
  have h3 := whlN_mono h (Nat.le_max_left n e.choose)
  have h4 := whlN_mono h2 (Nat.le_max_right n e.choose)
  rw [h3] at h4
  exact (Option.some.inj h4).symm
theorem whlL_ok {c : S → RE Bool} {b : S → Ctl} {s : S} (h : whlL c b s ≠ .bad) : ∃ n, whlN c b n s = some (whlL c b s) := by
  unfold whlL at h ⊢
  split
  · rename_i e
    exact ⟨e.choose, e.choose_spec.choose_spec⟩
  · rename_i e
    rw [dif_neg e] at h
    exact absurd rfl h

/-- an assignment's store -/
def storeD (m : Md) (i : Nat) (r : Bool × D) (s : S) : Ctl := match m with
  | .val => (fix r.2 s).to fun d s1 => .nx (s1.put i (.val d))
  | .own => if r.1 = true then .nx (s.put i (.own r.2)) else .bad
  | .cell => if r.1 = true then .nx ((⟨s.env, s.cs ++ [some r.2]⟩ : S).put i (.val (.cell s.cs.length))) else .bad
def retD (r : Bool × D) (s : S) : Ctl := if r.1 = true then .ret true r.2 s else match r.2 with
  | .own i => match s.env[i]? with
    | some (.own d) => .ret true d (s.put i .no)
    | some (.val d) => .ret false d s
    | _ => .bad
  | d => .ret false d s
def augD : Bop → D → D → Option D
  | .add, .int a, .int b => some (.int (a + b))
  | .sub, .int a, .int b => some (.int (a - b))
  | _, _, _ => none
mutual
noncomputable def evS (g : G) : Sm → S → Ctl
  | .bad, _ => .bad
  | .pass, s => .nx s
  | .set m i e, s => (ev g e s).to fun r s1 => storeD m i r s1
  | .expr e, s => (pP (ev g e s)).to fun _ s1 => .nx s1
  | .ret e, s => (ev g e s).to retD
  | .ret0, s => .ret false .non s
  | .ife c a b, s => (pB (ev g c s)).to fun k s1 => if k = true then evSs g a s1 else evSs g b s1
  | .for t it b, s => (iterE g it s).to fun ds s1 => forL t (fun s => evSs g b s) ds s1
  | .whl c b, s => whlL (fun s => pB (ev g c s)) (fun s => evSs g b s) s
  | .brk, s => .brk s
  | .cont, s => .ct s
  | .app x e, s => (pP (ev g x s)).to fun r s1 => if isList (res s1 r) = true then (pE (ev g e s1)).to fun d s2 => mutD r s2 (appD d) else .bad
  | .seti x i e, s => (pE (ev g e s)).to fun d s1 => (pP (ev g x s1)).to fun r s2 => (pE (ev g i s2)).to fun k s3 => mutD r s3 (setD k d)
  | .aug i o e, s => match s.env[i]? with
    | some (.val x) => (pE (ev g e s)).to fun y s1 => ofC (augD o x y) fun z => .nx (s1.put i (.val z))
    | _ => .bad
  | .unp t e, s => (pE (ev g e s)).to fun d s1 => ofC (setT t d s1) fun s2 => .nx s2
noncomputable def evSs (g : G) : Sms → S → Ctl
  | .nil, s => .nx s
  | .cons a r, s => (evS g a s).then fun s1 => evSs g r s1
end
end Ev
set_option Elab.async false
set_option linter.all false
set_option maxRecDepth 100000
set_option maxHeartbeats 4000000
/-! EvD2: the rules of the statements. -/
namespace Ev
open PySem L2

abbrev Ct.at (C : Ct) (F0 : Hp) (ρ0 : List Addr) : Ct := { C with F0 := F0, ρ0 := ρ0 }
theorem Rel.base {C : Ct} {F : Hp} {ρ : List Addr} {s : S} {σ : St} {H : Hp} (r : Rel C F ρ s σ H) : Rel (C.at F ρ) F ρ s σ H := ⟨Same.refl _, Pre.refl _, r.c, r.len, r.val, r.own, r.oo, r.oc⟩
theorem Rel.up {C : Ct} {F1 F : Hp} {ρ1 ρ : List Addr} {s : S} {σ : St} {H : Hp} (hF : Same C.F0 F1) (hρ : Pre C.ρ0 ρ1) (r : Rel (C.at F1 ρ1) F ρ s σ H) : Rel C F ρ s σ H := ⟨hF.trans r.sF, hρ.trans r.sρ, r.c, r.len, r.val, r.own, r.oo, r.oc⟩
theorem Fresh.up {C : Ct} {F1 F : Hp} {ρ1 ρ : List Addr} {s : S} {σ : St} {p : Addr} (r : Fresh (C.at F1 ρ1) F ρ s σ p) : Fresh C F ρ s σ p := ⟨r.f, r.r, r.c, r.o⟩
theorem Fresh.dn {C : Ct} {F1 F : Hp} {ρ1 ρ : List Addr} {s : S} {σ : St} {p : Addr} (r : Fresh C F ρ s σ p) : Fresh (C.at F1 ρ1) F ρ s σ p := ⟨r.f, r.r, r.c, r.o⟩

def RetR (C : Ct) (F : Hp) (ρ : List Addr) (s : S) (σ : St) (H : Hp) (fr : Bool) (d : D) (v : V) : Prop :=
  (fr = true ∧ ∃ p, v = .ref p ∧ Fresh C F ρ s σ p ∧ At C.X ρ F H p d) ∨ (fr = false ∧ Rep C.X ρ F d v)
def PostC (C : Ct) (D : Ends) (c : Ctl) : Prop := match c with
  | .nx s => ∀ F ρ σ H, Rel C F ρ s σ H → D.nx σ H
  | .ret fr d s => ∀ v F ρ σ H, Rel C F ρ s σ H → RetR C F ρ s σ H fr d v → D.rt v H
  | .brk s => ∀ F ρ σ H, Rel C F ρ s σ H → D.bk σ H
  | .ct s => ∀ F ρ σ H, Rel C F ρ s σ H → D.ct σ H
  | .exn x s => ∀ σ, XP C σ x s
  | .bad => False
def TSt (C : Ct) (r : S → Ctl) : TS := fun D σ H => ∃ F ρ s, Rel C F ρ s σ H ∧ PostC C D (r s)
variable {C : Ct} {X : Cx} {g : G}
theorem PS.imp {st : Stmt} {t t' : TS} (h : PS X st t) (k : ∀ D σ H, t' D σ H → t D σ H) : PS X st t' := ⟨fun pins s σ H D I q => h.run pins s σ H D I (k _ _ _ q)⟩
theorem PSs.imp {st : List Stmt} {t t' : TS} (h : PSs X st t) (k : ∀ D σ H, t' D σ H → t D σ H) : PSs X st t' := ⟨fun pins s σ H D I q => h.run pins s σ H D I (k _ _ _ q)⟩
theorem PostC.to {α : Type} {r : RE α} {f : α → S → Ctl} {D : Ends} {σ : St} (h : PostC C D (r.to f)) : Post r (fun a s => PostC C D (f a s)) (XP C σ) := by
  cases r with
  | ok a s => exact h
  | exn x s => exact h σ
  | bad => exact h
theorem PostC.ofC {α : Type} {o : Option α} {f : α → Ctl} {D : Ends} (h : PostC C D (ofC o f)) : ∃ a, o = some a ∧ PostC C D (f a) := by
  cases o with
  | none => exact h.elim
  | some a => exact ⟨a, rfl, h⟩
theorem postc_ite {c : Prop} [Decidable c] {r : Ctl} {D : Ends} (h : PostC C D (if c then r else .bad)) : c ∧ PostC C D r := by
  by_cases q : c
  · rw [if_pos q] at h; exact ⟨q, h⟩
  · rw [if_neg q] at h; exact h.elim

/-- a statement, a block, and their small forms -/
structure SndS (C : Ct) (X : Cx) (g : G) (st : Stmt) (c : Sm) : Prop where
  ps : PS X st (TSt C (evS g c))
structure SndB (C : Ct) (X : Cx) (g : G) (st : List Stmt) (c : Sms) : Prop where
  ps : PSs X st (TSt C (evSs g c))
theorem SndS.bad {st : Stmt} : SndS C X g st .bad := ⟨PS.imp ps_never fun D σ H ⟨F, ρ, s, R, p⟩ => by rw [evS] at p; exact p⟩
theorem SndB.nil : SndB C X g [] .nil := ⟨PSs.imp pss_nil fun D σ H ⟨F, ρ, s, R, p⟩ => by rw [evSs] at p; exact p F ρ σ H R⟩
theorem SndB.cons {st : Stmt} {r : List Stmt} {c : Sm} {cr : Sms} (h : SndS C X g st c) (hr : SndB C X g r cr) : SndB C X g (st :: r) (.cons c cr) := ⟨PSs.imp (pss_cons h.ps hr.ps) fun D σ H ⟨F, ρ, s, R, p⟩ => by
  rw [evSs] at p
  refine ⟨F, ρ, s, R, ?_⟩
  cases q : evS g c s with
  | nx s1 => rw [q] at p; exact fun F1 ρ1 σ1 H1 R1 => ⟨F1, ρ1, s1, R1, p⟩
  | ret fr d s1 => rw [q] at p; exact p
  | brk s1 => rw [q] at p; exact p
  | ct s1 => rw [q] at p; exact p
  | exn x s1 => rw [q] at p; exact p
  | bad => rw [q] at p; exact p⟩
theorem SndS.pass {pos : Pos} : SndS C X g (.Pass pos) .pass := ⟨PS.imp ps_pass fun D σ H ⟨F, ρ, s, R, p⟩ => by rw [evS] at p; exact p F ρ σ H R⟩
theorem SndS.brk {pos : Pos} : SndS C X g (.Break pos) .brk := ⟨PS.imp ps_break fun D σ H ⟨F, ρ, s, R, p⟩ => by rw [evS] at p; exact p F ρ σ H R⟩
theorem SndS.cont {pos : Pos} : SndS C X g (.Continue pos) .cont := ⟨PS.imp ps_continue fun D σ H ⟨F, ρ, s, R, p⟩ => by rw [evS] at p; exact p F ρ σ H R⟩
theorem SndS.doc {x : Str} {j : Nat} {pos pos' : Pos} : SndS C X g (.Expr (.Constant (.str x) j pos) pos') .pass := ⟨PS.imp ps_doc fun D σ H ⟨F, ρ, s, R, p⟩ => by rw [evS] at p; exact p F ρ σ H R⟩

section
variable {F : Hp} {ρ : List Addr} {s : S} {σ : St} {H : Hp} {D : Ends}
theorem store_ok {m : Md} {i : Nat} {x : Bool × Ev.D} {v : V} (R : Rel C F ρ s σ H) (rv : RepR C F ρ s σ H x v) (p : PostC C D (storeD m i x s)) : D.nx (σ.set i (some v)) H := by
  obtain ⟨fr, d⟩ := x
  cases m with
  | val =>
    obtain ⟨F2, h2, R2, t2⟩ := rv.t R
    have p : PostC C D ((Ev.fix d s).to fun d s1 => .nx (s1.put i (.val d))) := p
    obtain ⟨d', s2, F3, h3, R3, t3, k⟩ := t2.fix R2 (PostC.to (σ := σ) p)
    exact k F3 ρ _ H (R3.setV i t3)
  | own =>
    have p : PostC C D (if fr = true then .nx (s.put i (.own d)) else .bad) := p
    obtain ⟨q, k⟩ := postc_ite p
    rcases rv with ⟨_, a, rfl, f, ha⟩ | ⟨q', _⟩
    · exact k F ρ _ H (R.setO i f ha)
    · rw [q] at q'; cases q'
  | cell =>
    have p : PostC C D (if fr = true then .nx ((⟨s.env, s.cs ++ [some d]⟩ : S).put i (.val (.cell s.cs.length))) else .bad) := p
    obtain ⟨q, k⟩ := postc_ite p
    rcases rv with ⟨_, a, rfl, f, ha⟩ | ⟨q', _⟩
    · exact k F (ρ ++ [a]) _ H ((R.newC f ha).setV i ⟨a, rfl, by rw [← R.c.clen]; simp⟩)
    · rw [q] at q'; cases q'
theorem ret_ok {x : Bool × Ev.D} {v : V} (R : Rel C F ρ s σ H) (rv : RepR C F ρ s σ H x v) (p : PostC C D (retD x s)) : D.rt v H := by
  obtain ⟨fr, d⟩ := x
  rcases rv with ⟨q, a, rfl, f, ha⟩ | ⟨q, t⟩
  · cases q
    exact p _ F ρ σ H R (.inl ⟨rfl, a, rfl, f, ha⟩)
  · cases q
    rcases t with ⟨i, e, hv⟩ | h
    · have e : d = .own i := e
      subst e
      have p : PostC C D (match s.env[i]? with
        | some (.own d) => .ret true d (s.put i .no)
        | some (.val d) => .ret false d s
        | _ => .bad) := p
      cases q : s.env[i]? with
      | none => rw [q] at p; exact p.elim
      | some x =>
        rw [q] at p
        cases x with
        | no => exact p.elim
        | val d =>
          obtain ⟨w, e1, e2⟩ := R.val i d q
          rw [hv] at e1; cases e1
          exact p _ F ρ σ H R (.inr ⟨rfl, e2⟩)
        | own d =>
          obtain ⟨a, e1, x, y, z⟩ := R.own i d q
          rw [hv] at e1; cases e1
          refine p _ F ρ σ H (R.drop i) (.inl ⟨rfl, a, rfl, ⟨x, y, fun l u h1 h2 => R.oc i l d u a q hv h1 h2, fun j u h1 h2 => ?_⟩, z⟩)
          rcases get_set h1 with ⟨_, q'⟩ | ⟨n, q'⟩
          · cases q'
          · exact n (R.oo i j d u a q q' hv h2)
    · have p : PostC C D (.ret false d s) := by
        cases d with
        | own i => exact h.elim
        | _ => exact p
      exact p _ F ρ σ H R (.inr ⟨rfl, h⟩)
end
variable {e c : Expr} {ce cc : Ex} {pos : Pos}
theorem SndS.set {x : Str} {i : Nat} {m : Md} {pos' : Pos} (h : Snd C X g e ce) (hN : X.N.Nodup) (hi : X.N[i]? = some x) (hx : Loc X.env.scope x) (hs : swapsWith e (some (.Name x pos')) pos.line X.env = pure false) (hf : X.fn x = true ∨ X.env.scope.names.lookup x = some .local) :
    SndS C X g (.Assign [.Name x pos'] e pos) (.set m i ce) := ⟨PS.imp (ps_set hN hi hx h.pe hs hf) fun D σ H ⟨F, ρ, s, R, p⟩ => by
  rw [evS] at p
  exact ⟨F, ρ, s, R, (PostC.to p).imp fun r s1 k v F1 ρ1 H1 R1 hF hρ rv => store_ok R1 rv k⟩⟩
theorem SndS.expr (h : Snd C X g e ce) (hs : swapsWith e none pos.line X.env = pure false) : SndS C X g (.Expr e pos) (.expr ce) := ⟨PS.imp (ps_expr h.P hs) fun D σ H ⟨F, ρ, s, R, p⟩ => by
  rw [evS] at p
  exact ⟨F, ρ, s, R, (PostC.to p).imp fun r s1 k v F1 ρ1 H1 R1 hF hρ rv => k F1 ρ1 σ H1 R1⟩⟩
theorem SndS.ret (h : Snd C X g e ce) : SndS C X g (.Return (some e) pos) (.ret ce) := ⟨PS.imp (ps_ret h.pe) fun D σ H ⟨F, ρ, s, R, p⟩ => by
  rw [evS] at p
  exact ⟨F, ρ, s, R, (PostC.to p).imp fun r s1 k v F1 ρ1 H1 R1 hF hρ rv => ret_ok R1 rv k⟩⟩
theorem SndS.ret0 : SndS C X g (.Return none pos) .ret0 := ⟨PS.imp ps_retN fun D σ H ⟨F, ρ, s, R, p⟩ => by
  rw [evS] at p
  exact p _ F ρ σ H R (.inr ⟨rfl, rfl⟩)⟩
theorem SndS.ife {a b : List Stmt} {ca cb : Sms} (hc : Snd C X g c cc) (ha : SndB C X g a ca) (hb : SndB C X g b cb) : SndS C X g (.If c a b pos) (.ife cc ca cb) := ⟨PS.imp (ps_if hc.pt ha.ps hb.ps) fun D σ H ⟨F, ρ, s, R, p⟩ => by
  rw [evS] at p
  refine ⟨F, ρ, s, R, (PostC.to p).imp fun k s1 q F1 ρ1 H1 R1 hF hρ => ?_⟩
  cases k with
  | true => exact ⟨F1, ρ1, s1, R1, q⟩
  | false => exact ⟨F1, ρ1, s1, R1, q⟩⟩

/-! ### for -/
/-- a target and its small form -/
structure SndT (X : Cx) (K : Kx) (tg : Expr) (t : Tg) : Prop where
  pg : ∃ tgr, PG X tg tgr ∧ ∀ (C : Ct), C.X = K → ∀ {F : Hp} {ρ : List Addr} {s s1 : S} {σ : St} {H : Hp} {d : D} {v : V} {Q : St → Hp → Prop}, Rel C F ρ s σ H → Rep C.X ρ F d v → setT t d s = some s1 → (∀ σ', Rel C F ρ s1 σ' H → Q σ' H) → tgr v σ H Q
theorem SndT.one {x : Str} {i : Nat} {K : Kx} (h : PG X (.Name x pos) (gName i)) : SndT X K (.Name x pos) (.one i) := ⟨_, h, fun C _ {F ρ s s1 σ H d v Q} R t e k => by
  cases e
  exact k _ (R.setV i t)⟩
theorem SndT.two {x y : Expr} {i j n : Nat} {K : Kx} (hK : X.K = K.K) (h : PG X (.Tuple [x, y] n pos) (gTup X.K 2 (gCons (gName i) (gCons (gName j) gNil)))) : SndT X K (.Tuple [x, y] n pos) (.two i j) := ⟨_, h, fun C e {F ρ s s1 σ H d v Q} R t q k => by
  subst e
  cases d with
  | tup ds =>
    match ds, q with
    | [a, b], q =>
      cases q
      obtain ⟨p, vs, rfl, hq, va, r1, rfl, ta, vb, r2, rfl, tb, rfl⟩ := t
      refine ⟨p, _, rfl, by rw [hK]; exact R.c.leF.tup hq, rfl, va, _, rfl, vb, _, rfl, rfl, ?_⟩
      exact k _ ((R.setV i ta).setV j tb)
  | _ => cases q⟩
theorem SndT.three {x y z : Expr} {i j l n : Nat} {K : Kx} (hK : X.K = K.K) (h : PG X (.Tuple [x, y, z] n pos) (gTup X.K 3 (gCons (gName i) (gCons (gName j) (gCons (gName l) gNil))))) : SndT X K (.Tuple [x, y, z] n pos) (.three i j l) := ⟨_, h, fun C e {F ρ s s1 σ H d v Q} R t q k => by
  subst e
  cases d with
  | tup ds =>
    match ds, q with
    | [a, b, c], q =>
      cases q
      obtain ⟨p, vs, rfl, hq, va, r1, rfl, ta, vb, r2, rfl, tb, vc, r3, rfl, tc, rfl⟩ := t
      refine ⟨p, _, rfl, by rw [hK]; exact R.c.leF.tup hq, rfl, va, _, rfl, vb, _, rfl, vc, _, rfl, rfl, ?_⟩
      exact k _ (((R.setV i ta).setV j tb).setV l tc)
  | _ => cases q⟩
theorem SndS.unp {tg : Expr} {t : Tg} (h : Snd C X g e ce) (ht : SndT X C.X tg t) (hs : swapsWithSole [tg] e pos.line X.env = pure false) (hw : swappedStores [tg] e X.env = pure none) (h1 : (assignEach [tg] X.env).map (·.2) = [assign tg X.env]) : SndS C X g (.Assign [tg] e pos) (.unp t ce) := by
  obtain ⟨tgr, h2, h3⟩ := ht.pg
  refine ⟨PS.imp (ps_asg h.E h2 hs hw h1) fun D σ H ⟨F, ρ, s, R, p⟩ => ?_⟩
  rw [evS] at p
  refine ⟨F, ρ, s, R, (PostC.to p).imp fun d s1 k v F1 ρ1 H1 R1 hF hρ rv => ?_⟩
  obtain ⟨s2, e2, k⟩ := PostC.ofC k
  exact h3 C rfl R1 rv e2 fun σ' R2 => k F1 ρ1 σ' H1 R2

/-- the iterator J yields what the items ds tell, as long as what was by value at F1 stays -/
structure Walks (X : Kx) (F1 : Hp) (ρ1 : List Addr) (ds : List Ev.D) (J : L2.It) : Prop where
  go : ∀ (F2 H2 : Hp) (i : Nat), Same F1 F2 → Le F2 H2 → i < ds.length → J.go i H2
  yld : ∀ (F2 H2 H' : Hp) (i : Nat) (d : Ev.D) (x : V), Same F1 F2 → Le F2 H2 → ds[i]? = some d → J.yld i H2 x H' → H' = H2 ∧ Rep X ρ1 F1 d x
  stop : ∀ (F2 H2 : Hp), Same F1 F2 → Le F2 H2 → J.stop ds.length H2
/-- what a for walks, and its items -/
structure SndI (C : Ct) (X : Cx) (g : G) (tg iter : Expr) (it : It) : Prop where
  pi : ∃ wi, PI X tg iter wi ∧ ∀ (Rr : L2.It → Hp → Prop) {σ : St} {H F : Hp} {ρ : List Addr} {s : S}, Rel C F ρ s σ H →
    Post (iterE g it s) (fun ds s1 => ∀ F1 ρ1 H1 J, Rel C F1 ρ1 s1 σ H1 → Same F F1 → Pre ρ ρ1 → Walks C.X F1 ρ1 ds J → Rr J H1) (XP C σ) → wi σ H Rr
theorem drop_cons {α : Type} {l : List α} {i : Nat} (h : i < l.length) : l.drop i = l[i] :: l.drop (i + 1) := List.drop_eq_getElem_cons h
theorem SndS.for {tg iter : Expr} {t : Tg} {it : It} {b : List Stmt} {cb : Sms} (hi : SndI C X g tg iter it) (ht : SndT X C.X tg t) (hb : ∀ F0 ρ0, SndB (C.at F0 ρ0) X g b cb) (hp : PassesOwn (model X.prog X.w) X.A X.env X.xe) (hc : X.calm = true) (hs : ∀ x, foldedSetIterable iter X.env x = pure x) :
    SndS C X g (.For tg iter b [] pos) (.for t it cb) := by
  obtain ⟨wi, h1, h2⟩ := hi.pi
  obtain ⟨tgr, h3, h4⟩ := ht.pg
  have h5 : PSs X b fun D σ H => ∃ F0 ρ0, TSt (C.at F0 ρ0) (evSs g cb) D σ H := ⟨fun pins s σ H D I q => by
    obtain ⟨F0, ρ0, q⟩ := q
    exact (hb F0 ρ0).ps.run pins s σ H D I q⟩
  refine ⟨PS.imp (ps_for hp hc h1 h3 h5 hs) fun D σ H ⟨F, ρ, s, R, p⟩ => ?_⟩
  rw [evS] at p
  refine h2 _ R ((PostC.to p).imp fun ds s1 k F1 ρ1 H1 J R1 hF hρ w => ?_)
  refine ⟨fun i m σ H => m = ds.length - i ∧ i ≤ ds.length ∧ ∃ F2 ρ2 s2, Rel (C.at F1 ρ1) F2 ρ2 s2 σ H ∧ PostC C D (forL t (fun s => evSs g cb s) (ds.drop i) s2), ⟨_, rfl, Nat.zero_le _, F1, ρ1, s1, R1.base, k⟩, ?_⟩
  rintro i m σ H ⟨rfl, hi, F2, ρ2, s2, R2, p2⟩
  have up : ∀ {F' ρ' s' σ' H'}, Rel (C.at F1 ρ1) F' ρ' s' σ' H' → Rel C F' ρ' s' σ' H' := fun r => r.up R1.sF R1.sρ
  by_cases hlt : i < ds.length
  · refine .inr ⟨w.go F2 H i R2.sF R2.c.leF hlt, fun σ H => ∃ F2 ρ2 s2, Rel (C.at F1 ρ1) F2 ρ2 s2 σ H ∧ PostC C D (forL t (fun s => evSs g cb s) (ds.drop (i + 1)) s2), fun σ' H' h => ⟨_, by omega, rfl, hlt, h⟩, fun x H' y => ?_⟩
    obtain ⟨e, hv⟩ := w.yld F2 H H' i ds[i] x R2.sF R2.c.leF (List.getElem?_eq_getElem hlt) y
    subst e
    rw [drop_cons hlt, forL] at p2
    obtain ⟨s3, e3, p3⟩ := PostC.ofC p2
    refine h4 (C.at F1 ρ1) rfl R2 (hv.mono R2.sF R2.sρ) e3 fun σ' R3 => ⟨F1, ρ1, F2, ρ2, s3, R3, ?_⟩
    cases q : evSs g cb s3 with
    | nx s4 => rw [q] at p3; exact fun F' ρ' σ' H' R' => ⟨F', ρ', s4, R', p3⟩
    | ct s4 => rw [q] at p3; exact fun F' ρ' σ' H' R' => ⟨F', ρ', s4, R', p3⟩
    | brk s4 => rw [q] at p3; exact fun F' ρ' σ' H' R' => p3 F' ρ' σ' H' (up R')
    | ret fr d s4 => rw [q] at p3; exact fun v F' ρ' σ' H' R' rr => p3 v F' ρ' σ' H' (up R') (rr.imp (fun ⟨a, p, b, c, d⟩ => ⟨a, p, b, c.up, d⟩) id)
    | exn x s4 => rw [q] at p3; exact fun σ c dd F' H' ρ' R' ex => p3 σ c dd F' H' ρ' (up R') ex
    | bad => rw [q] at p3; exact p3.elim
  · have e : i = ds.length := by omega
    subst e
    rw [List.drop_length, forL] at p2
    exact .inl ⟨w.stop F2 H R2.sF R2.c.leF, p2 F2 ρ2 σ H (up R2)⟩

/-! ### the iterators -/
theorem PI.or {tg e : Expr} {w w' : TI} (h : PI X tg e w) (h' : PI X tg e w') : PI X tg e fun σ H R => w σ H R ∨ w' σ H R := ⟨fun pins s σ H R I q => by
  rcases q with q | q
  · exact h.run pins s σ H R I q
  · exact h'.run pins s σ H R I q⟩
theorem rngD_get {lo : Int} {n i : Nat} {d : Ev.D} (h : (rngD lo n)[i]? = some d) : i < n ∧ d = .int (lo + i) := by
  unfold rngD at h
  rw [List.getElem?_map] at h
  obtain ⟨k, h1, h2⟩ := omap h
  have hl := lt_of_get h1
  rw [List.length_range] at hl
  rw [List.getElem?_range hl] at h1
  cases h1
  exact ⟨hl, h2.symm⟩
theorem rngD_len (lo : Int) (n : Nat) : (rngD lo n).length = n := by simp [rngD]
theorem walks_rng (X : Kx) (F : Hp) (ρ : List Addr) (lo : Int) (n : Nat) : Walks X F ρ (rngD lo n) (Itr lo n) where
  go := fun _ _ i _ _ h => by rw [rngD_len] at h; exact h
  yld := fun _ _ _ i d x _ _ h y => by
    obtain ⟨h1, h2⟩ := rngD_get h
    exact ⟨y.1, by rw [h2]; exact y.2⟩
  stop := fun _ _ _ _ => by rw [rngD_len]; exact Nat.le_refl n
theorem rngOk_b {i : Int} (h : rngOk i = true) : -(2 ^ 62) ≤ i ∧ i < 2 ^ 62 := by
  obtain ⟨h1, h2⟩ := Bool.and_eq_true_iff.mp h
  exact ⟨of_decide_eq_true h1, of_decide_eq_true h2⟩
variable {a b iter tg : Expr} {ca cb : Ex} {p : Pos}
theorem SndI.rng1 (M : Mods C X) (hg : Gl X "range") (hn : notStar a = true) (ha : Snd C X g a ca) : SndI C X g tg (.Call (.Name "range" p) [a] [] pos) (.rng1 ca) := by
  refine ⟨_, pi_range1 hg (M.free _ (by decide +kernel)) (pa_cons ha.E pa_nil (star_cons hn)) (star_cons hn), fun Rr {σ H F ρ s} R q => ?_⟩
  rw [iterE] at q
  refine TV.go R q fun d s1 v F1 ρ1 H1 R1 hF hρ t k => ?_
  cases d with
  | int j =>
    obtain ⟨q1, k⟩ := ite_post k
    obtain ⟨b1, b2⟩ := rngOk_b q1
    exact ⟨j, by rw [show v = .int j from t], b1, b2, k F1 ρ1 H1 _ R1 hF hρ (walks_rng _ _ _ _ _)⟩
  | _ => exact k.elim
theorem SndI.rng2 (M : Mods C X) (hg : Gl X "range") (hn : notStar a = true) (hn2 : notStar b = true) (ha : Snd C X g a ca) (hb : Snd C X g b cb) : SndI C X g tg (.Call (.Name "range" p) [a, b] [] pos) (.rng2 ca cb) := by
  refine ⟨_, pi_range2 hg (M.free _ (by decide +kernel)) (pa_cons ha.E (pa_cons hb.E pa_nil (star_cons hn2)) (star_cons hn)) (by rw [star_cons hn, star_cons hn2]; rfl) (star_cons hn2), fun Rr {σ H F ρ s} R q => ?_⟩
  rw [iterE] at q
  refine TV.go R q fun d s1 v F1 ρ1 H1 R1 hF hρ t k => ?_
  refine TV.go R1 k fun e s2 w F2 ρ2 H2 R2 hF2 hρ2 t2 k => ?_
  cases d with
  | int i => cases e with
    | int j =>
      have k : Post (if (rngOk i && rngOk j) = true then .ok (rngD i (j - i).toNat) s2 else .bad) _ _ := k
      obtain ⟨q1, k⟩ := ite_post k
      obtain ⟨q1, q2⟩ := Bool.and_eq_true_iff.mp q1
      obtain ⟨b1, b2⟩ := rngOk_b q1
      obtain ⟨b3, b4⟩ := rngOk_b q2
      exact ⟨i, j, by rw [show v = .int i from t, show w = .int j from t2], ⟨b1, b2, b3, b4⟩, k F2 ρ2 H2 _ R2 (hF.trans hF2) (hρ.trans hρ2) (walks_rng _ _ _ _ _)⟩
    | _ => exact k.elim
  | _ => exact k.elim
theorem walks_lst {Kk : Kx} {F : Hp} {ρ : List Addr} {ds : List Ev.D} {a : Addr} {vs : List V} (h : SqL Kk.K F a vs) (r : Reps Kk ρ F ds vs) : Walks Kk F ρ ds (Itl Kk.K a) where
  go := fun F2 H2 i hs hl hi => by
    have hv : i < vs.length := by rw [r.len]; exact hi
    exact ⟨vs, vs[i], hl.sql (hs.seq h), List.getElem?_eq_getElem hv⟩
  yld := fun F2 H2 H' i d x hs hl hd y => by
    obtain ⟨v, e, t⟩ := r.get hd
    have q := y.2 vs (hl.sql (hs.seq h))
    rw [e] at q; cases q
    exact ⟨y.1, t⟩
  stop := fun F2 H2 hs hl => ⟨vs, hl.sql (hs.seq h), by rw [r.len]; exact Nat.le_refl _⟩
theorem walks_tup {Kk : Kx} {F : Hp} {ρ : List Addr} {ds : List Ev.D} {a : Addr} {vs : List V} (h : SqT Kk.K F a vs) (r : Reps Kk ρ F ds vs) : Walks Kk F ρ ds (Itt Kk.K a) where
  go := fun F2 H2 i hs hl hi => by
    have hv : i < vs.length := by rw [r.len]; exact hi
    exact ⟨vs, vs[i], hl.tup (sqT_same hs h), List.getElem?_eq_getElem hv⟩
  yld := fun F2 H2 H' i d x hs hl hd y => by
    obtain ⟨v, e, t⟩ := r.get hd
    have q := y.2 vs (hl.tup (sqT_same hs h))
    rw [e] at q; cases q
    exact ⟨y.1, t⟩
  stop := fun F2 H2 hs hl => ⟨vs, hl.tup (sqT_same hs h), by rw [r.len]; exact Nat.le_refl _⟩
theorem walks_str (Kk : Kx) (F : Hp) (ρ : List Addr) (x : Str) : Walks Kk F ρ (x.cps.toList.map fun c => Ev.D.str ⟨#[c]⟩) (Its x) where
  go := fun _ _ i _ _ h => by show i < x.cps.size; simpa using h
  yld := fun _ _ _ i d v _ _ h y => by
    obtain ⟨e, c, hc, hv⟩ := y
    rw [List.getElem?_map] at h
    obtain ⟨c', h1, h2⟩ := omap h
    rw [Array.getElem?_toList, hc] at h1
    cases h1
    exact ⟨e, by rw [← h2]; exact hv⟩
  stop := fun _ _ _ _ => by show x.cps.size ≤ _; simp
theorem SndI.seq (M : Mods C X) (ha : Snd C X g a ca) : SndI C X g tg a (.seq ca) := by
  refine ⟨_, PI.or (pi_list ha.E) (PI.or (pi_tup ha.E) (pi_str ha.E)), fun Rr {σ H F ρ s} R q => ?_⟩
  rw [iterE] at q
  have q2 := Post.bind q
  cases e : pE (ev g ca s) with
  | bad => rw [e] at q2; exact q2.elim
  | exn x s1 =>
    rw [e] at q2
    exact .inl ⟨F, ρ, s, R, by dsimp only; rw [e]; exact q2⟩
  | ok d s1 =>
    rw [e] at q2
    obtain ⟨ds, e2, k⟩ := Post.ofO q2
    have k : ∀ F1 ρ1 H1 J, Rel C F1 ρ1 s1 σ H1 → Same F F1 → Pre ρ ρ1 → Walks C.X F1 ρ1 ds J → Rr J H1 := k
    have fin : ∀ {K : VK}, (∀ v F1 ρ1 H1, Rel C F1 ρ1 s1 σ H1 → Same F F1 → Pre ρ ρ1 → Rep C.X ρ1 F1 d v → K v H1) → TV C (fun s => pE (ev g ca s)) σ H K := fun {K} h => ⟨F, ρ, s, R, by dsimp only; rw [e]; exact h⟩
    cases d with
    | lst es =>
      cases e2
      refine .inl (fin fun v F1 ρ1 H1 R1 hF hρ t => ?_)
      obtain ⟨a, vs, rfl, h, r⟩ := t
      exact ⟨a, rfl, ⟨vs, .inl (.inl (R1.c.leF.lst h))⟩, by rw [M.K]; exact k F1 ρ1 H1 _ R1 hF hρ (walks_lst (.inl (.inl h)) r)⟩
    | ro es =>
      cases e2
      refine .inl (fin fun v F1 ρ1 H1 R1 hF hρ t => ?_)
      obtain ⟨a, vs, rfl, h, r⟩ := t
      exact ⟨a, rfl, ⟨vs, by rw [M.K]; exact R1.c.leF.sql h⟩, by rw [M.K]; exact k F1 ρ1 H1 _ R1 hF hρ (walks_lst h r)⟩
    | tup es =>
      cases e2
      refine .inr (.inl (fin fun v F1 ρ1 H1 R1 hF hρ t => ?_))
      obtain ⟨a, vs, rfl, h, r⟩ := t
      exact ⟨a, rfl, ⟨vs, by rw [M.K]; exact R1.c.leF.tup h⟩, by rw [M.K]; exact k F1 ρ1 H1 _ R1 hF hρ (walks_tup h r)⟩
    | str x =>
      cases e2
      refine .inr (.inr (fin fun v F1 ρ1 H1 R1 hF hρ t => ?_))
      exact ⟨x, t, k F1 ρ1 H1 _ R1 hF hρ (walks_str _ _ _ x)⟩
    | _ => cases e2

/-! ### while -/
theorem SndS.whl {c : Expr} {b : List Stmt} {cb : Sms} (hc : ∀ F0 ρ0, Snd (C.at F0 ρ0) X g c cc) (hb : ∀ F0 ρ0, SndB (C.at F0 ρ0) X g b cb) (hp : PassesOwn (model X.prog X.w) X.A X.env X.xe) : SndS C X g (.While c b [] pos) (.whl cc cb) := by
  have hc := hc C.F0 C.ρ0
  have hb := hb C.F0 C.ρ0
  refine ⟨PS.imp (ps_while hp hc.pt hb.ps) fun D σ H ⟨F, ρ, s, R, p⟩ => ?_⟩
  rw [evS] at p
  have nb : whlL (fun s => pB (ev g cc s)) (fun s => evSs g cb s) s ≠ .bad := fun z => by rw [z] at p; exact p
  obtain ⟨n, hn⟩ := whlL_ok nb
  refine ⟨fun m σ H => ∃ F ρ s r, Rel C F ρ s σ H ∧ whlN (fun s => pB (ev g cc s)) (fun s => evSs g cb s) m s = some r ∧ PostC C D r, ⟨n, F, ρ, s, _, R, hn, p⟩, ?_⟩
  rintro m σ H ⟨F, ρ, s, r, R, hw, p⟩
  cases m with
  | zero => cases hw
  | succ m =>
    rw [whlN] at hw
    refine ⟨F, ρ, s, R, ?_⟩
    dsimp only
    cases q : pB (ev g cc s) with
    | bad => rw [q] at hw; cases hw; exact p
    | exn x s1 => rw [q] at hw; cases hw; exact p σ
    | ok k s1 =>
      rw [q] at hw
      intro F1 ρ1 H1 R1 hF hρ
      cases k with
      | false => cases hw; exact p F1 ρ1 σ H1 R1
      | true =>
        rw [if_pos rfl]
        dsimp only at hw
        refine ⟨fun σ' H' => ∃ F ρ s r, Rel C F ρ s σ' H' ∧ whlN (fun s => pB (ev g cc s)) (fun s => evSs g cb s) m s = some r ∧ PostC C D r, fun σ' H' h => ⟨m, Nat.lt_succ_self m, h⟩, F1, ρ1, s1, R1, ?_⟩
        cases q2 : evSs g cb s1 with
        | nx s2 => rw [q2] at hw; exact fun F' ρ' σ' H' R' => ⟨F', ρ', s2, r, R', hw, p⟩
        | ct s2 => rw [q2] at hw; exact fun F' ρ' σ' H' R' => ⟨F', ρ', s2, r, R', hw, p⟩
        | brk s2 => rw [q2] at hw; cases hw; exact p
        | ret fr d s2 => rw [q2] at hw; cases hw; exact p
        | exn x s2 => rw [q2] at hw; cases hw; exact p
        | bad => rw [q2] at hw; cases hw; exact p
end Ev
set_option Elab.async false
set_option linter.all false
set_option maxRecDepth 100000
set_option maxHeartbeats 4000000
/-! EvD3: what changes an object in place. -/
namespace Ev
open PySem L2
variable {C : Ct} {X : Cx} {g : G} {a b e : Expr} {ca cb ce cx : Ex} {pos p p2 : Pos}

/-- what an operand is, and what stands there -/
theorem mut_rd {F : Hp} {ρ : List Addr} {s : S} {σ : St} {H : Hp} {r : Ev.D} {v : V} {D : Ends} {f : Ev.D → Option Ev.D} (R : Rel C F ρ s σ H) (t : RepT C ρ F σ r v) (p : PostC C D (mutD r s f)) :
    ∃ a d d', v = .ref a ∧ f d = some d' ∧ F a = none ∧ At C.X ρ F H a d ∧ ∀ o, At C.X ρ F (upd H a o) a d' → D.nx σ (upd H a o) := by
  cases r with
  | own i =>
    have hv : σ[i]? = some (some v) := by
      rcases t with ⟨j, e, h⟩ | h
      · cases e; exact h
      · exact h.elim
    have p : PostC C D (match s.env[i]? with
      | some (.own d) => ofC (f d) fun d' => .nx (s.put i (.own d'))
      | _ => .bad) := p
    cases q : s.env[i]? with
    | none => rw [q] at p; exact p.elim
    | some x =>
      rw [q] at p
      cases x with
      | no => exact p.elim
      | val d => exact p.elim
      | own d =>
        obtain ⟨a, e1, x, y, z⟩ := R.own i d q
        rw [hv] at e1; cases e1
        obtain ⟨d', e2, k⟩ := PostC.ofC p
        exact ⟨a, d, d', rfl, e2, x, z, fun o h => k F ρ σ _ (R.mutO q hv h)⟩
  | cell l =>
    have h := t.flat (fun _ z => nomatch z)
    obtain ⟨a, rfl, hl⟩ := h
    have p : PostC C D (match s.cs[l]? with
      | some (some d) => ofC (f d) fun d' => .nx ⟨s.env, s.cs.set l (some d')⟩
      | _ => .bad) := p
    cases q : s.cs[l]? with
    | none => rw [q] at p; exact p.elim
    | some x =>
      rw [q] at p
      cases x with
      | none => exact p.elim
      | some d =>
        obtain ⟨d', e2, k⟩ := PostC.ofC p
        obtain ⟨x, y, z⟩ := R.c.live l a d hl q
        exact ⟨a, d, d', rfl, e2, x, z, fun o h => k F ρ σ _ (R.mutC q hl h)⟩
  | _ => exact p.elim
def noCall0 : Expr → Bool
  | .Call _ _ _ _ => false
  | _ => true
theorem base_plain {x : Expr} {f : Str} {env : Env} (h : noCall0 x = true) : attributeBase x f env (eval x env) = eval x env := by
  cases x <;> first | (cases h; done) | rfl
theorem few1 {env : Env} (hn : notStar e = true) : ((backTo p2 (starEach [e] env)).all (fun x => !x.1) && (backToKw p2 (keywordEach [] env)).all (fun x => x.1.isSome)
      && decide (([e] : List Expr).length + ([] : List Keyword).length + (if ([] : List Keyword).isEmpty then 0 else 1) < 30)) = true := by rw [star_cons hn]; rfl
theorem SndS.app {x : Expr} (hx : Snd C X g x cx) (he : Snd C X g e ce) (hn : notStar e = true) (hc : noCall0 x = true) (hl : (p.endLine == p2.line) = true) (hs : swapsWith (.Call (.Attribute x "append" p) [e] [] p2) none pos.line X.env = pure false) :
    SndS C X g (.Expr (.Call (.Attribute x "append" p) [e] [] p2) pos) (.app cx ce) := by
  have h0 := pe_bm (X := X) (apos := p) (cpos := p2) PySem.F.plainAttrs_list PySem.F.slot_list_append PySem.F.type_list_append mt_append hx.P (pa_cons he.E pa_nil (star_cons hn)) (base_plain hc) (few1 hn) hl (star_cons hn) (by rfl)
  refine ⟨PS.imp (ps_expr h0 hs) fun D σ H ⟨F, ρ, s, R, p⟩ => ?_⟩
  rw [evS] at p
  refine ⟨F, ρ, s, R, (PostC.to p).imp fun r s1 k v F1 ρ1 H1 R1 hF hρ t => ?_⟩
  obtain ⟨q, k⟩ := postc_ite k
  have rd : ∃ a vs, v = .ref a ∧ H1 a = some (.lst vs) := by
    rcases t.rdy R1 with h | ⟨i, h⟩
    · cases e : res s1 r with
      | lst ds => rw [e] at h; obtain ⟨a, vs, e1, e2, _⟩ := h.lst R1.c.leF; exact ⟨a, vs, e1, e2⟩
      | _ => rw [e] at q; cases q
    · rw [h] at q; cases q
  obtain ⟨a, vs, ev, hv⟩ := rd
  subst ev
  refine ⟨.inl ⟨rfl, vs, .inl (.inl hv)⟩, F1, ρ1, s1, R1, (PostC.to k).imp fun d s2 k2 w F2 ρ2 H2 R2 hF2 hρ2 t2 => ?_⟩
  obtain ⟨a', d0, d', e1, e2, _, at0, fin⟩ := mut_rd R2 (t.mono hF2 hρ2) k2
  cases e1
  cases d0 with
  | lst ds =>
    have e2 : (if okSz (ds.length + 1) = true then some (Ev.D.lst (ds ++ [d])) else none) = some d' := e2
    split at e2
    · rename_i q2
      cases e2
      obtain ⟨us, h1, h2⟩ := at0
      refine ⟨a, us, w, rfl, rfl, h1, ?_, fin _ ⟨_, upd_same, h2.app (Reps.one t2)⟩⟩
      have := szLine q2
      rw [h2.len]; omega
    · cases e2
  | _ => cases e2
theorem putD_not : ∀ {ks : List Key} {ds : List Ev.D} {k : Key} {d : Ev.D}, k ∉ ks → ds.length = ks.length → putD ks ds k d = (ks ++ [k], ds ++ [d])
  | [], [], _, _, _, _ => rfl
  | k' :: ks, d' :: ds, k, d, h, hl => by
    have n : ¬ k' = k := fun e => h (by rw [e]; exact List.mem_cons_self)
    have ih := putD_not (ks := ks) (ds := ds) (k := k) (d := d) (fun m => h (List.mem_cons_of_mem _ m)) (by simpa using hl)
    unfold putD
    rw [if_neg n, ih] <;> rfl
theorem putK_in {kvs : List (Key × V)} {k : Key} {v : V} (h : k ∈ kvs.map (·.1)) : putK kvs k v = kvs.map fun kv => if kv.1 = k then (kv.1, v) else kv := by
  unfold putK
  rw [if_pos]
  obtain ⟨p, hp, e⟩ := List.mem_map.mp h
  exact List.any_eq_true.mpr ⟨p, hp, decide_eq_true e⟩
theorem putK_not {kvs : List (Key × V)} {k : Key} {v : V} (h : k ∉ kvs.map (·.1)) : putK kvs k v = kvs ++ [(k, v)] := by
  unfold putK
  rw [if_neg]
  intro q
  obtain ⟨p, hp, e⟩ := List.any_eq_true.mp q
  exact h (List.mem_map.mpr ⟨p, hp, of_decide_eq_true e⟩)
theorem map_same {kvs : List (Key × V)} {k : Key} {v : V} (h : k ∉ kvs.map (·.1)) : kvs.map (fun kv => if kv.1 = k then (kv.1, v) else kv) = kvs := by
  induction kvs with
  | nil => rfl
  | cons p r ih =>
    have n : ¬ p.1 = k := fun e => h (by rw [← e]; exact List.mem_cons_self)
    rw [List.map_cons, if_neg n, ih fun m => h (List.mem_cons_of_mem _ m)]
theorem putD_ok {Kk : Kx} {ρ : List Addr} {F : Hp} {k : Key} {d : Ev.D} {v : V} (hv : Rep Kk ρ F d v) : ∀ {kvs : List (Key × V)} {ds : List Ev.D}, (kvs.map (·.1)).Nodup → Reps Kk ρ F ds (kvs.map (·.2)) →
    (putK kvs k v).map (·.1) = (putD (kvs.map (·.1)) ds k d).1 ∧ ((putD (kvs.map (·.1)) ds k d).1).Nodup ∧ Reps Kk ρ F (putD (kvs.map (·.1)) ds k d).2 ((putK kvs k v).map (·.2))
  | [], [], _, _ => ⟨rfl, by simp [putD], Reps.one hv⟩
  | [], _ :: _, _, ⟨_, _, e, _⟩ => by cases e
  | _ :: _, [], _, e => by cases e
  | (k', v') :: r, d' :: ds, nd, ⟨w, ws, e, h1, h2⟩ => by
    cases e
    obtain ⟨n1, n2⟩ := List.nodup_cons.mp nd
    by_cases q : k' = k
    · subst q
      have e1 : putK ((k', v') :: r) k' v = (k', v) :: r := by
        rw [putK_in List.mem_cons_self, List.map_cons, if_pos rfl, map_same n1]
      have e2 : putD (((k', v') :: r).map (·.1)) (d' :: ds) k' d = (k' :: r.map (·.1), d :: ds) := by
        show (if k' = k' then _ else _) = _
        rw [if_pos rfl]
      rw [e1, e2]
      exact ⟨rfl, nd, v, _, rfl, hv, h2⟩
    · obtain ⟨i1, i2, i3⟩ := putD_ok (k := k) hv n2 h2
      have e1 : putK ((k', v') :: r) k v = (k', v') :: putK r k v := by
        by_cases m : k ∈ r.map (·.1)
        · rw [putK_in (List.mem_cons_of_mem _ m), putK_in m, List.map_cons, if_neg q]
        · rw [putK_not m, putK_not (fun z => (List.mem_cons.mp z).elim (fun y => q y.symm) m)]; rfl
      have e2 : putD (((k', v') :: r).map (·.1)) (d' :: ds) k d = (k' :: (putD (r.map (·.1)) ds k d).1, d' :: (putD (r.map (·.1)) ds k d).2) := by
        show (if k' = k then _ else _) = _
        rw [if_neg q] <;> rfl
      rw [e1, e2]
      refine ⟨by rw [List.map_cons, i1], List.nodup_cons.mpr ⟨fun m => ?_, i2⟩, v', _, rfl, h1, i3⟩
      rw [← i1] at m
      by_cases z : k ∈ r.map (·.1)
      · rw [putK_in z] at m
        obtain ⟨x, hx, ex⟩ := List.mem_map.mp m
        obtain ⟨y, hy, ey⟩ := List.mem_map.mp hx
        have : x.1 = y.1 := by rw [← ey]; split <;> rfl
        exact n1 (List.mem_map.mpr ⟨y, hy, by rw [← this]; exact ex⟩)
      · rw [putK_not z, List.map_append] at m
        rcases List.mem_append.mp m with m | m
        · exact n1 m
        · exact q (by simpa using m)
theorem keyD_ok {ρ : List Addr} {F : Hp} {Kk : Kx} {d : Ev.D} {v : V} {k : Key} (h : Rep Kk ρ F d v) (e : keyD d = some k) : v = kV k := by
  cases d <;> first | (cases e; done) | skip
  · cases e; exact h
  · cases e; exact h
theorem PSet.or {t t' : TSet} (h : PSet X t) (h' : PSet X t') : PSet X fun o i v H Q => t o i v H Q ∨ t' o i v H Q := fun pins s σ H o i v ov iv u Q I ro ri rv q => by
  rcases q with q | q
  · exact h pins s σ H o i v ov iv u Q I ro ri rv q
  · exact h' pins s σ H o i v ov iv u Q I ro ri rv q
theorem asg_sub {x i : Expr} {env : Env} (h : notSlice i = true) (v : Value) : assign (.Subscript x i p) env v = (do
    let ov ← holding [v] (eval x env)
    let iv ← holding [v, ov] (eval i env)
    standAt p
    holding [v, ov, iv] (setItem ov iv v)
    release [v, ov, iv] []) := by
  cases i <;> first | (cases h; done) | rfl
theorem SndS.seti {x i : Expr} {ci : Ex} {k : Nat} (O : XOk C X k g) (hx : Snd C X g x cx) (hi : Snd C X g i ci) (he : Snd C X g e ce) (hn : notSlice i = true) (hs : swapsWithSole [.Subscript x i p] e pos.line X.env = pure false) (hw : swappedStores [.Subscript x i p] e X.env = pure none)
    (h1 : (assignEach [.Subscript x i p] X.env).map (·.2) = [assign (.Subscript x i p) X.env]) : SndS C X g (.Assign [.Subscript x i p] e pos) (.seti cx ci ce) := by
  have hu : X.A.units + 1 < cLine := by have := O.hu; omega
  refine ⟨PS.imp (ps_asg he.E (pg_sub hx.P hi.E (PSet.or set_list (set_dict hu)) (asg_sub hn)) hs hw h1) fun D σ H ⟨F, ρ, s, R, p⟩ => ?_⟩
  rw [evS] at p
  refine ⟨F, ρ, s, R, (PostC.to p).imp fun d s1 k1 v F1 ρ1 H1 R1 hF1 hρ1 t1 => ?_⟩
  refine ⟨F1, ρ1, s1, R1, (PostC.to k1).imp fun r s2 k2 o F2 ρ2 H2 R2 hF2 hρ2 t2 => ?_⟩
  refine ⟨F2, ρ2, s2, R2, (PostC.to k2).imp fun i s3 k3 w F3 ρ3 H3 R3 hF3 hρ3 t3 => ?_⟩
  obtain ⟨a, d0, d', rfl, e2, _, at0, fin⟩ := mut_rd R3 (t2.mono hF3 hρ3) k3
  have t1 := (t1.mono hF2 hρ2).mono hF3 hρ3
  cases d0 with
  | lst ds =>
    cases i with
    | int j =>
      obtain ⟨us, h1, h2⟩ := at0
      obtain ⟨m, hm, e3⟩ := omap (show (ixN ds.length j).map (fun m => Ev.D.lst (ds.set m d)) = some d' from e2)
      subst e3
      exact .inl ⟨a, us, j, m, rfl, t3, h1, by rw [h2.len]; exact hm, fin _ ⟨_, upd_same, h2.set t1 m⟩⟩
    | _ => cases e2
  | dct ks ds =>
    obtain ⟨kvs, h1, rfl, h3, h4⟩ := at0
    have e2 : ((keyD i).bind fun k => if okSz ((kvs.map (·.1)).length + 1) = true then some (Ev.D.dct (putD (kvs.map (·.1)) ds k d).1 (putD (kvs.map (·.1)) ds k d).2) else none) = some d' := e2
    cases hk : keyD i with
    | none => rw [hk] at e2; cases e2
    | some k =>
      rw [hk, Option.bind_some] at e2
      split at e2
      · rename_i q
        cases e2
        obtain ⟨z1, z2, z3⟩ := putD_ok (k := k) t1 h3 h4
        rw [keyD_ok t3 hk]
        refine .inr ⟨a, _, rfl, DPut.k h1 ?_, fin _ ⟨_, upd_same, z1, z2, z3⟩⟩
        have := szLine q
        rw [List.length_map] at this
        omega
      · cases e2
  | _ => cases e2
theorem SndS.aug {x : Str} {i : Nat} {op : Operator} {o : Bop} {pos' : Pos} (h : Snd C X g e ce) (hN : X.N.Nodup) (hi : X.N[i]? = some x) (hx : Loc X.env.scope x) (ho : (op = .Add ∧ o = .add) ∨ (op = .Sub ∧ o = .sub)) (hf : X.fn x = true ∨ X.env.scope.names.lookup x = some .local) :
    SndS C X g (.AugAssign (.Name x pos') op e pos) (.aug i o ce) := by
  have key : ∀ (f : Int → Int → Int), (PIp X op (ipI f)) → (∀ a b z, augD o a b = some z → ∃ i j, a = .int i ∧ b = .int j ∧ z = .int (f i j)) → SndS C X g (.AugAssign (.Name x pos') op e pos) (.aug i o ce) := fun f hop hf2 => by
    refine ⟨PS.imp (ps_aug hN hi hx h.E hop hf) fun D σ H ⟨F, ρ, s, R, p⟩ => ?_⟩
    rw [evS] at p
    cases q : s.env[i]? with
    | none => rw [q] at p; exact p.elim
    | some y =>
      rw [q] at p
      cases y with
      | no => exact p.elim
      | own d => exact p.elim
      | val d =>
        obtain ⟨v, e1, e2⟩ := R.val i d q
        refine ⟨v, e1, F, ρ, s, R, (PostC.to p).imp fun y s1 k w F1 ρ1 H1 R1 hF1 hρ1 t1 => ?_⟩
        obtain ⟨z, hz, k⟩ := PostC.ofC k
        obtain ⟨a, b, rfl, rfl, rfl⟩ := hf2 _ _ _ hz
        exact ⟨a, b, e2, t1, k F1 ρ1 _ H1 (R1.setV (d := .int (f a b)) (v := .int (f a b)) i rfl)⟩
  have two : ∀ {a b z : Ev.D}, (augD .add a b = some z → ∃ i j, a = .int i ∧ b = .int j ∧ z = .int (i + j)) ∧ (augD .sub a b = some z → ∃ i j, a = .int i ∧ b = .int j ∧ z = .int (i - j)) := fun {a b z} => by
    constructor
    all_goals
      intro h
      cases a <;> first | (cases h; done) | skip
      cases b <;> first | (cases h; done) | skip
      cases h
      exact ⟨_, _, rfl, rfl, rfl⟩
  rcases ho with ⟨rfl, rfl⟩ | ⟨rfl, rfl⟩
  · exact key _ ip_add fun _ _ _ => two.1
  · exact key _ ip_sub fun _ _ _ => two.2
end Ev
set_option Elab.async false
set_option linter.all false
set_option maxRecDepth 100000
set_option maxHeartbeats 4000000
/-! EvE: from the text to the small language, and back. -/
namespace Ev
open PySem L2

/-! ### the text's small form -/
def slotOf : List Str → Str → Option Nat
  | [], _ => none
  | y :: r, x => if y = x then some 0 else (slotOf r x).map (· + 1)
theorem slotOf_ok : ∀ {N : List Str} {x : Str} {i : Nat}, slotOf N x = some i → N[i]? = some x
  | y :: r, x, i, h => by
    unfold slotOf at h
    split at h
    · rename_i e
      cases h
      rw [e]; rfl
    · obtain ⟨j, h1, h2⟩ := omap h
      subst h2
      simpa using slotOf_ok h1
def visB (sc : Scope) (x : Str) : Bool := match sc.names.lookup x with
  | some .local => true
  | some .cell => true
  | some .free => true
  | _ => false
theorem vis_ok {sc : Scope} {x : Str} (h : visB sc x = true) : Vis sc x := by
  unfold visB at h
  unfold Vis
  split at h
  · rename_i e; exact .inl e
  · rename_i e; exact .inr (.inl e)
  · rename_i e; exact .inr (.inr e)
  · cases h
def locB (sc : Scope) (x : Str) : Bool := match sc.names.lookup x with
  | some .local => true
  | some .cell => true
  | _ => false
theorem loc_ok {sc : Scope} {x : Str} (h : locB sc x = true) : L2.Loc sc x := by
  unfold locB at h
  unfold L2.Loc
  split at h
  · rename_i e; exact .inl e
  · rename_i e; exact .inr e
  · cases h
def glbB (sc : Scope) (x : Str) : Bool := match sc.names.lookup x with
  | some .globalImplicit => true
  | _ => false
theorem glb_ok {X : Cx} {x : Str} (h : glbB X.env.scope x = true) : Gl X x := by
  unfold glbB at h
  show X.env.scope.names.lookup x = _
  split at h
  · rename_i e; exact e
  · cases h
def notComp : Expr → Bool
  | .ListComp _ _ _ _ => false
  | .SetComp _ _ _ _ => false
  | .DictComp _ _ _ _ _ => false
  | _ => true
def notDisp : Expr → Bool
  | .Tuple _ _ _ => false
  | _ => true
def notSet : Expr → Bool
  | .Set _ _ _ => false
  | _ => true
theorem swaps_none {e : Expr} {tg : Option Expr} {l : Nat} {env : Env} (h : notComp e = true) : swapsWith e tg l env = pure false := by
  cases e <;> first | (cases h; done) | rfl
theorem sole_none {e tg : Expr} {l : Nat} {env : Env} (h : notComp e = true) : swapsWithSole [tg] e l env = pure false := swaps_none h
theorem fold_none {e : Expr} {env : Env} (h : notSet e = true) (x : Value) : foldedSetIterable e env x = pure x := by
  cases e <;> first | (cases h; done) | rfl
def bTypes : List (Str × String) := [("int", "int"), ("bool", "bool"), ("str", "str"), ("list", "list"), ("tuple", "tuple"), ("dict", "dict")]
def toExs : List Ex → Exs
  | [] => .nil
  | e :: es => .cons e (toExs es)
/-- one step; r: for the parts -/
def cE1 (N : List Str) (r : Scope → Expr → Ex) (sc : Scope) (e : Expr) : Ex := match e with
  | .Constant (.int i) _ _ => .con (.int i)
  | .Constant (.bool i) _ _ => .con (.bl i)
  | .Constant .none _ _ => .con .non
  | .Constant (.str x) _ _ => .con (.str x)
  | .Name x _ => if (x == ("__debug__" : Str)) = true ∨ (x == ("__classdict__" : Str)) = true then .bad else match slotOf N x with
    | some i => if visB sc x = true then .var i else .bad
    | none => if glbB sc x = true then .glob x else .bad
  | .BinOp a op b _ => match bopOf op with
    | some o => .bin o (r sc a) (r sc b)
    | none => .bad
  | .UnaryOp .Not a _ => .not (r sc a)
  | .UnaryOp .USub a _ => .un .neg (r sc a)
  | .BoolOp .And [a] _ => r sc a
  | .BoolOp .Or [a] _ => r sc a
  | .BoolOp .And (a :: b :: rest) pos => .and (r sc a) (r sc (.BoolOp .And (b :: rest) pos))
  | .BoolOp .Or (a :: b :: rest) pos => .or (r sc a) (r sc (.BoolOp .Or (b :: rest) pos))
  | .Compare a [op] [b] _ => if behindInMarks op b = true then .bad else .cmp (copOf op) (r sc a) (r sc b)
  | .IfExp c a b _ => .ite (r sc c) (r sc a) (r sc b)
  | .Tuple es _ _ => if es.all notStar = true then .tup (toExs (es.map (r sc))) else .bad
  | .List es _ => if es.all notStar = true then .lst (toExs (es.map (r sc))) else .bad
  | .Subscript a (.Slice none none none _) _ => .slc false false (r sc a) (.con .non) (.con .non)
  | .Subscript a (.Slice (some l) none none _) _ => .slc true false (r sc a) (r sc l) (.con .non)
  | .Subscript a (.Slice none (some h) none _) _ => .slc false true (r sc a) (.con .non) (r sc h)
  | .Subscript a (.Slice (some l) (some h) none _) _ => .slc true true (r sc a) (r sc l) (r sc h)
  | .Subscript a b _ => if notSlice b = true then .idx (r sc a) (r sc b) else .bad
  | .Call (.Name f _) es [] _ => if glbB sc f = true ∧ es.all notStar = true ∧ (f == ("__debug__" : Str)) = false then
      if bnames.contains f = true then match es with
        | [a] => if f = "len" then .un .len (r sc a) else if f = "int" then .un .int (r sc a) else if f = "list" then .un .list (r sc a) else if f = "tuple" then .un .tuple (r sc a) else .bad
        | [a, .Name T _] => if f = "isinstance" ∧ glbB sc T = true then match bTypes.lookup T with
            | some Ts => .un (.isi Ts) (r sc a)
            | none => .bad
          else .bad
        | _ => .bad
      else .call f (toExs (es.map (r sc)))
    else .bad
  | _ => .bad
def cE (N : List Str) : Nat → Scope → Expr → Ex
  | 0 => fun _ _ => .bad
  | n + 1 => fun sc e => cE1 N (cE N n) sc e

variable {C : Ct} {X : Cx} {g : G} {k : Nat}
theorem bTypes_ok {T : Str} {Ts : String} (h : bTypes.lookup T = some Ts) : T ∈ bnames ∧ bootBuiltins T = some (.type Ts) ∧ T ≠ "__name__" ∧ (T == ("__debug__" : Str)) = false := by
  have h1 := PySem.mem_of_lookup h
  simp only [bTypes, List.mem_cons, Prod.mk.injEq, List.not_mem_nil, or_false] at h1
  rcases h1 with ⟨rfl, rfl⟩ | ⟨rfl, rfl⟩ | ⟨rfl, rfl⟩ | ⟨rfl, rfl⟩ | ⟨rfl, rfl⟩ | ⟨rfl, rfl⟩ <;> exact ⟨by decide +kernel, by decide +kernel, by decide +kernel, by decide +kernel⟩
theorem exs_ok {r : Expr → Ex} : ∀ {es : List Expr}, (∀ e, Snd C X g e (r e)) → es.all notStar = true → SndA C X g es (toExs (es.map r))
  | [], _, _ => SndA.nil
  | e :: es, h, hs => by
    obtain ⟨h1, h2⟩ := Bool.and_eq_true_iff.mp (show (notStar e && es.all notStar) = true from hs)
    exact SndA.cons h1 (h e) (exs_ok h h2)
theorem cE1_ok {N : List Str} {r : Scope → Expr → Ex} (O : XOk C X k g) (hN : X.N = N) (h : ∀ e, Snd C X g e (r X.env.scope e)) (e : Expr) : Snd C X g e (cE1 N r X.env.scope e) := by
  have M : Mods C X := O.toMods
  unfold cE1
  split
  · exact Snd.cInt
  · exact Snd.cBl
  · exact Snd.cNon
  · exact Snd.cStr
  · rename_i x pos
    split
    · exact Snd.bad
    · rename_i hx
      obtain ⟨h1, h2⟩ := not_or.mp hx
      have h1 := Bool.eq_false_iff.mpr h1
      have h2 := Bool.eq_false_iff.mpr h2
      split
      · rename_i i hi
        split
        · rename_i hv
          exact Snd.var (pe_var (by rw [hN]; exact slotOf_ok hi) (vis_ok hv) h1 h2)
        · exact Snd.bad
      · split
        · rename_i hg
          exact Snd.glob O (glb_ok hg) h1
        · exact Snd.bad
  · split
    · rename_i o ho
      exact Snd.bin M.K ho (h _) (h _)
    · exact Snd.bad
  · exact Snd.not (h _)
  · exact Snd.neg (h _)
  · exact Snd.one1 (h _)
  · exact Snd.one2 (h _)
  · exact Snd.and (h _) (h _)
  · exact Snd.or (h _) (h _)
  · split
    · exact Snd.bad
    · rename_i hm
      exact Snd.cmp M.K (Bool.eq_false_iff.mpr hm) (h _) (h _)
  · exact Snd.ite (h _) (h _) (h _)
  · split
    · rename_i hs; exact Snd.tup (exs_ok h hs)
    · exact Snd.bad
  · split
    · rename_i hs; exact Snd.lst (exs_ok h hs)
    · exact Snd.bad
  · exact Snd.slc M (h _) SndO.none SndO.none
  · exact Snd.slc M (h _) (SndO.some (h _)) SndO.none
  · exact Snd.slc M (h _) SndO.none (SndO.some (h _))
  · exact Snd.slc M (h _) (SndO.some (h _)) (SndO.some (h _))
  · split
    · rename_i hs; exact Snd.idx M hs (h _) (h _)
    · exact Snd.bad
  · split
    · rename_i hc
      obtain ⟨hg, hs, hd⟩ := hc
      have hg := glb_ok hg
      split
      · split
        · rename_i a
          have hn : notStar a = true := (Bool.and_eq_true_iff.mp (show (notStar a && true) = true from hs)).1
          split
          · rename_i e; subst e; exact Snd.len M hg hn (h _)
          · split
            · rename_i e; subst e; exact Snd.int M hg hn (h _)
            · split
              · rename_i e; subst e; exact Snd.list M hg hn (h _)
              · split
                · rename_i e; subst e; exact Snd.tuple M hg hn (h _)
                · exact Snd.bad
        · rename_i a T p2
          have hn : notStar a = true := (Bool.and_eq_true_iff.mp (show (notStar a && _) = true from hs)).1
          split
          · rename_i e
            obtain ⟨rfl, e2⟩ := e
            split
            · rename_i Ts hT
              obtain ⟨t1, t2, t3, t4⟩ := bTypes_ok hT
              exact Snd.isi M hg (glb_ok e2) t1 t2 hn (h _) t3 t4
            · exact Snd.bad
          · exact Snd.bad
        · exact Snd.bad
      · exact Snd.call O hg hd (exs_ok h hs)
    · exact Snd.bad
  · exact Snd.bad
theorem cE_ok {N : List Str} (O : XOk C X k g) (hN : X.N = N) : ∀ (n : Nat) (e : Expr), Snd C X g e (cE N n X.env.scope e)
  | 0, e => Snd.bad
  | n + 1, e => cE1_ok O hN (cE_ok O hN n) e
end Ev
set_option Elab.async false
set_option linter.all false
set_option maxRecDepth 100000
set_option maxHeartbeats 4000000
/-! EvE2: statements from the text; what a def promises, by its small form. -/
namespace Ev
open PySem L2

def nameT (N : List Str) (sc : Scope) : Expr → Option Nat
  | .Name x _ => if locB sc x = true then slotOf N x else none
  | _ => none
def tgOf (N : List Str) (sc : Scope) : Expr → Option Tg
  | .Name x p => (nameT N sc (.Name x p)).map .one
  | .Tuple [a, b] _ _ => (nameT N sc a).bind fun i => (nameT N sc b).map fun j => .two i j
  | .Tuple [a, b, c] _ _ => (nameT N sc a).bind fun i => (nameT N sc b).bind fun j => (nameT N sc c).map fun l => .three i j l
  | _ => none
def itOf (sc : Scope) (rE : Expr → Ex) (e : Expr) : Option It := match e with
  | .Call (.Name f p) es [] q => if f = "range" then
      if glbB sc f = true ∧ es.all notStar = true then match es with
        | [a] => some (.rng1 (rE a))
        | [a, b] => some (.rng2 (rE a) (rE b))
        | _ => none
      else none
    else some (.seq (rE (.Call (.Name f p) es [] q)))
  | e => if notSet e = true then some (.seq (rE e)) else none
def toSms : List Sm → Sms
  | [] => .nil
  | s :: r => .cons s (toSms r)
def cS1 (N : List Str) (m : Nat → Md) (sc : Scope) (rE : Expr → Ex) (r : List Stmt → Sms) (st : Stmt) : Sm := match st with
  | .Pass _ => .pass
  | .Break _ => .brk
  | .Continue _ => .cont
  | .Expr (.Constant (.str _) _ _) _ => .pass
  | .Expr (.Call (.Attribute x f p) [e] [] p2) _ => if f = "append" ∧ noCall0 x = true ∧ notStar e = true ∧ (p.endLine == p2.line) = true then .app (rE x) (rE e) else .bad
  | .Expr e _ => if notComp e = true then .expr (rE e) else .bad
  | .Return none _ => .ret0
  | .Return (some e) _ => .ret (rE e)
  | .If c a b _ => .ife (rE c) (r a) (r b)
  | .For tg iter b [] _ => match tgOf N sc tg, itOf sc rE iter with
    | some t, some it => .for t it (r b)
    | _, _ => .bad
  | .While c b [] _ => .whl (rE c) (r b)
  | .Assign [.Name x _] e _ => if locB sc x = true ∧ notComp e = true then match slotOf N x with
      | some i => .set (m i) i (rE e)
      | none => .bad
    else .bad
  | .Assign [.Subscript x i _] e _ => if notComp e = true ∧ notSlice i = true then .seti (rE x) (rE i) (rE e) else .bad
  | .Assign [.Tuple es k p] e _ => if notComp e = true ∧ notDisp e = true then match tgOf N sc (.Tuple es k p) with
      | some t => .unp t (rE e)
      | none => .bad
    else .bad
  | .AugAssign (.Name x _) .Add e _ => if locB sc x = true then match slotOf N x with
      | some i => .aug i .add (rE e)
      | none => .bad
    else .bad
  | .AugAssign (.Name x _) .Sub e _ => if locB sc x = true then match slotOf N x with
      | some i => .aug i .sub (rE e)
      | none => .bad
    else .bad
  | _ => .bad
def cS (N : List Str) (m : Nat → Md) (sc : Scope) : Nat → List Stmt → Sms
  | 0 => fun _ => .cons .bad .nil
  | n + 1 => fun sts => toSms (sts.map (cS1 N m sc (cE N 60 sc) (cS N m sc n)))

structure StOk (C : Ct) (X : Cx) (k : Nat) (g : G) : Prop extends XOk C X k g where
  fn : ∀ x, X.fn x = true
  hp : PassesOwn (model X.prog X.w) X.A X.env X.xe
variable {C : Ct} {X : Cx} {g : G} {k : Nat}
theorem nameT_ok {N : List Str} (O : StOk C X k g) (hN : X.N = N) {e : Expr} {i : Nat} (h : nameT N X.env.scope e = some i) : PG X e (gName i) := by
  unfold nameT at h
  split at h
  · split at h
    · rename_i hl
      exact pg_name O.nd (by rw [hN]; exact slotOf_ok h) (loc_ok hl) (.inl (O.fn _))
    · cases h
  · cases h
theorem nameT_is {N : List Str} {sc : Scope} {e : Expr} {i : Nat} (h : nameT N sc e = some i) : ∃ x p, e = .Name x p := by
  unfold nameT at h
  split at h
  · exact ⟨_, _, rfl⟩
  · cases h
theorem obind {α β : Type} {o : Option α} {f : α → Option β} {z : β} (h : o.bind f = some z) : ∃ a, o = some a ∧ f a = some z := by
  cases o with
  | none => cases h
  | some a => exact ⟨a, rfl, h⟩
theorem tgOf_ok {N : List Str} (O : StOk C X k g) (hN : X.N = N) {e : Expr} {t : Tg} (h : tgOf N X.env.scope e = some t) : SndT X C.X e t := by
  unfold tgOf at h
  split at h
  · obtain ⟨i, h1, h2⟩ := omap h
    subst h2
    exact SndT.one (nameT_ok O hN h1)
  · obtain ⟨i, h1, h⟩ := obind h
    obtain ⟨j, h2, h3⟩ := omap h
    subst h3
    obtain ⟨_, _, rfl⟩ := nameT_is h1
    obtain ⟨_, _, rfl⟩ := nameT_is h2
    exact SndT.two O.K (pg_tup O.calm (pgs_cons (nameT_ok O hN h1) (pgs_cons (nameT_ok O hN h2) pgs_nil)))
  · obtain ⟨i, h1, h⟩ := obind h
    obtain ⟨j, h2, h⟩ := obind h
    obtain ⟨l, h3, h4⟩ := omap h
    subst h4
    obtain ⟨_, _, rfl⟩ := nameT_is h1
    obtain ⟨_, _, rfl⟩ := nameT_is h2
    obtain ⟨_, _, rfl⟩ := nameT_is h3
    exact SndT.three O.K (pg_tup O.calm (pgs_cons (nameT_ok O hN h1) (pgs_cons (nameT_ok O hN h2) (pgs_cons (nameT_ok O hN h3) pgs_nil))))
  · cases h
theorem itOf_ok {tg : Expr} {rE : Expr → Ex} (O : StOk C X k g) (hE : ∀ e, Snd C X g e (rE e)) {e : Expr} {it : It} (h : itOf X.env.scope rE e = some it) : SndI C X g tg e it ∧ notSet e = true := by
  unfold itOf at h
  split at h
  · split at h
    · rename_i hf
      subst hf
      split at h
      · rename_i hc
        obtain ⟨hg, hs⟩ := hc
        split at h
        · rename_i a
          cases h
          exact ⟨SndI.rng1 O.toMods (glb_ok hg) (Bool.and_eq_true_iff.mp (show (notStar a && true) = true from hs)).1 (hE _), rfl⟩
        · rename_i a b
          cases h
          obtain ⟨h1, h2⟩ := Bool.and_eq_true_iff.mp (show (notStar a && (notStar b && true)) = true from hs)
          exact ⟨SndI.rng2 O.toMods (glb_ok hg) h1 (Bool.and_eq_true_iff.mp h2).1 (hE _) (hE _), rfl⟩
        · cases h
      · cases h
    · cases h
      exact ⟨SndI.seq O.toMods (hE _), rfl⟩
  · split at h
    · rename_i hs
      cases h
      exact ⟨SndI.seq O.toMods (hE _), hs⟩
    · cases h
theorem stOk_at (O : StOk C X k g) (F0 : Hp) (ρ0 : List Addr) : StOk (C.at F0 ρ0) X k g := ⟨⟨⟨O.K, O.mg, O.free, O.hu⟩, O.g, O.room, O.tk, O.nd, O.calm⟩, O.fn, O.hp⟩
theorem swapped_none {es : List Expr} {n : Nat} {p : Pos} {e : Expr} {env : Env} (h : notDisp e = true) : swappedStores [.Tuple es n p] e env = pure none := by
  cases e <;> first | (cases h; done) | rfl
/-- one step: expressions and blocks are known -/
theorem cS1_ok {N : List Str} {m : Nat → Md} {rE : Expr → Ex} {r : List Stmt → Sms} (O : StOk C X k g) (hN : X.N = N) (hE : ∀ F0 ρ0 e, Snd (C.at F0 ρ0) X g e (rE e)) (hB : ∀ F0 ρ0 b, SndB (C.at F0 ρ0) X g b (r b)) (st : Stmt) :
    SndS C X g st (cS1 N m X.env.scope rE r st) := by
  have hE0 : ∀ e, Snd C X g e (rE e) := hE C.F0 C.ρ0
  have hB0 : ∀ b, SndB C X g b (r b) := hB C.F0 C.ρ0
  unfold cS1
  split
  · exact SndS.pass
  · exact SndS.brk
  · exact SndS.cont
  · exact SndS.doc
  · split
    · rename_i hc
      obtain ⟨rfl, h1, h2, h3⟩ := hc
      exact SndS.app (hE0 _) (hE0 _) h2 h1 h3 (swaps_none rfl)
    · exact SndS.bad
  · split
    · rename_i hc; exact SndS.expr (hE0 _) (swaps_none hc)
    · exact SndS.bad
  · exact SndS.ret0
  · exact SndS.ret (hE0 _)
  · exact SndS.ife (hE0 _) (hB0 _) (hB0 _)
  · split
    · rename_i t it ht hi
      obtain ⟨h1, h2⟩ := itOf_ok O hE0 hi
      exact SndS.for h1 (tgOf_ok O hN ht) (fun F0 ρ0 => hB F0 ρ0 _) O.hp O.calm (fold_none h2)
    · exact SndS.bad
  · exact SndS.whl (fun F0 ρ0 => hE F0 ρ0 _) (fun F0 ρ0 => hB F0 ρ0 _) O.hp
  · split
    · rename_i hc
      obtain ⟨h1, h2⟩ := hc
      split
      · rename_i i hi
        exact SndS.set (hE0 _) O.nd (by rw [hN]; exact slotOf_ok hi) (loc_ok h1) (swaps_none h2) (.inl (O.fn _))
      · exact SndS.bad
    · exact SndS.bad
  · split
    · rename_i hc
      obtain ⟨h1, h2⟩ := hc
      exact SndS.seti O.toXOk (hE0 _) (hE0 _) (hE0 _) h2 (sole_none h1) rfl rfl
    · exact SndS.bad
  · split
    · rename_i hc
      obtain ⟨h1, h2⟩ := hc
      split
      · rename_i t ht
        exact SndS.unp (hE0 _) (tgOf_ok O hN ht) (sole_none h1) (swapped_none h2) rfl
      · exact SndS.bad
    · exact SndS.bad
  · split
    · rename_i h1
      split
      · rename_i i hi
        exact SndS.aug (hE0 _) O.nd (by rw [hN]; exact slotOf_ok hi) (loc_ok h1) (.inl ⟨rfl, rfl⟩) (.inl (O.fn _))
      · exact SndS.bad
    · exact SndS.bad
  · split
    · rename_i h1
      split
      · rename_i i hi
        exact SndS.aug (hE0 _) O.nd (by rw [hN]; exact slotOf_ok hi) (loc_ok h1) (.inr ⟨rfl, rfl⟩) (.inl (O.fn _))
      · exact SndS.bad
    · exact SndS.bad
  · exact SndS.bad
theorem toSms_ok {f : Stmt → Sm} : ∀ {sts : List Stmt}, (∀ st, SndS C X g st (f st)) → SndB C X g sts (toSms (sts.map f))
  | [], _ => SndB.nil
  | st :: r, h => SndB.cons (h st) (toSms_ok h)
theorem cS_ok {N : List Str} {m : Nat → Md} (hN : X.N = N) : ∀ (n : Nat) {C : Ct}, StOk C X k g → ∀ sts, SndB C X g sts (cS N m X.env.scope n sts)
  | 0, C, O, sts => ⟨⟨fun pins s σ H D I ⟨F, ρ, s0, R, p⟩ => by
      unfold cS at p
      rw [evSs, evS] at p
      exact p.elim⟩⟩
  | n + 1, C, O, sts => toSms_ok fun st => cS1_ok O hN (fun F0 ρ0 e => cE_ok (stOk_at O F0 ρ0).toXOk hN 60 e) (fun F0 ρ0 b => cS_ok hN n (stOk_at O F0 ρ0) b) st

/-! ### a def's promise -/
def env0 (n : Nat) (ds : List Ev.D) : List Sl := ds.map .val ++ List.replicate (n - ds.length) .no
def meets (cs : List (Option Ev.D)) (c : Ctl) : FRes → Prop
  | .bad => True
  | .ret fr d cs' => (∃ s, c = .ret fr d s ∧ s.cs = cs'.getD cs) ∨ (fr = false ∧ ((∃ s, c = .ret true d s ∧ s.cs = cs'.getD cs) ∨ (d = .non ∧ ∃ s, c = .nx s ∧ s.cs = cs'.getD cs)))
  | .exn x cs' => ∃ s, c = .exn x s ∧ s.cs = cs'.getD cs
theorem frozenC {kx : Kx} {R F : Hp} {ρ : List Addr} {cs : List (Option Ev.D)} {H : Hp} {p : Addr} {o : HO} (r : RelC kx R F ρ cs H) (f : FreshC R F ρ cs p) (h : H p = some o) : RelC kx R (upd F p o) ρ cs H := by
  have sm : Same F (upd F p o) := Same.updF f.f
  refine ⟨fun a u e => ?_, r.leR, fun a e => ?_, r.clen, fun l a d h1 h2 => ?_, r.inj⟩
  · by_cases n : a = p
    · subst n; rw [upd_same] at e; cases e; exact .inl h
    · rw [upd_ne n] at e; exact r.leF a u e
  · by_cases n : a = p
    · subst n; exact absurd f.r e
    · rw [upd_ne n]; exact r.dis a e
  · obtain ⟨x, y, z⟩ := r.live l a d h1 h2
    have n : a ≠ p := fun q => by subst q; exact f.c l d h1 h2
    exact ⟨by rw [upd_ne n]; exact x, y, z.mono sm (Pre.refl _) rfl⟩
theorem start_rel {kx : Kx} {R F : Hp} {ρ : List Addr} {cs : List (Option Ev.D)} {H : Hp} {W : WX} {N : List Str} {ds : List Ev.D} {vs : List V} (r : RelC kx R F ρ cs H) (t : Reps kx ρ F ds vs) (hl : ds.length ≤ N.length) :
    Rel ⟨kx, R, F, ρ, W⟩ F ρ ⟨env0 N.length ds, cs⟩ (L2.start N vs) H := by
  have hv := t.len
  have no : ∀ (i : Nat) (d : Ev.D), (env0 N.length ds)[i]? ≠ some (.own d) := fun i d h => by
    unfold env0 at h
    by_cases hi : i < ds.length
    · rw [List.getElem?_append_left (by simpa using hi), List.getElem?_map] at h
      obtain ⟨a, _, e⟩ := omap h
      cases e
    · rw [List.getElem?_append_right (by simpa using hi), List.getElem?_replicate] at h
      split at h <;> cases h
  refine ⟨Same.refl _, Pre.refl _, r, ?_, fun i d h => ?_, fun i d h => (no i d h).elim, fun i j d d' a h => (no i d h).elim, fun i l d d' a h => (no i d h).elim⟩
  · unfold L2.start env0
    simp only [List.length_append, List.length_map, List.length_replicate]
    omega
  · unfold env0 at h
    by_cases hi : i < ds.length
    · rw [List.getElem?_append_left (by simpa using hi), List.getElem?_map] at h
      obtain ⟨a, h1, e⟩ := omap h
      cases e
      obtain ⟨v, h2, h3⟩ := t.get h1
      refine ⟨v, ?_, h3⟩
      unfold L2.start
      rw [List.getElem?_append_left (by rw [List.length_map]; exact lt_of_get h2), List.getElem?_map, h2]
      rfl
    · rw [List.getElem?_append_right (by simpa using hi), List.getElem?_replicate] at h
      split at h <;> cases h
theorem ret_post {C : Ct} {D : Ends} {c : Ctl} {cs : List (Option Ev.D)} {r : FRes} {Q : VK} {E : XK} (hW : C.W = fun c d _ H => E c d H) (hD : D = { nx := fun _ H' => Q .non H', rt := Q }) (m : meets cs c r)
    (k : spPost C.X C.R C.F0 C.ρ0 cs Q E r) : PostC C D c := by
  subst hD
  cases r with
  | bad => exact k.elim
  | exn x cs' =>
    obtain ⟨s, rfl, e⟩ := m
    intro σ c dd F H ρ R ex
    rw [hW]
    exact k c dd F ρ H (by rw [← e]; exact R.c) R.sF R.sρ ex
  | ret fr d cs' =>
    rcases m with ⟨s, rfl, e⟩ | ⟨rfl, ⟨s, rfl, e⟩ | ⟨rfl, s, rfl, e⟩⟩
    · intro v F ρ σ H R rr
      refine k v F ρ H (by rw [← e]; exact R.c) R.sF R.sρ ?_
      rcases rr with ⟨e1, p, e2, f, a⟩ | ⟨e1, h⟩
      · exact .inl ⟨e1, p, e2, ⟨f.f, f.r, fun l u h1 h2 => f.c l u h1 (by rw [e]; exact h2)⟩, a⟩
      · exact .inr ⟨e1, h⟩
    · intro v F ρ σ H R rr
      rcases rr with ⟨e1, p, rfl, f, a⟩ | ⟨e1, h⟩
      · obtain ⟨o, ho, _⟩ := a.some
        have f' : FreshC C.R F ρ s.cs p := ⟨f.f, f.r, f.c⟩
        have sm : Same F (upd F p o) := Same.updF f.f
        refine k _ (upd F p o) ρ H (by rw [← e]; exact frozenC R.c f' ho) (fun a u z => sm a u (R.sF a u z)) R.sρ (.inr ⟨rfl, a.freeze sm (by rw [upd_same, ho])⟩)
      · cases e1
    · intro F ρ σ H R
      exact k _ F ρ H (by rw [← e]; exact R.c) R.sF R.sρ (.inr ⟨rfl, rfl⟩)
section
variable {P : Program} {w : World} {kx : Kx} {base : Heap}
/-- THE RULE for a def -/
theorem def_ok {x qual : Str} {params : Arguments} {body : List Stmt} {scope : Scope} {f : Addr} {fd : FuncData} {dvs : List V} {kws : List (Str × V)} {N ps : List Str} {m : Nat → Md} {ast : Sms} {fn : Fn} {k : Nat} {g : G}
    (F : FunD kx.K x qual params body scope dvs kws f fd) (Sc : FnScope N ps scope) (hc : cS N m scope 60 body = ast) (hg : GOk kx P w base k g) (hfree : ∀ x ∈ bnames, kx.mg x = none) (har : fn.ar = ps.length)
    (h : ∀ ds cs, ds.length = fn.ar → meets cs (evSs g ast ⟨env0 N.length ds, cs⟩) (fn.run ds cs)) : FnOk P w kx.K kx.mg base (L2.CX P w) (k + 1) f fd ps (spOf kx fn) := by
  have hpl : ps.length ≤ N.length := by have := congrArg List.length Sc.pre; rw [List.length_take] at this; omega
  refine F.ok Sc (fun vs H Q E ⟨R, F0, ρ, ds, cs, r, t, hl, _⟩ => by rw [t.len, hl, har]) fun cdv A outer s H vs Q E hr ⟨R, F0, ρ, ds, cs, r, t, hl, q⟩ => ?_
  have O : StOk ⟨kx, R, F0, ρ, fun c d _ H => E c d H⟩ (cxOf (L2.CX P w) P w kx.K kx.mg base N qual scope f cdv A outer s H E) k g := by
    refine ⟨⟨⟨rfl, rfl, hfree, hr.units⟩, hg, hr, ?_, Sc.nd, rfl⟩, fun _ => rfl, passes_of rfl⟩
    exact takes_of rfl rfl rfl rfl
  refine ⟨_, (cS_ok (N := N) (m := m) rfl 60 O body).ps, F0, ρ, ⟨env0 N.length ds, cs⟩, start_rel r t (by rw [hl, har]; exact hpl), ?_⟩
  have e : cS N m (cxOf (L2.CX P w) P w kx.K kx.mg base N qual scope f cdv A outer s H E).env.scope 60 body = ast := hc
  rw [e]
  exact ret_post rfl rfl (h ds cs hl) q
end
end Ev
set_option Elab.async false
set_option linter.all false
set_option maxRecDepth 100000
set_option maxHeartbeats 4000000
/-! EvS: how a body is run in a proof: simp's own rows. -/
namespace Ev
open PySem L2

theorem pP_ok' (r : Bool × D) (s : S) : pP (.ok r s) = .ok r.2 s := rfl
theorem pP_bad : pP .bad = .bad := rfl
theorem pE_ok' (r : Bool × D) (s : S) : pE (.ok r s) = fix r.2 s := rfl
theorem pB_ok' (r : Bool × D) (s : S) : pB (.ok r s) = bool1 r.2 s := rfl
theorem pB_bad : pB .bad = .bad := rfl
theorem pE_bad : pE .bad = .bad := rfl
theorem pP_exn (x : Exn) (s : S) : pP (.exn x s) = .exn x s := rfl
theorem pE_exn (x : Exn) (s : S) : pE (.exn x s) = .exn x s := rfl
theorem pB_exn (x : Exn) (s : S) : pB (.exn x s) = .exn x s := rfl
theorem fix_int (i : Int) (s : S) : fix (.int i) s = .ok (.int i) s := rfl
theorem fix_bl (i : Bool) (s : S) : fix (.bl i) s = .ok (.bl i) s := rfl
theorem fix_str (i : Str) (s : S) : fix (.str i) s = .ok (.str i) s := rfl
theorem fix_non (s : S) : fix .non s = .ok .non s := rfl
theorem fix_tup (i : List D) (s : S) : fix (.tup i) s = .ok (.tup i) s := rfl
theorem fix_lst (i : List D) (s : S) : fix (.lst i) s = .ok (.lst i) s := rfl
theorem fix_ro (i : List D) (s : S) : fix (.ro i) s = .ok (.ro i) s := rfl
theorem fix_dct (k : List Key) (i : List D) (s : S) : fix (.dct k i) s = .ok (.dct k i) s := rfl
theorem fix_ins (c : Str) (k : List Str) (i : List D) (s : S) : fix (.ins c k i) s = .ok (.ins c k i) s := rfl
theorem fix_cell (l : Nat) (s : S) : fix (.cell l) s = .ok (.cell l) s := rfl
theorem fix_own {i : Nat} {s : S} {d : D} (h : s.env[i]? = some (.own d)) : fix (.own i) s = .ok d (s.put i (.val d)) := by unfold fix; simp only [h]
theorem res_int (i : Int) (s : S) : res s (.int i) = .int i := rfl
theorem res_bl (i : Bool) (s : S) : res s (.bl i) = .bl i := rfl
theorem res_str (i : Str) (s : S) : res s (.str i) = .str i := rfl
theorem res_non (s : S) : res s .non = .non := rfl
theorem res_tup (i : List D) (s : S) : res s (.tup i) = .tup i := rfl
theorem res_lst (i : List D) (s : S) : res s (.lst i) = .lst i := rfl
theorem res_ro (i : List D) (s : S) : res s (.ro i) = .ro i := rfl
theorem res_dct (k : List Key) (i : List D) (s : S) : res s (.dct k i) = .dct k i := rfl
theorem res_ins (c : Str) (k : List Str) (i : List D) (s : S) : res s (.ins c k i) = .ins c k i := rfl
theorem res_cell {l : Nat} {s : S} {d : D} (h : s.cs[l]? = some (some d)) : res s (.cell l) = d := by unfold res; simp only [h]
theorem res_own {i : Nat} {s : S} {d : D} (h : s.env[i]? = some (.own d)) : res s (.own i) = d := by unfold res; simp only [h]
theorem bool1_bl (b : Bool) (s : S) : bool1 (.bl b) s = .ok b s := rfl
theorem mutD_cell {l : Nat} {s : S} {d : D} {f : D → Option D} (h : s.cs[l]? = some (some d)) : mutD (.cell l) s f = ofC (f d) fun d' => .nx ⟨s.env, s.cs.set l (some d')⟩ := by unfold mutD; simp only [h]
theorem mutD_own {i : Nat} {s : S} {d : D} {f : D → Option D} (h : s.env[i]? = some (.own d)) : mutD (.own i) s f = ofC (f d) fun d' => .nx (s.put i (.own d')) := by unfold mutD; simp only [h]
theorem callD_ret {fn : Fn} {ds : List D} {s : S} {fr : Bool} {d : D} {cs : Option (List (Option D))} (hl : ds.length = fn.ar) (h : fn.run ds s.cs = .ret fr d cs) : callD fn ds s = .ok (fr, d) (s.withCs cs) := by
  unfold callD
  rw [if_pos hl, h]
theorem withCs_none (s : S) : s.withCs none = s := rfl
theorem withCs_some (s : S) (cs : List (Option D)) : s.withCs (some cs) = ⟨s.env, cs⟩ := rfl
theorem put_mk (e : List Sl) (c : List (Option D)) (i : Nat) (x : Sl) : (⟨e, c⟩ : S).put i x = ⟨e.set i x, c⟩ := rfl
theorem storeD_val (i : Nat) (r : Bool × D) (s : S) : storeD .val i r s = (fix r.2 s).to fun d s1 => .nx (s1.put i (.val d)) := rfl
theorem storeD_own (i : Nat) (d : D) (s : S) : storeD .own i (true, d) s = .nx (s.put i (.own d)) := rfl
theorem storeD_cell (i : Nat) (d : D) (s : S) : storeD .cell i (true, d) s = .nx ((⟨s.env, s.cs ++ [some d]⟩ : S).put i (.val (.cell s.cs.length))) := rfl
theorem retD_fr (d : D) (s : S) : retD (true, d) s = .ret true d s := rfl
theorem retD_int (i : Int) (s : S) : retD (false, .int i) s = .ret false (.int i) s := rfl
theorem retD_bl (i : Bool) (s : S) : retD (false, .bl i) s = .ret false (.bl i) s := rfl
theorem retD_str (i : Str) (s : S) : retD (false, .str i) s = .ret false (.str i) s := rfl
theorem retD_non (s : S) : retD (false, .non) s = .ret false .non s := rfl
theorem retD_tup (i : List D) (s : S) : retD (false, .tup i) s = .ret false (.tup i) s := rfl
theorem retD_lst (i : List D) (s : S) : retD (false, .lst i) s = .ret false (.lst i) s := rfl
theorem retD_ro (i : List D) (s : S) : retD (false, .ro i) s = .ret false (.ro i) s := rfl
theorem retD_own {i : Nat} {s : S} {d : D} (h : s.env[i]? = some (.own d)) : retD (false, .own i) s = .ret true d (s.put i .no) := by unfold retD; simp only [h, Bool.false_eq_true, if_false]


theorem or_ok (b y : Bool) (s : S) : (if b = true then RE.ok (false, D.bl true) s else RE.ok (false, D.bl y) s) = RE.ok (false, D.bl (b || y)) s := by cases b <;> rfl
theorem and_ok (b y : Bool) (s : S) : (if b = true then RE.ok (false, D.bl y) s else RE.ok (false, D.bl false) s) = RE.ok (false, D.bl (b && y)) s := by cases b <;> rfl
theorem ev_call {g : G} {f : Str} {fn : Fn} {es : Exs} {s : S} (h : g.fn f = some fn) : ev g (.call f es) s = (evEs g es s).bind fun ds s1 => callD fn ds s1 := by rw [ev, h]
theorem ev_glob {g : G} {x : Str} {d : D} {s : S} (h : g.con x = some d) : ev g (.glob x) s = .ok (false, d) s := by rw [ev, h]; rfl
theorem bind_ite {α β : Type} {c : Prop} [Decidable c] (a b : RE α) (f : α → S → RE β) : (if c then a else b).bind f = if c then a.bind f else b.bind f := by split <;> rfl
theorem then_ite {c : Prop} [Decidable c] (a b : Ctl) (f : S → Ctl) : (if c then a else b).then f = if c then a.then f else b.then f := by split <;> rfl
theorem setT_one (i : Nat) (d : D) (s : S) : setT (.one i) d s = some (s.put i (.val d)) := rfl
theorem forL_nil (t : Tg) (b : S → Ctl) (s : S) : forL t b [] s = .nx s := rfl
theorem forL_cons (i : Nat) (b : S → Ctl) (d : D) (ds : List D) (s : S) : forL (.one i) b (d :: ds) s = match b (s.put i (.val d)) with
    | .nx s2 => forL (.one i) b ds s2
    | .ct s2 => forL (.one i) b ds s2
    | .brk s2 => .nx s2
    | c => c := rfl
theorem forL_nx {i : Nat} {b : S → Ctl} {d : D} {ds : List D} {s s2 : S} (h : b (s.put i (.val d)) = .nx s2) : forL (.one i) b (d :: ds) s = forL (.one i) b ds s2 := by rw [forL_cons, h]
theorem forL_ret {i : Nat} {b : S → Ctl} {d r : D} {fr : Bool} {ds : List D} {s s2 : S} (h : b (s.put i (.val d)) = .ret fr r s2) : forL (.one i) b (d :: ds) s = .ret fr r s2 := by rw [forL_cons, h]
theorem evSs_cons (g : G) (a : Sm) (r : Sms) (s : S) : evSs g (.cons a r) s = (evS g a s).then fun s1 => evSs g r s1 := by rw [evSs]
theorem evSs_nil (g : G) (s : S) : evSs g .nil s = .nx s := by rw [evSs]
theorem evS_for (g : G) (t : Tg) (it : It) (b : Sms) (s : S) : evS g (.for t it b) s = (iterE g it s).to fun ds s1 => forL t (fun s => evSs g b s) ds s1 := by rw [evS]
theorem evS_ife (g : G) (c : Ex) (a b : Sms) (s : S) : evS g (.ife c a b) s = (pB (ev g c s)).to fun k s1 => if k = true then evSs g a s1 else evSs g b s1 := by rw [evS]

theorem inF_sign (c : Nat) (z : Str) : inF (.str ⟨#[c]⟩) (.str z) = some (decide (c ∈ z.cps.toList)) := rfl
theorem inF_tup {d : D} {ds : List D} (h : isF d = true) (h2 : ds.all isF = true) : inF d (.tup ds) = some (ds.any fun y => eqFb y d) := by
  cases d <;> first | (cases h; done) | exact if_pos ⟨h, h2⟩
theorem inF_lst {d : D} {ds : List D} (h : isF d = true) (h2 : ds.all isF = true) : inF d (.lst ds) = some (ds.any fun y => eqFb y d) := by
  cases d <;> first | (cases h; done) | exact if_pos ⟨h, h2⟩

/-! ### rows for simp: operations at constructors -/
theorem b_add_int (i j : Int) : binD .add (.int i) (.int j) = some (false, .int (i + j)) := rfl
theorem b_sub_int (i j : Int) : binD .sub (.int i) (.int j) = some (false, .int (i - j)) := rfl
theorem c_lt (i j : Int) : cmpD .lt (.int i) (.int j) = some (decide (i < j)) := rfl
theorem c_le (i j : Int) : cmpD .le (.int i) (.int j) = some (decide (i ≤ j)) := rfl
theorem c_gt (i j : Int) : cmpD .gt (.int i) (.int j) = some (decide (j < i)) := rfl
theorem c_ge (i j : Int) : cmpD .ge (.int i) (.int j) = some (decide (j ≤ i)) := rfl
theorem c_eq (a b : D) : cmpD .eq a b = eqF a b := rfl
theorem c_ne (a b : D) : cmpD .ne a b = (eqF a b).map (!·) := rfl
theorem c_in (a b : D) : cmpD .isin a b = inF a b := rfl
theorem c_notin (a b : D) : cmpD .notin a b = (inF a b).map (!·) := rfl
theorem c_is (a b : D) : cmpD .is a b = isD a b := rfl
theorem c_isnot (a b : D) : cmpD .isnot a b = (isD a b).map (!·) := rfl
theorem e_int (i j : Int) : eqF (.int i) (.int j) = some (decide (i = j)) := rfl
theorem e_bl (i j : Bool) : eqF (.bl i) (.bl j) = some (decide (i = j)) := rfl
theorem e_str (i j : Str) : eqF (.str i) (.str j) = some (decide (i = j)) := rfl
theorem e_non  : eqF .non .non = some true := rfl
theorem e_non_int (i : Int) : eqF .non (.int i) = some false := rfl
theorem e_int_non (i : Int) : eqF (.int i) .non = some false := rfl
theorem e_non_bl (i : Bool) : eqF .non (.bl i) = some false := rfl
theorem e_bl_non (i : Bool) : eqF (.bl i) .non = some false := rfl
theorem e_non_str (i : Str) : eqF .non (.str i) = some false := rfl
theorem e_str_non (i : Str) : eqF (.str i) .non = some false := rfl
theorem is_non  : isD .non .non = some true := rfl
theorem is_bl (a b : Bool) : isD (.bl a) (.bl b) = some (decide (a = b)) := rfl
theorem is_int_non (i : Int) : isD (.int i) .non = some false := rfl
theorem is_int_bl (i : Int) (x : Bool) : isD (.int i) (.bl x) = some false := rfl
theorem is_str_non (i : Str) : isD (.str i) .non = some false := rfl
theorem is_str_bl (i : Str) (x : Bool) : isD (.str i) (.bl x) = some false := rfl
theorem is_tup_non (i : List D) : isD (.tup i) .non = some false := rfl
theorem is_tup_bl (i : List D) (x : Bool) : isD (.tup i) (.bl x) = some false := rfl
theorem is_lst_non (i : List D) : isD (.lst i) .non = some false := rfl
theorem is_lst_bl (i : List D) (x : Bool) : isD (.lst i) (.bl x) = some false := rfl
theorem is_ro_non (i : List D) : isD (.ro i) .non = some false := rfl
theorem is_ro_bl (i : List D) (x : Bool) : isD (.ro i) (.bl x) = some false := rfl
theorem is_dct_non (k : List Key) (i : List D) : isD (.dct k i) .non = some false := rfl
theorem is_dct_bl (k : List Key) (i : List D) (x : Bool) : isD (.dct k i) (.bl x) = some false := rfl
theorem is_ins_non (c : Str) (k : List Str) (i : List D) : isD (.ins c k i) .non = some false := rfl
theorem is_ins_bl (c : Str) (k : List Str) (i : List D) (x : Bool) : isD (.ins c k i) (.bl x) = some false := rfl
theorem is_cell_non (i : Nat) : isD (.cell i) .non = some false := rfl
theorem is_cell_bl (i : Nat) (x : Bool) : isD (.cell i) (.bl x) = some false := rfl
theorem is_bl_non (x : Bool) : isD (.bl x) .non = some false := rfl
theorem is_non_bl (x : Bool) : isD .non (.bl x) = some false := rfl
theorem u_neg (i : Int) : unD .neg (.int i) = some (false, .int (-i)) := rfl
theorem u_len (d : D) : unD .len d = (lenD d).map fun n => (false, .int n) := rfl
theorem u_int (i : Int) : unD .int (.int i) = some (false, .int i) := rfl
theorem u_int_bl (b : Bool) : unD .int (.bl b) = some (false, .int (if b then 1 else 0)) := rfl
theorem u_list_lst (i : List D) : unD .list (.lst i) = some (true, .lst i) := rfl
theorem u_tuple_lst (i : List D) : unD .tuple (.lst i) = some (false, .tup i) := rfl
theorem l_lst (i : List D) : lenD (.lst i) = some (i.length : Int) := rfl
theorem it_lst (i : List D) : iterD (.lst i) = some i := rfl
theorem u_list_tup (i : List D) : unD .list (.tup i) = some (true, .lst i) := rfl
theorem u_tuple_tup (i : List D) : unD .tuple (.tup i) = some (false, .tup i) := rfl
theorem l_tup (i : List D) : lenD (.tup i) = some (i.length : Int) := rfl
theorem it_tup (i : List D) : iterD (.tup i) = some i := rfl
theorem u_list_ro (i : List D) : unD .list (.ro i) = some (true, .lst i) := rfl
theorem u_tuple_ro (i : List D) : unD .tuple (.ro i) = some (false, .tup i) := rfl
theorem l_ro (i : List D) : lenD (.ro i) = some (i.length : Int) := rfl
theorem it_ro (i : List D) : iterD (.ro i) = some i := rfl
theorem l_dct (k : List Key) (i : List D) : lenD (.dct k i) = some (k.length : Int) := rfl
theorem it_str (x : Str) : iterD (.str x) = some (x.cps.toList.map fun c => .str ⟨#[c]⟩) := rfl
theorem u_isi (T : String) (d : D) : unD (.isi T) d = ((tyD d).bind fun t => isiT t T).map fun b => (false, .bl b) := rfl
theorem isi_non_int  : unD (.isi "int") (.non) = some (false, .bl false) := rfl
theorem isi_non_bool  : unD (.isi "bool") (.non) = some (false, .bl false) := rfl
theorem isi_non_str  : unD (.isi "str") (.non) = some (false, .bl false) := rfl
theorem isi_non_list  : unD (.isi "list") (.non) = some (false, .bl false) := rfl
theorem isi_non_tuple  : unD (.isi "tuple") (.non) = some (false, .bl false) := rfl
theorem isi_non_dict  : unD (.isi "dict") (.non) = some (false, .bl false) := rfl
theorem isi_bl_int (i : Bool) : unD (.isi "int") (.bl i) = some (false, .bl true) := rfl
theorem isi_bl_bool (i : Bool) : unD (.isi "bool") (.bl i) = some (false, .bl true) := rfl
theorem isi_bl_str (i : Bool) : unD (.isi "str") (.bl i) = some (false, .bl false) := rfl
theorem isi_bl_list (i : Bool) : unD (.isi "list") (.bl i) = some (false, .bl false) := rfl
theorem isi_bl_tuple (i : Bool) : unD (.isi "tuple") (.bl i) = some (false, .bl false) := rfl
theorem isi_bl_dict (i : Bool) : unD (.isi "dict") (.bl i) = some (false, .bl false) := rfl
theorem isi_int_int (i : Int) : unD (.isi "int") (.int i) = some (false, .bl true) := rfl
theorem isi_int_bool (i : Int) : unD (.isi "bool") (.int i) = some (false, .bl false) := rfl
theorem isi_int_str (i : Int) : unD (.isi "str") (.int i) = some (false, .bl false) := rfl
theorem isi_int_list (i : Int) : unD (.isi "list") (.int i) = some (false, .bl false) := rfl
theorem isi_int_tuple (i : Int) : unD (.isi "tuple") (.int i) = some (false, .bl false) := rfl
theorem isi_int_dict (i : Int) : unD (.isi "dict") (.int i) = some (false, .bl false) := rfl
theorem isi_str_int (i : Str) : unD (.isi "int") (.str i) = some (false, .bl false) := rfl
theorem isi_str_bool (i : Str) : unD (.isi "bool") (.str i) = some (false, .bl false) := rfl
theorem isi_str_str (i : Str) : unD (.isi "str") (.str i) = some (false, .bl true) := rfl
theorem isi_str_list (i : Str) : unD (.isi "list") (.str i) = some (false, .bl false) := rfl
theorem isi_str_tuple (i : Str) : unD (.isi "tuple") (.str i) = some (false, .bl false) := rfl
theorem isi_str_dict (i : Str) : unD (.isi "dict") (.str i) = some (false, .bl false) := rfl
theorem isi_tup_int (i : List D) : unD (.isi "int") (.tup i) = some (false, .bl false) := rfl
theorem isi_tup_bool (i : List D) : unD (.isi "bool") (.tup i) = some (false, .bl false) := rfl
theorem isi_tup_str (i : List D) : unD (.isi "str") (.tup i) = some (false, .bl false) := rfl
theorem isi_tup_list (i : List D) : unD (.isi "list") (.tup i) = some (false, .bl false) := rfl
theorem isi_tup_tuple (i : List D) : unD (.isi "tuple") (.tup i) = some (false, .bl true) := rfl
theorem isi_tup_dict (i : List D) : unD (.isi "dict") (.tup i) = some (false, .bl false) := rfl
theorem isi_lst_int (i : List D) : unD (.isi "int") (.lst i) = some (false, .bl false) := rfl
theorem isi_lst_bool (i : List D) : unD (.isi "bool") (.lst i) = some (false, .bl false) := rfl
theorem isi_lst_str (i : List D) : unD (.isi "str") (.lst i) = some (false, .bl false) := rfl
theorem isi_lst_list (i : List D) : unD (.isi "list") (.lst i) = some (false, .bl true) := rfl
theorem isi_lst_tuple (i : List D) : unD (.isi "tuple") (.lst i) = some (false, .bl false) := rfl
theorem isi_lst_dict (i : List D) : unD (.isi "dict") (.lst i) = some (false, .bl false) := rfl
theorem isi_dct_int (k : List Key) (i : List D) : unD (.isi "int") (.dct k i) = some (false, .bl false) := rfl
theorem isi_dct_bool (k : List Key) (i : List D) : unD (.isi "bool") (.dct k i) = some (false, .bl false) := rfl
theorem isi_dct_str (k : List Key) (i : List D) : unD (.isi "str") (.dct k i) = some (false, .bl false) := rfl
theorem isi_dct_list (k : List Key) (i : List D) : unD (.isi "list") (.dct k i) = some (false, .bl false) := rfl
theorem isi_dct_tuple (k : List Key) (i : List D) : unD (.isi "tuple") (.dct k i) = some (false, .bl false) := rfl
theorem isi_dct_dict (k : List Key) (i : List D) : unD (.isi "dict") (.dct k i) = some (false, .bl true) := rfl
theorem bnd_f (d : D) : bndD false d = some none := rfl
theorem bnd_t (i : Int) : bndD true (.int i) = some (some i) := rfl
theorem slc_lst (i : List D) (lo hi : Option Int) : slcD (.lst i) lo hi = some (true, .lst (cutD i lo hi)) := rfl
theorem slc_ro (i : List D) (lo hi : Option Int) : slcD (.ro i) lo hi = some (true, .lst (cutD i lo hi)) := rfl
theorem b_mul {i j : Int} (h : (-(2 ^ 64) < i ∧ i < 2 ^ 64) ∨ (-(2 ^ 64) < j ∧ j < 2 ^ 64)) : binD .mul (.int i) (.int j) = some (false, .int (i * j)) := if_pos h
theorem b_mod {i j : Int} (h : 0 < j) : binD .mod (.int i) (.int j) = some (false, .int (i % j)) := if_pos h
theorem b_fdiv {i j : Int} (h : 0 < j ∧ j.natAbs.log2 < 9000) : binD .fdiv (.int i) (.int j) = some (false, .int (i / j)) := if_pos h
theorem b_add_str {a b : Str} (h : a.length + b.length ≤ 16777216) : binD .add (.str a) (.str b) = some (false, .str (a ++ b)) := if_pos (okSz_of h)
theorem b_add_lst {a b : List D} (h : a.length + b.length ≤ 16777216) : binD .add (.lst a) (.lst b) = some (true, .lst (a ++ b)) := if_pos (okSz_of h)
theorem l_str {z : Str} (h : z.length ≤ 16777216) : lenD (.str z) = some (z.length : Int) := if_pos (okSz_of h)
theorem slc_str {z : Str} {lo hi : Option Int} (h : z.length ≤ 16777216) : slcD (.str z) lo hi = some (false, .str (cutS z lo hi)) := if_pos (okSz_of h)
theorem idx_lst (ds : List D) (i : Int) : idxD (.lst ds) (.int i) = atI ds i := rfl
theorem idx_tup (ds : List D) (i : Int) : idxD (.tup ds) (.int i) = atI ds i := rfl
theorem idx_ro (ds : List D) (i : Int) : idxD (.ro ds) (.int i) = atI ds i := rfl
theorem idx_str {z : Str} {i : Int} (h : z.length ≤ 16777216) : idxD (.str z) (.int i) = (atI z.cps.toList i).map fun c => .str ⟨#[c]⟩ := if_pos (okSz_of h)
theorem atI_nat {α : Type} {l : List α} {i : Int} (h0 : 0 ≤ i) (h : i < l.length) : ∃ a, atI l i = some a ∧ a ∈ l := by
  have e : i.toNat < l.length := by omega
  refine ⟨l[i.toNat], ?_, List.getElem_mem e⟩
  unfold atI ixN
  rw [if_pos h0, if_pos h, Option.bind_some, List.getElem?_eq_getElem e]

/-! ### a cell whose content is in sight -/
theorem res_sd {l : Nat} {cs : List (Option D)} {d : D} {e : List Sl} (h : l < cs.length) : res ⟨e, cs.set l (some d)⟩ (.cell l) = d := res_cell (by simp [h])
theorem mutD_sd {l : Nat} {cs : List (Option D)} {d : D} {e : List Sl} {f : D → Option D} (h : l < cs.length) : mutD (.cell l) ⟨e, cs.set l (some d)⟩ f = ofC (f d) fun d' => .nx ⟨e, cs.set l (some d')⟩ := by
  rw [mutD_cell (d := d) (by simp [h])]
  congr 1
  funext d'
  simp [List.set_set]
theorem sd_of {l : Nat} {cs : List (Option D)} {d : D} (h : cs[l]? = some (some d)) : cs = cs.set l (some d) := List.ext_getElem? fun j => by
  by_cases n : l = j
  · subst n; rw [set_get (lt_of_get h), h]
  · rw [List.getElem?_set_ne n]

/-! ### loops by what holds between the turns -/
theorem forL_inv {i : Nat} {b : S → Ctl} (P : Nat → S → Prop) : ∀ {ds : List D} {s : S} (k : Nat), P k s → (∀ j d s, ds[j]? = some d → P (k + j) s → ∃ s', (b (s.put i (.val d)) = .nx s' ∨ b (s.put i (.val d)) = .ct s') ∧ P (k + j + 1) s') → ∃ s', forL (.one i) b ds s = .nx s' ∧ P (k + ds.length) s'
  | [], s, k, h, _ => ⟨s, rfl, h⟩
  | d :: ds, s, k, h, step => by
    obtain ⟨s1, h1, h2⟩ := step 0 d s rfl h
    have ih := forL_inv (i := i) (b := b) P (ds := ds) (s := s1) (k + 1) h2 fun j d s hj hp => by
      have e : k + 1 + j = k + (j + 1) := by omega
      rw [e] at hp ⊢
      exact step (j + 1) d s (by simpa using hj) hp
    obtain ⟨s', h3, h4⟩ := ih
    refine ⟨s', ?_, by rw [List.length_cons]; have e : k + (ds.length + 1) = k + 1 + ds.length := by omega
                       rw [e]; exact h4⟩
    rw [forL_cons]
    rcases h1 with h1 | h1 <;> rw [h1] <;> exact h3
/-- without the turn's number -/
theorem forL_all {i : Nat} {b : S → Ctl} (P : S → Prop) {ds : List D} {s : S} (h : P s) (step : ∀ d ∈ ds, ∀ s, P s → ∃ s', (b (s.put i (.val d)) = .nx s' ∨ b (s.put i (.val d)) = .ct s') ∧ P s') : ∃ s', forL (.one i) b ds s = .nx s' ∧ P s' :=
  forL_inv (fun _ => P) (ds := ds) 0 h fun j d s hj hp => step d (List.mem_of_getElem? hj) s hp

/-! ### a def's own function; the table of a text's defs -/
noncomputable def fnB (g : G) (a : Sms) (n ar : Nat) : Fn := ⟨ar, fun ds cs => match evSs g a ⟨env0 n ds, cs⟩ with
  | .ret fr d s => .ret fr d (some s.cs)
  | .nx s => .ret false .non (some s.cs)
  | .exn x s => .exn x (some s.cs)
  | _ => .bad⟩
theorem fnB_meets (g : G) (a : Sms) (n ar : Nat) (ds : List D) (cs : List (Option D)) : meets cs (evSs g a ⟨env0 n ds, cs⟩) ((fnB g a n ar).run ds cs) := by
  unfold fnB
  dsimp only
  cases q : evSs g a ⟨env0 n ds, cs⟩ with
  | ret fr d s => exact .inl ⟨s, rfl, rfl⟩
  | nx s => exact .inr ⟨rfl, .inr ⟨rfl, s, rfl, rfl⟩⟩
  | exn x s => exact ⟨s, rfl, rfl⟩
  | brk s => trivial
  | ct s => trivial
  | bad => trivial
theorem fnB_ret {g : G} {a : Sms} {n ar : Nat} {ds : List D} {cs : List (Option D)} {fr : Bool} {d : D} {s : S} (h : evSs g a ⟨env0 n ds, cs⟩ = .ret fr d s) : (fnB g a n ar).run ds cs = .ret fr d (some s.cs) := by
  unfold fnB
  dsimp only
  rw [h]
/-- a row of the table -/
structure Row where
  name : Str
  ast : Sms
  n : Nat
  ar : Nat
def G.add (g : G) (x : Str) (f : Fn) : G := ⟨fun y => if y = x then some f else g.fn y, g.con⟩
noncomputable def gOf (con : Str → Option D) : List Row → G
  | [] => ⟨fun _ => none, con⟩
  | r :: rs => (gOf con rs).add r.name (fnB (gOf con rs) r.ast r.n r.ar)
section
variable {P : Program} {w : World} {kx : Kx} {base : Heap}
theorem FnAt.mono {j k : Nat} {x : Str} {fn : Fn} (h : FnAt kx P w base j x fn) (hk : j ≤ k) : FnAt kx P w base k x fn := by
  obtain ⟨f, fd, ps, h1, h2, h3, h4⟩ := h.at_
  exact ⟨f, fd, ps, h1, h2, h3.mono hk, h4⟩
/-- where a row's def stands in the text -/
structure RowOk (kx : Kx) (r : Row) : Prop where
  ex : ∃ (x qual : Str) (params : Arguments) (body : List Stmt) (scope : Scope) (f : Addr) (fd : FuncData) (N ps : List Str) (m : Nat → Md),
    kx.mg r.name = some (.ref f) ∧ FunD kx.K x qual params body scope [] [] f fd ∧ FnScope N ps scope ∧ cS N m scope 60 body = r.ast ∧ N.length = r.n ∧ ps.length = r.ar ∧ Binds kx.K fd ps []
theorem build {con : Str → Option D} (hcon : ∀ x d, con x = some d → ∃ v u, kx.mg x = some u ∧ RelV v u ∧ ∀ ρ F, Rep kx ρ F d v) (hfree : ∀ x ∈ bnames, kx.mg x = none) : ∀ rs : List Row, (∀ r ∈ rs, RowOk kx r) → GOk kx P w base rs.length (gOf con rs)
  | [], _ => ⟨(fun x fn (h : (none : Option Fn) = some fn) => nomatch h), hcon⟩
  | r :: rs, h => by
    have ih := build hcon hfree rs fun r' hr => h r' (List.mem_cons_of_mem _ hr)
    refine ⟨fun x fn hx => ?_, ih.con⟩
    have hy : (if x = r.name then some (fnB (gOf con rs) r.ast r.n r.ar) else (gOf con rs).fn x) = some fn := hx
    clear hx
    by_cases e : x = r.name
    · rw [if_pos e] at hy
      injection hy with hy
      subst hy
      subst e
      obtain ⟨x, qual, params, body, scope, f, fd, N, ps, m, h1, h2, h3, h4, h5, h6, h7⟩ := (h r List.mem_cons_self).ex
      refine ⟨f, fd, ps, h1, h2.kp, def_ok h2 h3 h4 ih hfree h6.symm fun ds cs _ => ?_, h7⟩
      rw [h5]
      exact fnB_meets _ _ _ _ _ _
    · rw [if_neg e] at hy
      exact (ih.fn x fn hy).mono (Nat.le_succ _)
end
end Ev
set_option Elab.async false
set_option linter.all false
set_option maxRecDepth 100000
set_option maxHeartbeats 4000000
namespace Ev
open PySem L2
def a_is_name_1 : Sms := .cons (.ret (.con (.bl false))) .nil
def a_is_name_4 : Sms := .cons (.ret (.con (.bl false))) .nil
def a_is_name_3 : Sms := .cons (.ife (.cmp .notin (.var 1) (.glob "LETTERS")) a_is_name_4 .nil) .nil
def a_is_name_5 : Sms := .cons (.ret (.con (.bl true))) .nil
def a_is_name_2 : Sms := .cons (.for (.one 1) (.seq (.var 0)) a_is_name_3) a_is_name_5
def a_is_name_0 : Sms := .cons (.ife (.or (.cmp .eq (.var 0) (.con (.str ""))) (.or (.cmp .gt (.un .len (.var 0)) (.glob "NAME_LENGTH")) (.cmp .isin (.var 0) (.glob "RESERVED")))) a_is_name_1 .nil) a_is_name_2
abbrev n_is_name : List Str := ["text", "char"]
abbrev p_is_name : List Str := ["text"]
def m_is_name : Nat → Md := fun _ => .val
def a_l_state_0 : Sms := .cons (.ret (.lst (.cons (.un .list (.var 0)) (.cons (.con (.int 0)) (.cons (.con (.int 0)) (.cons (.con (.int 0)) (.cons (.con (.int 0)) .nil))))))) .nil
abbrev n_l_state : List Str := ["_law_script"]
abbrev p_l_state : List Str := ["_law_script"]
def m_l_state : Nat → Md := fun _ => .val
def a_l_draw_2 : Sms := .cons (.ret (.con (.int 0))) .nil
def a_l_draw_8 : Sms := .cons (.seti (.var 0) (.con (.int 3)) (.con (.int 2))) .nil
def a_l_draw_7 : Sms := .cons (.ife (.cmp .lt (.idx (.var 0) (.con (.int 2))) (.bin .pow (.con (.int 10)) (.con (.int 18)))) a_l_draw_8 .nil) .nil
def a_l_draw_6 : Sms := .cons (.seti (.var 0) (.con (.int 4)) (.con (.int 0))) a_l_draw_7
def a_l_draw_5 : Sms := .cons (.seti (.var 0) (.con (.int 3)) (.con (.int 1))) a_l_draw_6
def a_l_draw_4 : Sms := .cons (.seti (.var 0) (.con (.int 1)) (.bin .add (.idx (.var 0) (.con (.int 1))) (.con (.int 1)))) a_l_draw_5
def a_l_draw_3 : Sms := .cons (.seti (.var 0) (.con (.int 2)) (.un .int (.idx (.idx (.var 0) (.con (.int 0))) (.idx (.var 0) (.con (.int 1)))))) a_l_draw_4
def a_l_draw_1 : Sms := .cons (.ife (.cmp .ge (.idx (.var 0) (.con (.int 1))) (.un .len (.idx (.var 0) (.con (.int 0))))) a_l_draw_2 .nil) a_l_draw_3
def a_l_draw_14 : Sms := .cons (.seti (.var 0) (.con (.int 3)) (.con (.int 0))) .nil
def a_l_draw_15 : Sms := .cons (.ret (.var 2)) .nil
def a_l_draw_13 : Sms := .cons (.ife (.or (.cmp .eq (.idx (.var 0) (.con (.int 2))) (.con (.int 0))) (.cmp .ge (.idx (.var 0) (.con (.int 4))) (.con (.int 60)))) a_l_draw_14 .nil) a_l_draw_15
def a_l_draw_12 : Sms := .cons (.seti (.var 0) (.con (.int 2)) (.bin .fdiv (.un .int (.idx (.var 0) (.con (.int 2)))) (.var 1))) a_l_draw_13
def a_l_draw_11 : Sms := .cons (.set .val 2 (.bin .mod (.un .int (.idx (.var 0) (.con (.int 2)))) (.var 1))) a_l_draw_12
def a_l_draw_19 : Sms := .cons (.seti (.var 0) (.con (.int 3)) (.con (.int 0))) .nil
def a_l_draw_21 : Sms := .cons (.ret (.bin .mod (.un .int (.var 5)) (.var 1))) .nil
def a_l_draw_20 : Sms := .cons (.set .val 5 (.bin .mod (.un .int (.bin .add (.bin .mul (.var 4) (.con (.int 16807))) (.var 3))) (.con (.int 2147483029)))) a_l_draw_21
def a_l_draw_18 : Sms := .cons (.ife (.cmp .ge (.idx (.var 0) (.con (.int 4))) (.con (.int 8))) a_l_draw_19 .nil) a_l_draw_20
def a_l_draw_17 : Sms := .cons (.set .val 4 (.bin .mod (.un .int (.bin .add (.bin .add (.bin .mul (.var 3) (.var 3)) (.bin .mul (.idx (.var 0) (.con (.int 4))) (.con (.int 40692)))) (.con (.int 3)))) (.con (.int 2147483399)))) a_l_draw_18
def a_l_draw_16 : Sms := .cons (.set .val 3 (.bin .mod (.un .int (.bin .add (.bin .mul (.idx (.var 0) (.con (.int 2))) (.con (.int 48271))) (.bin .mul (.idx (.var 0) (.con (.int 4))) (.con (.int 69621))))) (.con (.int 2147483647)))) a_l_draw_17
def a_l_draw_10 : Sms := .cons (.ife (.cmp .eq (.idx (.var 0) (.con (.int 3))) (.con (.int 1))) a_l_draw_11 .nil) a_l_draw_16
def a_l_draw_9 : Sms := .cons (.seti (.var 0) (.con (.int 4)) (.bin .add (.idx (.var 0) (.con (.int 4))) (.con (.int 1)))) a_l_draw_10
def a_l_draw_0 : Sms := .cons (.ife (.cmp .eq (.idx (.var 0) (.con (.int 3))) (.con (.int 0))) a_l_draw_1 .nil) a_l_draw_9
abbrev n_l_draw : List Str := ["_law_state_here", "_law_many", "_law_digit", "_law_first", "_law_second", "_law_third"]
abbrev p_l_draw : List Str := ["_law_state_here", "_law_many"]
def m_l_draw : Nat → Md := fun _ => .val
def a_l_pick_0 : Sms := .cons (.ret (.idx (.var 1) (.call "_law_draw" (.cons (.var 0) (.cons (.un .len (.var 1)) .nil))))) .nil
abbrev n_l_pick : List Str := ["_law_state_here", "_law_row"]
abbrev p_l_pick : List Str := ["_law_state_here", "_law_row"]
def m_l_pick : Nat → Md := fun _ => .val
def a_l_is_int_0 : Sms := .cons (.ret (.and (.un (.isi "int") (.var 0)) (.not (.un (.isi "bool") (.var 0))))) .nil
abbrev n_l_is_int : List Str := ["_law_thing"]
abbrev p_l_is_int : List Str := ["_law_thing"]
def m_l_is_int : Nat → Md := fun _ => .val
def a_l_same_1 : Sms := .cons (.ret (.cmp .is (.var 0) (.con .non))) .nil
def a_l_same_3 : Sms := .cons (.ret (.cmp .is (.var 0) (.con (.bl true)))) .nil
def a_l_same_5 : Sms := .cons (.ret (.cmp .is (.var 0) (.con (.bl false)))) .nil
def a_l_same_7 : Sms := .cons (.ret (.and (.call "_law_is_int" (.cons (.var 0) .nil)) (.cmp .eq (.var 0) (.var 1)))) .nil
def a_l_same_9 : Sms := .cons (.ret (.and (.un (.isi "str") (.var 0)) (.cmp .eq (.var 0) (.var 1)))) .nil
def a_l_same_12 : Sms := .cons (.ret (.con (.bl false))) .nil
def a_l_same_15 : Sms := .cons (.ret (.con (.bl false))) .nil
def a_l_same_14 : Sms := .cons (.ife (.or (.cmp .notin (.var 2) (.var 0)) (.not (.call "_law_same" (.cons (.idx (.var 0) (.var 2)) (.cons (.idx (.var 1) (.var 2)) .nil))))) a_l_same_15 .nil) .nil
def a_l_same_16 : Sms := .cons (.ret (.con (.bl true))) .nil
def a_l_same_13 : Sms := .cons (.for (.one 2) (.seq (.var 1)) a_l_same_14) a_l_same_16
def a_l_same_11 : Sms := .cons (.ife (.or (.not (.un (.isi "dict") (.var 0))) (.cmp .ne (.un .len (.var 0)) (.un .len (.var 1)))) a_l_same_12 .nil) a_l_same_13
def a_l_same_18 : Sms := .cons (.ret (.con (.bl false))) .nil
def a_l_same_20 : Sms := .cons (.ret (.con (.bl false))) .nil
def a_l_same_22 : Sms := .cons (.ret (.con (.bl false))) .nil
def a_l_same_25 : Sms := .cons (.ret (.con (.bl false))) .nil
def a_l_same_24 : Sms := .cons (.ife (.not (.call "_law_same" (.cons (.idx (.var 0) (.var 3)) (.cons (.idx (.var 1) (.var 3)) .nil)))) a_l_same_25 .nil) .nil
def a_l_same_26 : Sms := .cons (.ret (.con (.bl true))) .nil
def a_l_same_23 : Sms := .cons (.for (.one 3) (.rng1 (.un .len (.var 1))) a_l_same_24) a_l_same_26
def a_l_same_21 : Sms := .cons (.ife (.cmp .ne (.un .len (.var 0)) (.un .len (.var 1))) a_l_same_22 .nil) a_l_same_23
def a_l_same_19 : Sms := .cons (.ife (.and (.un (.isi "tuple") (.var 1)) (.not (.un (.isi "tuple") (.var 0)))) a_l_same_20 .nil) a_l_same_21
def a_l_same_17 : Sms := .cons (.ife (.and (.un (.isi "list") (.var 1)) (.not (.un (.isi "list") (.var 0)))) a_l_same_18 .nil) a_l_same_19
def a_l_same_10 : Sms := .cons (.ife (.un (.isi "dict") (.var 1)) a_l_same_11 .nil) a_l_same_17
def a_l_same_8 : Sms := .cons (.ife (.un (.isi "str") (.var 1)) a_l_same_9 .nil) a_l_same_10
def a_l_same_6 : Sms := .cons (.ife (.un (.isi "int") (.var 1)) a_l_same_7 .nil) a_l_same_8
def a_l_same_4 : Sms := .cons (.ife (.cmp .is (.var 1) (.con (.bl false))) a_l_same_5 .nil) a_l_same_6
def a_l_same_2 : Sms := .cons (.ife (.cmp .is (.var 1) (.con (.bl true))) a_l_same_3 .nil) a_l_same_4
def a_l_same_0 : Sms := .cons (.ife (.cmp .is (.var 1) (.con .non)) a_l_same_1 .nil) a_l_same_2
abbrev n_l_same : List Str := ["_law_actual", "_law_due_here", "_law_key", "_law_k"]
abbrev p_l_same : List Str := ["_law_actual", "_law_due_here"]
def m_l_same : Nat → Md := fun _ => .val
def a_l_reserved_1 : Sms := .cons (.ret (.bin .add (.var 0) (.lst (.cons (.con (.str "look")) (.cons (.con (.str "free")) (.cons (.con (.str "lock")) (.cons (.con (.str "keep")) (.cons (.con (.str "keys")) (.cons (.con (.str "fields")) .nil))))))))) .nil
def a_l_reserved_0 : Sms := .cons (.set .val 0 (.lst (.cons (.con (.str "always")) (.cons (.con (.str "never")) (.cons (.con (.str "and")) (.cons (.con (.str "or")) (.cons (.con (.str "not")) (.cons (.con (.str "when")) (.cons (.con (.str "add")) (.cons (.con (.str "set")) (.cons (.con (.str "change")) (.cons (.con (.str "tell")) (.cons (.con (.str "refuse")) (.cons (.con (.str "take")) .nil)))))))))))))) a_l_reserved_1
abbrev n_l_reserved : List Str := ["_law_words"]
abbrev p_l_reserved : List Str := []
def m_l_reserved : Nat → Md := fun _ => .val
def a_l_word_5 : Sms := .cons (.set .val 4 (.call "_law_draw" (.cons (.var 0) (.cons (.con (.int 308915776)) .nil)))) .nil
def a_l_word_7 : Sms := .cons (.set .val 4 (.bin .fdiv (.un .int (.var 4)) (.con (.int 26)))) .nil
def a_l_word_6 : Sms := .cons (.set .val 3 (.bin .add (.var 3) (.idx (.var 2) (.bin .mod (.un .int (.var 4)) (.con (.int 26)))))) a_l_word_7
def a_l_word_4 : Sms := .cons (.ife (.cmp .eq (.bin .mod (.var 5) (.con (.int 6))) (.con (.int 0))) a_l_word_5 .nil) a_l_word_6
def a_l_word_8 : Sms := .cons (.ret (.var 3)) .nil
def a_l_word_3 : Sms := .cons (.for (.one 5) (.rng1 (.var 1)) a_l_word_4) a_l_word_8
def a_l_word_2 : Sms := .cons (.set .val 4 (.con (.int 0))) a_l_word_3
def a_l_word_1 : Sms := .cons (.set .val 3 (.con (.str ""))) a_l_word_2
def a_l_word_0 : Sms := .cons (.set .val 2 (.con (.str "abcdefghijklmnopqrstuvwxyz"))) a_l_word_1
abbrev n_l_word : List Str := ["_law_state_here", "_law_size", "_law_letters", "_law_word_here", "_law_code", "_law_k"]
abbrev p_l_word : List Str := ["_law_state_here", "_law_size"]
def m_l_word : Nat → Md := fun _ => .val
def a_l_spoiled_4 : Sms := .cons (.set .val 3 (.bin .add (.bin .add (.slc false true (.var 3) (.con .non) (.var 5)) (.call "_law_pick" (.cons (.var 0) (.cons (.var 2) .nil)))) (.slc true false (.var 3) (.bin .add (.var 5) (.con (.int 1))) (.con .non)))) .nil
def a_l_spoiled_3 : Sms := .cons (.set .val 5 (.call "_law_draw" (.cons (.var 0) (.cons (.bin .add (.un .len (.var 3)) (.con (.int 1))) .nil)))) a_l_spoiled_4
def a_l_spoiled_5 : Sms := .cons (.ret (.var 3)) .nil
def a_l_spoiled_2 : Sms := .cons (.for (.one 4) (.rng1 (.bin .add (.con (.int 1)) (.call "_law_draw" (.cons (.var 0) (.cons (.con (.int 2)) .nil))))) a_l_spoiled_3) a_l_spoiled_5
def a_l_spoiled_1 : Sms := .cons (.set .val 3 (.var 1)) a_l_spoiled_2
def a_l_spoiled_0 : Sms := .cons (.set .val 2 (.con (.str " !\"#$&'()*+,-./0123456789:;<=>?@ABCDEFGHIJKLMNOPQRSTUVWXYZ[\\]^_`{|}~"))) a_l_spoiled_1
abbrev n_l_spoiled : List Str := ["_law_state_here", "_law_word_here", "_law_others", "_law_result", "_law_k", "_law_spot"]
abbrev p_l_spoiled : List Str := ["_law_state_here", "_law_word_here"]
def m_l_spoiled : Nat → Md := fun _ => .val
def a_l_due_2 : Sms := .cons (.ret (.con (.bl false))) .nil
def a_l_due_5 : Sms := .cons (.ret (.con (.bl false))) .nil
def a_l_due_4 : Sms := .cons (.ife (.cmp .notin (.var 2) (.var 1)) a_l_due_5 .nil) .nil
def a_l_due_6 : Sms := .cons (.ret (.con (.bl true))) .nil
def a_l_due_3 : Sms := .cons (.for (.one 2) (.seq (.var 0)) a_l_due_4) a_l_due_6
def a_l_due_1 : Sms := .cons (.ife (.or (.cmp .isin (.var 0) (.call "_law_reserved" .nil)) (.or (.cmp .lt (.un .len (.var 0)) (.con (.int 1))) (.cmp .gt (.un .len (.var 0)) (.con (.int 12))))) a_l_due_2 .nil) a_l_due_3
def a_l_due_0 : Sms := .cons (.set .val 1 (.con (.str "abcdefghijklmnopqrstuvwxyz"))) a_l_due_1
abbrev n_l_due : List Str := ["_law_word_here", "_law_letters", "_law_char"]
abbrev p_l_due : List Str := ["_law_word_here"]
def m_l_due : Nat → Md := fun _ => .val
def a_law_5 : Sms := .cons (.set .val 3 (.bin .add (.var 3) (.lst (.cons (.var 5) (.cons (.call "_law_spoiled" (.cons (.var 1) (.cons (.var 5) .nil))) .nil))))) .nil
def a_law_4 : Sms := .cons (.set .val 5 (.call "_law_word" (.cons (.var 1) (.cons (.var 4) .nil)))) a_law_5
def a_law_7 : Sms := .cons (.set .val 3 (.bin .add (.var 3) (.lst (.cons (.var 5) (.cons (.slc false true (.var 5) (.con .non) (.un .neg (.con (.int 1)))) (.cons (.bin .add (.var 5) (.call "_law_pick" (.cons (.var 1) (.cons (.var 2) .nil)))) (.cons (.bin .add (.call "_law_pick" (.cons (.var 1) (.cons (.var 2) .nil))) (.var 5)) .nil))))))) .nil
def a_law_10 : Sms := .cons (.ret (.con (.bl false))) .nil
def a_law_9 : Sms := .cons (.ife (.not (.call "_law_same" (.cons (.call "is_name" (.cons (.var 5) .nil)) (.cons (.call "_law_due" (.cons (.var 5) .nil)) .nil)))) a_law_10 .nil) .nil
def a_law_11 : Sms := .cons (.ret (.con (.bl true))) .nil
def a_law_8 : Sms := .cons (.for (.one 5) (.seq (.var 3)) a_law_9) a_law_11
def a_law_6 : Sms := .cons (.for (.one 5) (.seq (.call "_law_reserved" .nil)) a_law_7) a_law_8
def a_law_3 : Sms := .cons (.for (.one 4) (.rng1 (.con (.int 15))) a_law_4) a_law_6
def a_law_2 : Sms := .cons (.set .val 3 (.lst .nil)) a_law_3
def a_law_1 : Sms := .cons (.set .val 2 (.con (.str "abcdefghijklmnopqrstuvwxyz"))) a_law_2
def a_law_0 : Sms := .cons (.set .cell 1 (.call "_law_state" (.cons (.var 0) .nil))) a_law_1
abbrev n_law : List Str := ["_law_script", "_law_state_here", "_law_letters", "_law_words", "_law_size", "_law_word_here"]
abbrev p_law : List Str := ["_law_script"]
def m_law : Nat → Md := fun i => if i = 1 then .cell else .val
end Ev
set_option Elab.async false
set_option linter.all false
set_option maxRecDepth 100000
set_option maxHeartbeats 4000000
namespace Ev
open PySem L2
local macro_rules | `(tactic| walk_at "ev") => `(tactic| try simp only [evSs_cons, evSs_nil, evS, ev, evEs, iterE, pP_ok', pP_bad, pE_ok', pB_ok', pB_bad, pE_bad, pP_exn, pE_exn, pB_exn, fix_int, fix_bl, fix_str, fix_non, fix_tup, fix_lst, fix_ro, fix_dct, fix_ins, fix_cell, res_int, res_bl, res_str, res_non, res_tup, res_lst, res_ro, res_dct, res_ins, bool1_bl, withCs_none, withCs_some, put_mk, storeD_val, storeD_own, storeD_cell, retD_fr, retD_int, retD_bl, retD_str, retD_non, retD_tup, retD_lst, retD_ro, or_ok, and_ok, RE.bind_ok, RE.bind_exn, RE.bind_bad, RE.to_ok, RE.to_exn, RE.to_bad, Ctl.then_nx, Ctl.then_ret, Ctl.then_brk, Ctl.then_ct, Ctl.then_exn, Ctl.then_bad, ofC_some, ofC_none, ofO_some, ofO_none, setT_one, List.getElem?_cons_zero, List.getElem?_cons_succ, List.set_cons_zero, List.set_cons_succ, env0, List.map_cons, List.map_nil, List.length_cons, List.length_nil, List.cons_append, List.nil_append, List.replicate, Nat.reduceSub, Nat.reduceAdd, if_true, if_false, Bool.false_eq_true, Option.map_some, Option.bind_some, List.cons.injEq, reduceCtorEq, Bool.not_true, Bool.not_false, inF_sign, b_add_int, b_sub_int, c_lt, c_le, c_gt, c_ge, c_eq, c_ne, c_in, c_notin, c_is, c_isnot, e_int, e_bl, e_str, e_non, e_non_int, e_int_non, e_non_bl, e_bl_non, e_non_str, e_str_non, is_non, is_bl, is_int_non, is_int_bl, is_str_non, is_str_bl, is_tup_non, is_tup_bl, is_lst_non, is_lst_bl, is_ro_non, is_ro_bl, is_dct_non, is_dct_bl, is_ins_non, is_ins_bl, is_cell_non, is_cell_bl, is_bl_non, is_non_bl, u_neg, u_len, u_int, u_int_bl, u_list_lst, u_tuple_lst, l_lst, it_lst, u_list_tup, u_tuple_tup, l_tup, it_tup, u_list_ro, u_tuple_ro, l_ro, it_ro, l_dct, it_str, isi_non_int, isi_non_bool, isi_non_str, isi_non_list, isi_non_tuple, isi_non_dict, isi_bl_int, isi_bl_bool, isi_bl_str, isi_bl_list, isi_bl_tuple, isi_bl_dict, isi_int_int, isi_int_bool, isi_int_str, isi_int_list, isi_int_tuple, isi_int_dict, isi_str_int, isi_str_bool, isi_str_str, isi_str_list, isi_str_tuple, isi_str_dict, isi_tup_int, isi_tup_bool, isi_tup_str, isi_tup_list, isi_tup_tuple, isi_tup_dict, isi_lst_int, isi_lst_bool, isi_lst_str, isi_lst_list, isi_lst_tuple, isi_lst_dict, isi_dct_int, isi_dct_bool, isi_dct_str, isi_dct_list, isi_dct_tuple, isi_dct_dict, bnd_f, bnd_t, slc_lst, slc_ro])
def letters : List Nat := (("abcdefghijklmnopqrstuvwxyz" : Str)).cps.toList
def resD : List D := [.str "always", .str "never", .str "and", .str "or", .str "not", .str "when", .str "add", .str "set", .str "change", .str "tell", .str "refuse", .str "take", .str "look", .str "free", .str "lock", .str "keep", .str "keys", .str "fields"]
theorem resD_flat : resD.all isF = true := by decide +kernel
def allLet (x : Str) : Bool := x.cps.toList.all fun c => decide (c ∈ letters)
def isNm (x : Str) : Bool := !(decide (x = "") || (decide ((12 : Int) < x.length) || resD.any fun y => eqFb y (.str x))) && allLet x
section
variable (g : G) (x : Str) (cs : List (Option D))
theorem is_name_loop (h3 : g.con "LETTERS" = some (.str "abcdefghijklmnopqrstuvwxyz")) : ∀ (l : List Nat) (e : Sl), ∃ e', forL (.one 1) (fun s => evSs g a_is_name_3 s) (l.map fun c => .str ⟨#[c]⟩) ⟨[.val (.str x), e], cs⟩ =
    if (l.all fun c => decide (c ∈ letters)) = true then .nx ⟨[.val (.str x), e'], cs⟩ else .ret false (.bl false) ⟨[.val (.str x), e'], cs⟩
  | [], e => ⟨e, rfl⟩
  | c :: l, e => by
    have hb : evSs g a_is_name_3 ((⟨[.val (.str x), e], cs⟩ : S).put 1 (.val (.str ⟨#[c]⟩))) = if decide (c ∈ letters) = true then .nx ⟨[.val (.str x), .val (.str ⟨#[c]⟩)], cs⟩ else .ret false (.bl false) ⟨[.val (.str x), .val (.str ⟨#[c]⟩)], cs⟩ := by
      unfold a_is_name_3
      walk_at "ev"
      simp only [h3]
      walk_at "ev"
      show (if (!decide (c ∈ letters)) = true then _ else _ : Ctl).then _ = _
      cases decide (c ∈ letters)
      · unfold a_is_name_4; walk_at "ev"
      · walk_at "ev"
    by_cases hc : c ∈ letters
    · obtain ⟨e', ih⟩ := is_name_loop h3 l (.val (.str ⟨#[c]⟩))
      rw [if_pos (decide_eq_true hc)] at hb
      refine ⟨e', ?_⟩
      rw [List.map_cons, forL_nx hb, ih]
      simp [hc]
    · rw [if_neg (by simp [hc])] at hb
      refine ⟨.val (.str ⟨#[c]⟩), ?_⟩
      rw [List.map_cons, forL_ret hb]
      simp [hc]
/-- is_name, of a string that is not too long -/
def IsNm (f : Fn) : Prop := f.ar = 1 ∧ ∀ x cs, okSz x.length = true → f.run [.str x] cs = .ret false (.bl (isNm x)) (some cs)
theorem is_name_ok (h1 : g.con "NAME_LENGTH" = some (.int 12)) (h2 : g.con "RESERVED" = some (.tup resD)) (h3 : g.con "LETTERS" = some (.str "abcdefghijklmnopqrstuvwxyz")) : IsNm (fnB g a_is_name_0 2 1) := by
  refine ⟨rfl, fun x cs hz => ?_⟩
  have key : ∃ s, evSs g a_is_name_0 ⟨env0 2 [.str x], cs⟩ = .ret false (.bl (isNm x)) s ∧ s.cs = cs := by
    unfold a_is_name_0
    walk_at "ev"
    simp only [h1, h2]
    walk_at "ev"
    simp only [lenD, hz, if_true]
    walk_at "ev"
    rw [inF_tup rfl resD_flat]
    walk_at "ev"
    unfold isNm
    cases (decide (x = "") || (decide ((12 : Int) < x.length) || resD.any fun y => eqFb y (.str x)))
    · unfold a_is_name_2
      walk_at "ev"
      obtain ⟨e', h⟩ := is_name_loop g x cs h3 x.cps.toList .no
      rw [h]
      show ∃ s, (if allLet x = true then _ else _ : Ctl).then _ = _ ∧ _
      cases allLet x
      · walk_at "ev"
        exact ⟨_, rfl, rfl⟩
      · unfold a_is_name_5
        walk_at "ev"
        exact ⟨_, rfl, rfl⟩
    · unfold a_is_name_1
      walk_at "ev"
      exact ⟨_, rfl, rfl⟩
  obtain ⟨s, h, e⟩ := key
  rw [fnB_ret h, e]
end
end Ev
set_option Elab.async false
set_option linter.all false
set_option maxRecDepth 100000
set_option maxHeartbeats 4000000
namespace Ev
open PySem L2
local macro_rules | `(tactic| walk_at "ev") => `(tactic| try simp only [evSs_cons, evSs_nil, evS, ev, evEs, iterE, pP_ok', pP_bad, pE_ok', pB_ok', pB_bad, pE_bad, pP_exn, pE_exn, pB_exn, fix_int, fix_bl, fix_str, fix_non, fix_tup, fix_lst, fix_ro, fix_dct, fix_ins, fix_cell, res_int, res_bl, res_str, res_non, res_tup, res_lst, res_ro, res_dct, res_ins, bool1_bl, withCs_none, withCs_some, put_mk, storeD_val, storeD_own, storeD_cell, retD_fr, retD_int, retD_bl, retD_str, retD_non, retD_tup, retD_lst, retD_ro, or_ok, and_ok, RE.bind_ok, RE.bind_exn, RE.bind_bad, RE.to_ok, RE.to_exn, RE.to_bad, Ctl.then_nx, Ctl.then_ret, Ctl.then_brk, Ctl.then_ct, Ctl.then_exn, Ctl.then_bad, ofC_some, ofC_none, ofO_some, ofO_none, setT_one, List.getElem?_cons_zero, List.getElem?_cons_succ, List.set_cons_zero, List.set_cons_succ, env0, List.map_cons, List.map_nil, List.length_cons, List.length_nil, List.cons_append, List.nil_append, List.replicate, Nat.reduceSub, Nat.reduceAdd, if_true, if_false, Bool.false_eq_true, Option.map_some, Option.bind_some, List.cons.injEq, reduceCtorEq, Bool.not_true, Bool.not_false, inF_sign, b_add_int, b_sub_int, c_lt, c_le, c_gt, c_ge, c_eq, c_ne, c_in, c_notin, c_is, c_isnot, e_int, e_bl, e_str, e_non, e_non_int, e_int_non, e_non_bl, e_bl_non, e_non_str, e_str_non, is_non, is_bl, is_int_non, is_int_bl, is_str_non, is_str_bl, is_tup_non, is_tup_bl, is_lst_non, is_lst_bl, is_ro_non, is_ro_bl, is_dct_non, is_dct_bl, is_ins_non, is_ins_bl, is_cell_non, is_cell_bl, is_bl_non, is_non_bl, u_neg, u_len, u_int, u_int_bl, u_list_lst, u_tuple_lst, l_lst, it_lst, u_list_tup, u_tuple_tup, l_tup, it_tup, u_list_ro, u_tuple_ro, l_ro, it_ro, l_dct, it_str, isi_non_int, isi_non_bool, isi_non_str, isi_non_list, isi_non_tuple, isi_non_dict, isi_bl_int, isi_bl_bool, isi_bl_str, isi_bl_list, isi_bl_tuple, isi_bl_dict, isi_int_int, isi_int_bool, isi_int_str, isi_int_list, isi_int_tuple, isi_int_dict, isi_str_int, isi_str_bool, isi_str_str, isi_str_list, isi_str_tuple, isi_str_dict, isi_tup_int, isi_tup_bool, isi_tup_str, isi_tup_list, isi_tup_tuple, isi_tup_dict, isi_lst_int, isi_lst_bool, isi_lst_str, isi_lst_list, isi_lst_tuple, isi_lst_dict, isi_dct_int, isi_dct_bool, isi_dct_str, isi_dct_list, isi_dct_tuple, isi_dct_dict, bnd_f, bnd_t, slc_lst, slc_ro])
/-! ### the drawing state: the script, the place, the value, the mode, the count -/
def stD (sc : List Int) (a v m c : Int) : D := .lst [.lst (sc.map .int), .int a, .int v, .int m, .int c]
/-- a cell holds a drawing state -/
def OkD (cs : List (Option D)) (l : Nat) : Prop := ∃ sc a v m c, cs[l]? = some (some (stD sc a v m c)) ∧ 0 ≤ a ∧ sc.length ≤ 1000
/-- from cs to cs' only this cell has changed, and it holds a drawing state -/
structure Dr (l : Nat) (cs cs' : List (Option D)) : Prop where
  ok : OkD cs' l
  len : cs'.length = cs.length
  same : ∀ k, k ≠ l → cs'[k]? = cs[k]?
theorem Dr.trans {l : Nat} {a b c : List (Option D)} (x : Dr l a b) (y : Dr l b c) : Dr l a c := ⟨y.ok, y.len.trans x.len, fun k h => (y.same k h).trans (x.same k h)⟩
theorem Dr.refl {l : Nat} {a : List (Option D)} (x : OkD a l) : Dr l a a := ⟨x, rfl, fun _ _ => rfl⟩
theorem Dr.of {l : Nat} {cs : List (Option D)} {sc : List Int} {a v m c : Int} (hl : l < cs.length) (h : 0 ≤ a) (hn : sc.length ≤ 1000) : Dr l cs (cs.set l (some (stD sc a v m c))) :=
  ⟨⟨sc, a, v, m, c, by simp [hl], h, hn⟩, by simp, fun k hk => List.getElem?_set_ne (Ne.symm hk)⟩
def small (m : Int) : Prop := 0 < m ∧ m.natAbs.log2 < 9000
/-- _law_draw: some number below m -/
def IsDraw (f : Fn) : Prop := f.ar = 2 ∧ ∀ l m cs, OkD cs l → small m → ∃ r cs', f.run [.cell l, .int m] cs = .ret false (.int r) (some cs') ∧ 0 ≤ r ∧ r < m ∧ Dr l cs cs'
theorem ix0 {a b c d e : D} : idxD (.lst [a, b, c, d, e]) (.int 0) = some a := rfl
theorem ix1 {a b c d e : D} : idxD (.lst [a, b, c, d, e]) (.int 1) = some b := rfl
theorem ix2 {a b c d e : D} : idxD (.lst [a, b, c, d, e]) (.int 2) = some c := rfl
theorem ix3 {a b c d e : D} : idxD (.lst [a, b, c, d, e]) (.int 3) = some d := rfl
theorem ix4 {a b c d e : D} : idxD (.lst [a, b, c, d, e]) (.int 4) = some e := rfl
theorem st1 {a b c d e y : D} : setD (.int 1) y (.lst [a, b, c, d, e]) = some (.lst [a, y, c, d, e]) := rfl
theorem st2 {a b c d e y : D} : setD (.int 2) y (.lst [a, b, c, d, e]) = some (.lst [a, b, y, d, e]) := rfl
theorem st3 {a b c d e y : D} : setD (.int 3) y (.lst [a, b, c, d, e]) = some (.lst [a, b, c, y, e]) := rfl
theorem st4 {a b c d e y : D} : setD (.int 4) y (.lst [a, b, c, d, e]) = some (.lst [a, b, c, d, y]) := rfl
theorem mulR {i j : Int} (h : -(2 ^ 64) < j ∧ j < 2 ^ 64) : binD .mul (.int i) (.int j) = some (false, .int (i * j)) := if_pos (.inr h)
theorem modR {i j : Int} (h : 0 < j) : binD .mod (.int i) (.int j) = some (false, .int (i % j)) := if_pos h
theorem fdivR {i j : Int} (h : small j) : binD .fdiv (.int i) (.int j) = some (false, .int (i / j)) := if_pos h
theorem powC : binD .pow (.int 10) (.int 18) = some (false, .int (10 ^ (18 : Int).toNat)) := by
  show (if (0 : Int) ≤ 18 ∧ (18 : Int) ≤ 1000000 ∧ (10 : Int).natAbs < 2 ^ 64 then some (false, D.int ((10 : Int) ^ (18 : Int).toNat)) else none) = _
  rw [if_pos (by decide)]
theorem cmpI_ge {i j : Int} : cmpD .ge (.int i) (.int j) = some (decide (j ≤ i)) := rfl
section
variable (g : G) {l : Nat} {cs : List (Option D)} {sc : List Int}
theorem draw_tail (hl : l < cs.length) {a v md ct m : Int} (ha : 0 ≤ a) (hn : sc.length ≤ 1000) (hm : small m) : ∃ r s cs', evSs g a_l_draw_9 ⟨[.val (.cell l), .val (.int m), .no, .no, .no, .no], cs.set l (some (.lst [.lst (sc.map .int), .int a, .int v, .int md, .int ct]))⟩ = .ret false (.int r) s ∧ s.cs = cs' ∧ 0 ≤ r ∧ r < m ∧ Dr l cs cs' := by
  have r0 : ∀ i : Int, 0 ≤ i % m ∧ i % m < m := fun i => ⟨Int.emod_nonneg _ (by have := hm.1; omega), Int.emod_lt_of_pos _ hm.1⟩
  unfold a_l_draw_9
  walk_at "ev"; repeat (simp only [res_sd hl, mutD_sd hl, ix4, st4]; walk_at "ev")
  unfold a_l_draw_10
  walk_at "ev"; repeat (simp only [res_sd hl, ix3]; walk_at "ev")
  by_cases h1 : md = 1
  · simp only [h1, decide_true, if_true]
    unfold a_l_draw_11
    walk_at "ev"; repeat (simp only [res_sd hl, ix2, modR hm.1]; walk_at "ev")
    unfold a_l_draw_12
    walk_at "ev"; repeat (simp only [res_sd hl, mutD_sd hl, ix2, st2, fdivR hm]; walk_at "ev")
    unfold a_l_draw_13
    walk_at "ev"; repeat (simp only [res_sd hl, mutD_sd hl, ix2, ix4]; walk_at "ev")
    unfold a_l_draw_15 a_l_draw_14
    walk_at "ev"; repeat (simp only [mutD_sd hl, st3]; walk_at "ev")
    split
    · walk_at "ev"
      exact ⟨_, _, _, rfl, rfl, (r0 v).1, (r0 v).2, Dr.of hl ha hn⟩
    · walk_at "ev"
      exact ⟨_, _, _, rfl, rfl, (r0 v).1, (r0 v).2, Dr.of hl ha hn⟩
  · simp only [h1, decide_false]
    walk_at "ev"
    unfold a_l_draw_16
    walk_at "ev"; repeat (simp only [res_sd hl, ix2, ix4, mulR (i := v) (j := 48271) (by decide), mulR (i := ct + 1) (j := 69621) (by decide), modR (j := 2147483647) (by decide)]; walk_at "ev")
    generalize hf : (v * 48271 + (ct + 1) * 69621) % 2147483647 = first
    have hf0 : 0 ≤ first ∧ first < 2147483647 := by rw [← hf]; exact ⟨Int.emod_nonneg _ (by decide), Int.emod_lt_of_pos _ (by decide)⟩
    unfold a_l_draw_17
    walk_at "ev"; repeat (simp only [res_sd hl, ix2, ix4, mulR (i := first) (j := first) (by omega), mulR (i := ct + 1) (j := 40692) (by decide), modR (j := 2147483399) (by decide)]; walk_at "ev")
    generalize hs : (first * first + (ct + 1) * 40692 + 3) % 2147483399 = second
    unfold a_l_draw_18
    walk_at "ev"; repeat (simp only [res_sd hl, ix4]; walk_at "ev")
    unfold a_l_draw_19
    walk_at "ev"; repeat (simp only [mutD_sd hl, st3]; walk_at "ev")
    unfold a_l_draw_20
    split
    · walk_at "ev"; repeat (simp only [mulR (i := second) (j := 16807) (by decide), modR (j := 2147483029) (by decide)]; walk_at "ev")
      unfold a_l_draw_21
      walk_at "ev"; repeat (simp only [modR hm.1]; walk_at "ev")
      exact ⟨_, _, _, rfl, rfl, (r0 _).1, (r0 _).2, Dr.of hl ha hn⟩
    · walk_at "ev"; repeat (simp only [mulR (i := second) (j := 16807) (by decide), modR (j := 2147483029) (by decide)]; walk_at "ev")
      unfold a_l_draw_21
      walk_at "ev"; repeat (simp only [modR hm.1]; walk_at "ev")
      exact ⟨_, _, _, rfl, rfl, (r0 _).1, (r0 _).2, Dr.of hl ha hn⟩
theorem draw_ok : IsDraw (fnB g a_l_draw_0 6 2) := by
  refine ⟨rfl, fun l m cs ⟨sc, a, v, md, ct, hc, ha, hn⟩ hm => ?_⟩
  have hl : l < cs.length := lt_of_get hc
  have key : ∃ r s cs', evSs g a_l_draw_0 ⟨env0 6 [.cell l, .int m], cs⟩ = .ret false (.int r) s ∧ s.cs = cs' ∧ 0 ≤ r ∧ r < m ∧ Dr l cs cs' := by
    have e0 : evSs g a_l_draw_0 ⟨env0 6 [.cell l, .int m], cs⟩ = evSs g a_l_draw_0 ⟨env0 6 [.cell l, .int m], cs.set l (some (stD sc a v md ct))⟩ := by rw [← sd_of hc]
    rw [e0]
    unfold stD a_l_draw_0
    walk_at "ev"; repeat (simp only [res_sd hl, ix3]; walk_at "ev")
    by_cases h1 : md = 0
    · simp only [h1, decide_true, if_true]
      unfold a_l_draw_1
      walk_at "ev"; repeat (simp only [res_sd hl, ix0, ix1]; walk_at "ev")
      simp only [List.length_map]
      by_cases h2 : (sc.length : Int) ≤ a
      · simp only [h2, decide_true, if_true]
        unfold a_l_draw_2
        walk_at "ev"
        exact ⟨0, _, _, rfl, rfl, Int.le_refl _, hm.1, Dr.of hl ha hn⟩
      · simp only [h2, decide_false]
        walk_at "ev"
        unfold a_l_draw_3
        walk_at "ev"; repeat (simp only [res_sd hl, ix0, ix1]; walk_at "ev")
        obtain ⟨x, hx, hx2⟩ := atI_nat (l := sc.map D.int) (i := a) ha (by rw [List.length_map]; omega)
        obtain ⟨y, _, rfl⟩ := List.mem_map.mp hx2
        rw [idx_lst, hx]
        walk_at "ev"; repeat (simp only [res_sd hl, mutD_sd hl, st2]; walk_at "ev")
        unfold a_l_draw_4
        walk_at "ev"; repeat (simp only [res_sd hl, mutD_sd hl, ix1, st1]; walk_at "ev")
        unfold a_l_draw_5
        walk_at "ev"; repeat (simp only [res_sd hl, mutD_sd hl, st3]; walk_at "ev")
        unfold a_l_draw_6
        walk_at "ev"; repeat (simp only [res_sd hl, mutD_sd hl, st4]; walk_at "ev")
        unfold a_l_draw_7
        walk_at "ev"; repeat (simp only [res_sd hl, ix2, powC]; walk_at "ev")
        unfold a_l_draw_8
        walk_at "ev"; repeat (simp only [res_sd hl, mutD_sd hl, st3]; walk_at "ev")
        generalize decide (y < 10 ^ (18 : Int).toNat) = q
        cases q
        · walk_at "ev"
          exact draw_tail g hl (by omega) hn hm
        · walk_at "ev"
          exact draw_tail g hl (by omega) hn hm
    · simp only [h1, decide_false]
      walk_at "ev"
      exact draw_tail g hl ha hn hm
  obtain ⟨r, s, cs', h, e, h1, h2, h3⟩ := key
  exact ⟨r, cs', by rw [fnB_ret h, e], h1, h2, h3⟩
end
end Ev
set_option Elab.async false
set_option linter.all false
set_option maxRecDepth 100000
set_option maxHeartbeats 4000000
namespace Ev
open PySem L2
local macro_rules | `(tactic| walk_at "ev") => `(tactic| try simp only [evSs_cons, evSs_nil, evS, ev, evEs, iterE, pP_ok', pP_bad, pE_ok', pB_ok', pB_bad, pE_bad, pP_exn, pE_exn, pB_exn, fix_int, fix_bl, fix_str, fix_non, fix_tup, fix_lst, fix_ro, fix_dct, fix_ins, fix_cell, res_int, res_bl, res_str, res_non, res_tup, res_lst, res_ro, res_dct, res_ins, bool1_bl, withCs_none, withCs_some, put_mk, storeD_val, storeD_own, storeD_cell, retD_fr, retD_int, retD_bl, retD_str, retD_non, retD_tup, retD_lst, retD_ro, or_ok, and_ok, RE.bind_ok, RE.bind_exn, RE.bind_bad, RE.to_ok, RE.to_exn, RE.to_bad, Ctl.then_nx, Ctl.then_ret, Ctl.then_brk, Ctl.then_ct, Ctl.then_exn, Ctl.then_bad, ofC_some, ofC_none, ofO_some, ofO_none, setT_one, List.getElem?_cons_zero, List.getElem?_cons_succ, List.set_cons_zero, List.set_cons_succ, env0, List.map_cons, List.map_nil, List.length_cons, List.length_nil, List.cons_append, List.nil_append, List.replicate, Nat.reduceSub, Nat.reduceAdd, if_true, if_false, Bool.false_eq_true, Option.map_some, Option.bind_some, List.cons.injEq, reduceCtorEq, Bool.not_true, Bool.not_false, inF_sign, b_add_int, b_sub_int, c_lt, c_le, c_gt, c_ge, c_eq, c_ne, c_in, c_notin, c_is, c_isnot, e_int, e_bl, e_str, e_non, e_non_int, e_int_non, e_non_bl, e_bl_non, e_non_str, e_str_non, is_non, is_bl, is_int_non, is_int_bl, is_str_non, is_str_bl, is_tup_non, is_tup_bl, is_lst_non, is_lst_bl, is_ro_non, is_ro_bl, is_dct_non, is_dct_bl, is_ins_non, is_ins_bl, is_cell_non, is_cell_bl, is_bl_non, is_non_bl, u_neg, u_len, u_int, u_int_bl, u_list_lst, u_tuple_lst, l_lst, it_lst, u_list_tup, u_tuple_tup, l_tup, it_tup, u_list_ro, u_tuple_ro, l_ro, it_ro, l_dct, it_str, isi_non_int, isi_non_bool, isi_non_str, isi_non_list, isi_non_tuple, isi_non_dict, isi_bl_int, isi_bl_bool, isi_bl_str, isi_bl_list, isi_bl_tuple, isi_bl_dict, isi_int_int, isi_int_bool, isi_int_str, isi_int_list, isi_int_tuple, isi_int_dict, isi_str_int, isi_str_bool, isi_str_str, isi_str_list, isi_str_tuple, isi_str_dict, isi_tup_int, isi_tup_bool, isi_tup_str, isi_tup_list, isi_tup_tuple, isi_tup_dict, isi_lst_int, isi_lst_bool, isi_lst_str, isi_lst_list, isi_lst_tuple, isi_lst_dict, isi_dct_int, isi_dct_bool, isi_dct_str, isi_dct_list, isi_dct_tuple, isi_dct_dict, bnd_f, bnd_t, slc_lst, slc_ro])

/-- _law_pick of a text: one of its signs -/
def IsPickS (f : Fn) : Prop := f.ar = 2 ∧ ∀ l z cs, OkD cs l → 0 < z.length → z.length ≤ 1000 → ∃ c cs', f.run [.cell l, .str z] cs = .ret false (.str ⟨#[c]⟩) (some cs') ∧ Dr l cs cs'
theorem h0 (n : Int) (h : 0 < n) : 0 < n.natAbs := by omega
theorem h1 (n : Int) (h : 0 < n) (h2 : n ≤ 10 ^ 60) : n.natAbs < 2 ^ 200 := by
  have e : (n.natAbs : Int) = n := Int.natAbs_of_nonneg (by omega)
  have : (n.natAbs : Int) ≤ ((10 ^ 60 : Nat) : Int) := by rw [e]; exact h2
  have h3 : n.natAbs ≤ 10 ^ 60 := Int.ofNat_le.mp this
  exact Nat.lt_of_le_of_lt h3 (by decide)
theorem small_of {n : Int} (h : 0 < n) (h2 : n ≤ 10 ^ 60) : small n := by
  refine ⟨h, Nat.lt_of_lt_of_le (PySem.Flt.log2_lt_of (n := n.natAbs) (k := 200) (show 0 < 200 by decide) (h1 n h h2)) (show 200 ≤ 9000 by decide)⟩
section
variable (g : G)
theorem pick_ok {fd : Fn} (hd : g.fn "_law_draw" = some fd) (D : IsDraw fd) : IsPickS (fnB g a_l_pick_0 2 2) := by
  refine ⟨rfl, fun l z cs ok h0 h1 => ?_⟩
  obtain ⟨r, cs', hr, r0, r1, dr⟩ := D.2 l z.length cs ok (small_of (by omega) (by omega))
  have hz : z.length ≤ 16777216 := by omega
  have key : ∃ c s, evSs g a_l_pick_0 ⟨env0 2 [.cell l, .str z], cs⟩ = .ret false (.str ⟨#[c]⟩) s ∧ s.cs = cs' := by
    unfold a_l_pick_0
    walk_at "ev"
    simp only [hd, l_str hz]
    walk_at "ev"
    rw [callD_ret (by rw [D.1]; rfl) hr]
    walk_at "ev"
    rw [idx_str hz]
    obtain ⟨c, hc, _⟩ := atI_nat (l := z.cps.toList) (i := r) r0 (by simpa [Str.length] using r1)
    rw [hc]
    walk_at "ev"
    exact ⟨c, _, rfl, rfl⟩
  obtain ⟨c, s, h, e⟩ := key
  exact ⟨c, cs', by rw [fnB_ret h, e], dr⟩
/-- _law_reserved -/
def IsRes (f : Fn) : Prop := f.ar = 0 ∧ ∀ cs, f.run [] cs = .ret true (.lst resD) (some cs)
theorem res_ok : IsRes (fnB g a_l_reserved_0 1 0) := by
  refine ⟨rfl, fun cs => ?_⟩
  have key : ∃ s, evSs g a_l_reserved_0 ⟨env0 1 [], cs⟩ = .ret true (.lst resD) s ∧ s.cs = cs := by
    unfold a_l_reserved_0
    walk_at "ev"
    simp only [show okSz 12 = true from rfl, if_true]
    walk_at "ev"
    unfold a_l_reserved_1
    walk_at "ev"
    simp only [show okSz 6 = true from rfl, if_true]
    walk_at "ev"
    rw [b_add_lst (by decide)]
    walk_at "ev"
    exact ⟨_, rfl, rfl⟩
  obtain ⟨s, h, e⟩ := key
  rw [fnB_ret h, e]
/-- _law_state: the script, nothing drawn -/
def IsState (f : Fn) : Prop := f.ar = 1 ∧ ∀ ns cs, f.run [.ro ns] cs = .ret true (.lst [.lst ns, .int 0, .int 0, .int 0, .int 0]) (some cs)
theorem state_ok : IsState (fnB g a_l_state_0 1 1) := by
  refine ⟨rfl, fun ns cs => ?_⟩
  have key : ∃ s, evSs g a_l_state_0 ⟨env0 1 [.ro ns], cs⟩ = .ret true (.lst [.lst ns, .int 0, .int 0, .int 0, .int 0]) s ∧ s.cs = cs := by
    unfold a_l_state_0
    walk_at "ev"
    simp only [show okSz 5 = true from rfl, if_true]
    walk_at "ev"
    exact ⟨_, rfl, rfl⟩
  obtain ⟨s, h, e⟩ := key
  rw [fnB_ret h, e]
/-- _law_same of two truths -/
def IsSameB (f : Fn) : Prop := f.ar = 2 ∧ ∀ a b cs, f.run [.bl a, .bl b] cs = .ret false (.bl (decide (a = b))) (some cs)
theorem same_ok : IsSameB (fnB g a_l_same_0 4 2) := by
  refine ⟨rfl, fun a b cs => ?_⟩
  have key : ∃ s, evSs g a_l_same_0 ⟨env0 4 [.bl a, .bl b], cs⟩ = .ret false (.bl (decide (a = b))) s ∧ s.cs = cs := by
    unfold a_l_same_0
    walk_at "ev"
    unfold a_l_same_2
    walk_at "ev"
    cases b
    · try simp only [show decide (false = true) = false from rfl]
      walk_at "ev"
      unfold a_l_same_4
      walk_at "ev"
      try simp only [show decide (false = false) = true from rfl]
      walk_at "ev"
      unfold a_l_same_5
      walk_at "ev"
      exact ⟨_, rfl, rfl⟩
    · try simp only [show decide (true = true) = true from rfl]
      walk_at "ev"
      unfold a_l_same_3
      walk_at "ev"
      exact ⟨_, rfl, rfl⟩
  obtain ⟨s, h, e⟩ := key
  rw [fnB_ret h, e]
/-- _law_due -/
theorem due_loop (w : S → S) (x : Str) (cs : List (Option Ev.D)) : ∀ (l : List Nat) (e : Sl), ∃ e', forL (.one 2) (fun s => evSs g a_l_due_4 s) (l.map fun c => .str ⟨#[c]⟩) ⟨[.val (.str x), .val (.str "abcdefghijklmnopqrstuvwxyz"), e], cs⟩ =
    if (l.all fun c => decide (c ∈ letters)) = true then .nx ⟨[.val (.str x), .val (.str "abcdefghijklmnopqrstuvwxyz"), e'], cs⟩ else .ret false (.bl false) ⟨[.val (.str x), .val (.str "abcdefghijklmnopqrstuvwxyz"), e'], cs⟩
  | [], e => ⟨e, rfl⟩
  | c :: l, e => by
    have hb : evSs g a_l_due_4 ((⟨[.val (.str x), .val (.str "abcdefghijklmnopqrstuvwxyz"), e], cs⟩ : S).put 2 (.val (.str ⟨#[c]⟩))) = if decide (c ∈ letters) = true then .nx ⟨[.val (.str x), .val (.str "abcdefghijklmnopqrstuvwxyz"), .val (.str ⟨#[c]⟩)], cs⟩ else .ret false (.bl false) ⟨[.val (.str x), .val (.str "abcdefghijklmnopqrstuvwxyz"), .val (.str ⟨#[c]⟩)], cs⟩ := by
      unfold a_l_due_4
      walk_at "ev"
      show (if (!decide (c ∈ letters)) = true then _ else _ : Ctl).then _ = _
      cases decide (c ∈ letters)
      · unfold a_l_due_5; walk_at "ev"
      · walk_at "ev"
    by_cases hc : c ∈ letters
    · obtain ⟨e', ih⟩ := due_loop w x cs l (.val (.str ⟨#[c]⟩))
      rw [if_pos (decide_eq_true hc)] at hb
      refine ⟨e', ?_⟩
      rw [List.map_cons, forL_nx hb, ih]
      simp [hc]
    · rw [if_neg (by simp [hc])] at hb
      refine ⟨.val (.str ⟨#[c]⟩), ?_⟩
      rw [List.map_cons, forL_ret hb]
      simp [hc]
theorem empty_len {x : Str} : decide (x = "") = decide ((x.length : Int) < 1) := by
  have e : x = "" ↔ (x.length : Int) < 1 := by
    constructor
    · intro h; subst h; decide
    · intro h
      obtain ⟨⟨l⟩⟩ := x
      cases l with
      | nil => rfl
      | cons a r => simp [Str.length] at h; omega
  exact decide_eq_decide.mpr e
theorem due_ok {fr : Fn} (hr : g.fn "_law_reserved" = some fr) (R : IsRes fr) : IsNm (fnB g a_l_due_0 3 1) := by
  refine ⟨rfl, fun x cs hz => ?_⟩
  have key : ∃ s, evSs g a_l_due_0 ⟨env0 3 [.str x], cs⟩ = .ret false (.bl (isNm x)) s ∧ s.cs = cs := by
    unfold a_l_due_0
    walk_at "ev"
    unfold a_l_due_1
    walk_at "ev"
    simp only [hr]
    rw [callD_ret (by rw [R.1]; rfl) (R.2 _)]
    walk_at "ev"
    rw [inF_lst rfl resD_flat]
    walk_at "ev"
    repeat (simp only [lenD, hz, if_true]; walk_at "ev")
    have e : isNm x = (!((resD.any fun y => eqFb y (.str x)) || (decide ((x.length : Int) < 1) || decide ((12 : Int) < x.length))) && allLet x) := by
      unfold isNm
      rw [empty_len]
      cases (resD.any fun y => eqFb y (.str x)) <;> cases decide ((x.length : Int) < 1) <;> cases decide ((12 : Int) < x.length) <;> rfl
    rw [e]
    cases ((resD.any fun y => eqFb y (.str x)) || (decide ((x.length : Int) < 1) || decide ((12 : Int) < x.length)))
    · unfold a_l_due_3
      walk_at "ev"
      obtain ⟨e', h⟩ := due_loop g id x cs x.cps.toList .no
      rw [h]
      show ∃ s, (if allLet x = true then _ else _ : Ctl).then _ = _ ∧ _
      cases allLet x
      · walk_at "ev"
        exact ⟨_, rfl, rfl⟩
      · unfold a_l_due_6
        walk_at "ev"
        exact ⟨_, rfl, rfl⟩
    · unfold a_l_due_2
      walk_at "ev"
      exact ⟨_, rfl, rfl⟩
  obtain ⟨s, h, e⟩ := key
  rw [fnB_ret h, e]
end
end Ev
set_option Elab.async false
set_option linter.all false
set_option maxRecDepth 100000
set_option maxHeartbeats 4000000
namespace Ev
open PySem L2
local macro_rules | `(tactic| walk_at "ev") => `(tactic| try simp only [evSs_cons, evSs_nil, evS, ev, evEs, iterE, pP_ok', pP_bad, pE_ok', pB_ok', pB_bad, pE_bad, pP_exn, pE_exn, pB_exn, fix_int, fix_bl, fix_str, fix_non, fix_tup, fix_lst, fix_ro, fix_dct, fix_ins, fix_cell, res_int, res_bl, res_str, res_non, res_tup, res_lst, res_ro, res_dct, res_ins, bool1_bl, withCs_none, withCs_some, put_mk, storeD_val, storeD_own, storeD_cell, retD_fr, retD_int, retD_bl, retD_str, retD_non, retD_tup, retD_lst, retD_ro, or_ok, and_ok, RE.bind_ok, RE.bind_exn, RE.bind_bad, RE.to_ok, RE.to_exn, RE.to_bad, Ctl.then_nx, Ctl.then_ret, Ctl.then_brk, Ctl.then_ct, Ctl.then_exn, Ctl.then_bad, ofC_some, ofC_none, ofO_some, ofO_none, setT_one, List.getElem?_cons_zero, List.getElem?_cons_succ, List.set_cons_zero, List.set_cons_succ, env0, List.map_cons, List.map_nil, List.length_cons, List.length_nil, List.cons_append, List.nil_append, List.replicate, Nat.reduceSub, Nat.reduceAdd, if_true, if_false, Bool.false_eq_true, Option.map_some, Option.bind_some, List.cons.injEq, reduceCtorEq, Bool.not_true, Bool.not_false, inF_sign, b_add_int, b_sub_int, c_lt, c_le, c_gt, c_ge, c_eq, c_ne, c_in, c_notin, c_is, c_isnot, e_int, e_bl, e_str, e_non, e_non_int, e_int_non, e_non_bl, e_bl_non, e_non_str, e_str_non, is_non, is_bl, is_int_non, is_int_bl, is_str_non, is_str_bl, is_tup_non, is_tup_bl, is_lst_non, is_lst_bl, is_ro_non, is_ro_bl, is_dct_non, is_dct_bl, is_ins_non, is_ins_bl, is_cell_non, is_cell_bl, is_bl_non, is_non_bl, u_neg, u_len, u_int, u_int_bl, u_list_lst, u_tuple_lst, l_lst, it_lst, u_list_tup, u_tuple_tup, l_tup, it_tup, u_list_ro, u_tuple_ro, l_ro, it_ro, l_dct, it_str, isi_non_int, isi_non_bool, isi_non_str, isi_non_list, isi_non_tuple, isi_non_dict, isi_bl_int, isi_bl_bool, isi_bl_str, isi_bl_list, isi_bl_tuple, isi_bl_dict, isi_int_int, isi_int_bool, isi_int_str, isi_int_list, isi_int_tuple, isi_int_dict, isi_str_int, isi_str_bool, isi_str_str, isi_str_list, isi_str_tuple, isi_str_dict, isi_tup_int, isi_tup_bool, isi_tup_str, isi_tup_list, isi_tup_tuple, isi_tup_dict, isi_lst_int, isi_lst_bool, isi_lst_str, isi_lst_list, isi_lst_tuple, isi_lst_dict, isi_dct_int, isi_dct_bool, isi_dct_str, isi_dct_list, isi_dct_tuple, isi_dct_dict, bnd_f, bnd_t, slc_lst, slc_ro])
def sl (x : Str) : Prop := x.length ≤ 1000
/-- _law_word: a word of n letters -/
def IsWord (f : Fn) : Prop := f.ar = 2 ∧ ∀ l (n : Int) cs, OkD cs l → 0 ≤ n → n ≤ 100 → ∃ x cs', f.run [.cell l, .int n] cs = .ret false (.str x) (some cs') ∧ x.length = n.toNat ∧ Dr l cs cs'
/-- _law_spoiled -/
def IsSpoil (f : Fn) : Prop := f.ar = 2 ∧ ∀ l x cs, OkD cs l → x.length ≤ 100 → ∃ y cs', f.run [.cell l, .str x] cs = .ret false (.str y) (some cs') ∧ y.length ≤ 1000 ∧ Dr l cs cs'
theorem rng_get {n j : Nat} {d : D} {lo : Int} (h : (rngD lo n)[j]? = some d) : d = .int (lo + j) ∧ j < n := by
  unfold rngD at h
  rw [List.getElem?_map] at h
  have hj : j < n := by
    by_cases e : j < n
    · exact e
    · rw [List.getElem?_eq_none (by simp; omega)] at h
      exact absurd h (by simp)
  rw [List.getElem?_range hj] at h
  exact ⟨(Option.some.inj h).symm, hj⟩
theorem rng_len {n : Nat} {lo : Int} : (rngD lo n).length = n := by unfold rngD; simp
theorem big_small : small 308915776 := ⟨by decide, by decide +kernel⟩
theorem abc_len : (("abcdefghijklmnopqrstuvwxyz" : Str).cps.toList.length : Int) = 26 := by decide +kernel
theorem abc_sz : ("abcdefghijklmnopqrstuvwxyz" : Str).length ≤ 16777216 := by decide +kernel
theorem rngOk_of {i : Int} (h0 : -1000000 ≤ i) (h1 : i ≤ 1000000) : rngOk i = true := by
  have e : (2 : Int) ^ 62 = 4611686018427387904 := by decide
  unfold rngOk
  rw [e, decide_eq_true (show -4611686018427387904 ≤ i by omega), decide_eq_true (show i < 4611686018427387904 by omega)]
  rfl
theorem one_len {c : Nat} : (⟨#[c]⟩ : Str).length = 1 := rfl
section
variable (g : G)
def Wd (l : Nat) (n : Int) (cs : List (Option Ev.D)) (k : Nat) (s : S) : Prop := ∃ x c e5, s.env = [.val (.cell l), .val (.int n), .val (.str "abcdefghijklmnopqrstuvwxyz"), .val (.str x), .val (.int c), e5] ∧ x.length = k ∧ 0 ≤ c ∧ Dr l cs s.cs
theorem word_step {l k : Nat} {n : Int} {cs cs2 : List (Option Ev.D)} {x : Str} {c q : Int} (hk : k ≤ 1000) (hx : x.length = k) (hc : 0 ≤ c) (hD : Dr l cs cs2) : ∃ s', evSs g a_l_word_6 ⟨[.val (.cell l), .val (.int n), .val (.str "abcdefghijklmnopqrstuvwxyz"), .val (.str x), .val (.int c), .val (.int q)], cs2⟩ = .nx s' ∧ Wd l n cs (k + 1) s' := by
  unfold a_l_word_6
  walk_at "ev"
  simp only [b_mod (show (0 : Int) < 26 by decide)]
  walk_at "ev"
  rw [idx_str abc_sz]
  obtain ⟨ch, hch, _⟩ := atI_nat (l := ("abcdefghijklmnopqrstuvwxyz" : Str).cps.toList) (i := c % 26) (Int.emod_nonneg _ (by decide)) (by rw [abc_len]; exact Int.emod_lt_of_pos _ (by decide))
  rw [hch]
  walk_at "ev"
  rw [b_add_str (by rw [one_len]; omega)]
  walk_at "ev"
  unfold a_l_word_7
  walk_at "ev"
  rw [b_fdiv ⟨by decide, by decide +kernel⟩]
  walk_at "ev"
  exact ⟨_, rfl, _, _, _, rfl, by rw [PySem.Str.length_append, one_len, hx], Int.ediv_nonneg hc (by decide), hD⟩
theorem word_turn {fd : Fn} (hd : g.fn "_law_draw" = some fd) (D : IsDraw fd) {l k : Nat} {n : Int} {cs cs1 : List (Option Ev.D)} {x : Str} {c q : Int} {e5 : Sl} (hk : k ≤ 1000) (hx : x.length = k) (hc : 0 ≤ c) (hD : Dr l cs cs1) : ∃ s', evSs g a_l_word_4 ((⟨[.val (.cell l), .val (.int n), .val (.str "abcdefghijklmnopqrstuvwxyz"), .val (.str x), .val (.int c), e5], cs1⟩ : S).put 5 (.val (.int q))) = .nx s' ∧ Wd l n cs (k + 1) s' := by
  unfold a_l_word_4
  walk_at "ev"
  simp only [b_mod (show (0 : Int) < 6 by decide)]
  walk_at "ev"
  cases decide (q % 6 = 0)
  · walk_at "ev"
    exact word_step g hk hx hc hD
  · unfold a_l_word_5
    walk_at "ev"
    simp only [hd]
    obtain ⟨r, cs', hr, r0, r1, dr⟩ := D.2 l 308915776 cs1 hD.ok big_small
    rw [callD_ret (by rw [D.1]; rfl) hr]
    walk_at "ev"
    exact word_step g hk hx r0 (hD.trans dr)
theorem word_ok {fd : Fn} (hd : g.fn "_law_draw" = some fd) (D : IsDraw fd) : IsWord (fnB g a_l_word_0 6 2) := by
  refine ⟨rfl, fun l n cs ok hn0 hn => ?_⟩
  have key : ∃ x s, evSs g a_l_word_0 ⟨env0 6 [.cell l, .int n], cs⟩ = .ret false (.str x) s ∧ x.length = n.toNat ∧ Dr l cs s.cs := by
    unfold a_l_word_0
    walk_at "ev"
    unfold a_l_word_1
    walk_at "ev"
    unfold a_l_word_2
    walk_at "ev"
    unfold a_l_word_3
    walk_at "ev"
    simp only [rngOk_of (i := n) (by omega) (by omega), if_true]
    walk_at "ev"
    obtain ⟨s', h1, x, c, e5, h2, h3, h4, h5⟩ := forL_inv (i := 5) (b := fun s => evSs g a_l_word_4 s) (ds := rngD 0 n.toNat) (s := ⟨[.val (.cell l), .val (.int n), .val (.str "abcdefghijklmnopqrstuvwxyz"), .val (.str ""), .val (.int 0), .no], cs⟩)
      (Wd l n cs) 0 ⟨"", 0, .no, rfl, rfl, by decide, Dr.refl ok⟩ (by
        rintro j d ⟨e, cs1⟩ hj ⟨x, c, e5, he, hx, hc, hD⟩
        obtain ⟨rfl, hj⟩ := rng_get hj
        cases he
        obtain ⟨s', h1, h2⟩ := word_turn g hd D (n := n) (q := 0 + j) (e5 := e5) (by omega) hx hc hD
        exact ⟨s', .inl h1, h2⟩)
    rw [h1]
    obtain ⟨e, cs1⟩ := s'
    cases h2
    walk_at "ev"
    unfold a_l_word_8
    walk_at "ev"
    rw [rng_len] at h3
    exact ⟨_, _, rfl, by simpa using h3, h5⟩
  obtain ⟨x, s, h, h1, h2⟩ := key
  exact ⟨x, s.cs, fnB_ret h, h1, h2⟩
theorem spoil_ok {fd fp : Fn} (hd : g.fn "_law_draw" = some fd) (D : IsDraw fd) (hp : g.fn "_law_pick" = some fp) (P : IsPickS fp) : IsSpoil (fnB g a_l_spoiled_0 6 2) := by
  refine ⟨rfl, fun l x cs ok hx => ?_⟩
  have key : ∃ y s, evSs g a_l_spoiled_0 ⟨env0 6 [.cell l, .str x], cs⟩ = .ret false (.str y) s ∧ y.length ≤ 1000 ∧ Dr l cs s.cs := by
    unfold a_l_spoiled_0
    walk_at "ev"
    unfold a_l_spoiled_1
    walk_at "ev"
    unfold a_l_spoiled_2
    walk_at "ev"
    simp only [hd]
    obtain ⟨r, cs', hr, r0, r1, dr⟩ := D.2 l 2 cs ok (small_of (by decide) (by decide))
    rw [callD_ret (by rw [D.1]; rfl) hr]
    walk_at "ev"
    simp only [rngOk_of (i := 1 + r) (by omega) (by omega), if_true]
    walk_at "ev"
    have hn : (1 + r).toNat ≤ 2 := by omega
    generalize (1 + r).toNat = n at hn
    obtain ⟨s', h1, y, e4, e5, h2, h3, h4⟩ := forL_inv (i := 4) (b := fun s => evSs g a_l_spoiled_3 s) (ds := rngD 0 n) (s := ⟨[.val (.cell l), .val (.str x), .val (.str " !\"#$&'()*+,-./0123456789:;<=>?@ABCDEFGHIJKLMNOPQRSTUVWXYZ[\\]^_`{|}~"), .val (.str x), .no, .no], cs'⟩)
      (fun k s => ∃ y e4 e5, s.env = [.val (.cell l), .val (.str x), .val (.str " !\"#$&'()*+,-./0123456789:;<=>?@ABCDEFGHIJKLMNOPQRSTUVWXYZ[\\]^_`{|}~"), .val (.str y), e4, e5] ∧ y.length + 1 ≤ 101 * 2 ^ k ∧ Dr l cs s.cs) 0
      ⟨x, .no, .no, rfl, by omega, dr⟩ (by
        rintro j d ⟨e, cs1⟩ hj ⟨y, e4, e5, he, hy, hD⟩
        obtain ⟨rfl, hj⟩ := rng_get hj
        cases he
        have hj2 : j = 0 ∨ j = 1 := by omega
        have hb : y.length + 1 ≤ 202 := by rcases hj2 with rfl | rfl <;> simpa using (by omega)
        have all : ∃ s', evSs g a_l_spoiled_3 ((⟨[.val (.cell l), .val (.str x), .val (.str " !\"#$&'()*+,-./0123456789:;<=>?@ABCDEFGHIJKLMNOPQRSTUVWXYZ[\\]^_`{|}~"), .val (.str y), e4, e5], cs1⟩ : S).put 4 (.val (.int (0 + j)))) = .nx s' ∧ ∃ y e4 e5, s'.env = [.val (.cell l), .val (.str x), .val (.str " !\"#$&'()*+,-./0123456789:;<=>?@ABCDEFGHIJKLMNOPQRSTUVWXYZ[\\]^_`{|}~"), .val (.str y), e4, e5] ∧ y.length + 1 ≤ 101 * 2 ^ (0 + j + 1) ∧ Dr l cs s'.cs := by
          unfold a_l_spoiled_3
          walk_at "ev"
          simp only [hd]
          rw [l_str (by omega)]
          walk_at "ev"
          obtain ⟨q, cs2, hq, q0, q1, dr2⟩ := D.2 l (y.length + 1) cs1 hD.ok (small_of (by omega) (by omega))
          rw [callD_ret (by rw [D.1]; rfl) hq]
          walk_at "ev"
          unfold a_l_spoiled_4
          walk_at "ev"
          rw [slc_str (by omega)]
          walk_at "ev"
          simp only [hp]
          obtain ⟨ch, cs3, h3, dr3⟩ := P.2 l " !\"#$&'()*+,-./0123456789:;<=>?@ABCDEFGHIJKLMNOPQRSTUVWXYZ[\\]^_`{|}~" cs2 dr2.ok (by decide) (by decide)
          rw [callD_ret (by rw [P.1]; rfl) h3]
          walk_at "ev"
          have l1 := L2.cutS_length y none (some q)
          have l2 := L2.cutS_length y (some (q + 1)) none
          rw [b_add_str (by rw [one_len]; omega)]
          walk_at "ev"
          rw [slc_str (by omega)]
          walk_at "ev"
          rw [b_add_str (by rw [PySem.Str.length_append, one_len]; omega)]
          walk_at "ev"
          refine ⟨_, rfl, _, _, _, rfl, ?_, (hD.trans dr2).trans dr3⟩
          rw [PySem.Str.length_append, PySem.Str.length_append, one_len]
          rcases hj2 with rfl | rfl
          · simp at hy ⊢; omega
          · simp at hy ⊢; omega
        obtain ⟨s', h1, h2⟩ := all
        exact ⟨s', .inl h1, h2⟩)
    rw [h1]
    obtain ⟨e, cs1⟩ := s'
    cases h2
    walk_at "ev"
    unfold a_l_spoiled_5
    walk_at "ev"
    rw [rng_len] at h3
    refine ⟨_, _, rfl, ?_, h4⟩
    have : n = 0 ∨ n = 1 ∨ n = 2 := by omega
    rcases this with rfl | rfl | rfl <;> simp at h3 <;> omega
  obtain ⟨x, s, h, h1, h2⟩ := key
  exact ⟨x, s.cs, fnB_ret h, h1, h2⟩
end
end Ev
set_option Elab.async false
set_option linter.all false
set_option maxRecDepth 100000
set_option maxHeartbeats 4000000
namespace Ev
open PySem L2
local macro_rules | `(tactic| walk_at "ev") => `(tactic| try simp only [evSs_cons, evSs_nil, evS, ev, evEs, iterE, pP_ok', pP_bad, pE_ok', pB_ok', pB_bad, pE_bad, pP_exn, pE_exn, pB_exn, fix_int, fix_bl, fix_str, fix_non, fix_tup, fix_lst, fix_ro, fix_dct, fix_ins, fix_cell, res_int, res_bl, res_str, res_non, res_tup, res_lst, res_ro, res_dct, res_ins, bool1_bl, withCs_none, withCs_some, put_mk, storeD_val, storeD_own, storeD_cell, retD_fr, retD_int, retD_bl, retD_str, retD_non, retD_tup, retD_lst, retD_ro, or_ok, and_ok, RE.bind_ok, RE.bind_exn, RE.bind_bad, RE.to_ok, RE.to_exn, RE.to_bad, Ctl.then_nx, Ctl.then_ret, Ctl.then_brk, Ctl.then_ct, Ctl.then_exn, Ctl.then_bad, ofC_some, ofC_none, ofO_some, ofO_none, setT_one, List.getElem?_cons_zero, List.getElem?_cons_succ, List.set_cons_zero, List.set_cons_succ, env0, List.map_cons, List.map_nil, List.length_cons, List.length_nil, List.cons_append, List.nil_append, List.replicate, Nat.reduceSub, Nat.reduceAdd, if_true, if_false, Bool.false_eq_true, Option.map_some, Option.bind_some, List.cons.injEq, reduceCtorEq, Bool.not_true, Bool.not_false, inF_sign, b_add_int, b_sub_int, c_lt, c_le, c_gt, c_ge, c_eq, c_ne, c_in, c_notin, c_is, c_isnot, e_int, e_bl, e_str, e_non, e_non_int, e_int_non, e_non_bl, e_bl_non, e_non_str, e_str_non, is_non, is_bl, is_int_non, is_int_bl, is_str_non, is_str_bl, is_tup_non, is_tup_bl, is_lst_non, is_lst_bl, is_ro_non, is_ro_bl, is_dct_non, is_dct_bl, is_ins_non, is_ins_bl, is_cell_non, is_cell_bl, is_bl_non, is_non_bl, u_neg, u_len, u_int, u_int_bl, u_list_lst, u_tuple_lst, l_lst, it_lst, u_list_tup, u_tuple_tup, l_tup, it_tup, u_list_ro, u_tuple_ro, l_ro, it_ro, l_dct, it_str, isi_non_int, isi_non_bool, isi_non_str, isi_non_list, isi_non_tuple, isi_non_dict, isi_bl_int, isi_bl_bool, isi_bl_str, isi_bl_list, isi_bl_tuple, isi_bl_dict, isi_int_int, isi_int_bool, isi_int_str, isi_int_list, isi_int_tuple, isi_int_dict, isi_str_int, isi_str_bool, isi_str_str, isi_str_list, isi_str_tuple, isi_str_dict, isi_tup_int, isi_tup_bool, isi_tup_str, isi_tup_list, isi_tup_tuple, isi_tup_dict, isi_lst_int, isi_lst_bool, isi_lst_str, isi_lst_list, isi_lst_tuple, isi_lst_dict, isi_dct_int, isi_dct_bool, isi_dct_str, isi_dct_list, isi_dct_tuple, isi_dct_dict, bnd_f, bnd_t, slc_lst, slc_ro])
def small5 (x : Str) : Prop := x.length ≤ 1000
def Ws (ws : List Ev.D) (k : Nat) : Prop := ws.length ≤ k ∧ ∀ d ∈ ws, ∃ x : Str, d = .str x ∧ x.length ≤ 1000
theorem Ws.add {ws vs : List Ev.D} {k j : Nat} (h : Ws ws k) (h2 : Ws vs j) : Ws (ws ++ vs) (k + j) := ⟨by rw [List.length_append]; exact Nat.add_le_add h.1 h2.1, fun d hd => (List.mem_append.mp hd).elim (h.2 d) (h2.2 d)⟩
section
variable (g : G)
abbrev abcS : Str := "abcdefghijklmnopqrstuvwxyz"
def L1 (ns : List Ev.D) (k : Nat) (s : S) : Prop := ∃ ws e4 e5, s.env = [.val (.ro ns), .val (.cell 0), .val (.str "abcdefghijklmnopqrstuvwxyz"), .val (.lst ws), e4, e5] ∧ Ws ws k ∧ OkD s.cs 0
theorem law_run' {fs fw fp fr fi fd fsp fsm : Fn} (hs : g.fn "_law_state" = some fs) (HS : IsState fs) (hw : g.fn "_law_word" = some fw) (HW : IsWord fw) (hp : g.fn "_law_pick" = some fp) (HP : IsPickS fp)
    (hr : g.fn "_law_reserved" = some fr) (HR : IsRes fr) (hi : g.fn "is_name" = some fi) (HI : IsNm fi) (hd : g.fn "_law_due" = some fd) (HD : IsNm fd) (hsp : g.fn "_law_spoiled" = some fsp) (HSP : IsSpoil fsp) (hsm : g.fn "_law_same" = some fsm) (HSM : IsSameB fsm)
    (ns : List Int) (hn : ns.length ≤ 63) : ∃ s, evSs g a_law_0 ⟨env0 6 [.ro (ns.map .int)], []⟩ = .ret false (.bl true) s := by
  unfold a_law_0
  walk_at "ev"
  simp only [hs]
  rw [callD_ret (by rw [HS.1]; rfl) (HS.2 _ _)]
  walk_at "ev"
  unfold a_law_1
  walk_at "ev"
  unfold a_law_2
  walk_at "ev"
  simp only [show okSz 0 = true from rfl, if_true]
  walk_at "ev"
  unfold a_law_3
  walk_at "ev"
  simp only [show rngOk 15 = true by decide, if_true]
  walk_at "ev"
  obtain ⟨s1, h1, ws, e4, e5, h2, h3, h4⟩ := forL_inv (i := 4) (b := fun s => evSs g a_law_4 s) (ds := rngD 0 (15 : Int).toNat) (s := ⟨[.val (.ro (ns.map .int)), .val (.cell 0), .val (.str "abcdefghijklmnopqrstuvwxyz"), .val (.lst []), .no, .no], [some (.lst [.lst (ns.map .int), .int 0, .int 0, .int 0, .int 0])]⟩)
    (fun k s => L1 (ns.map .int) (2 * k) s) 0 ⟨[], .no, .no, rfl, ⟨by simp, by simp⟩, ⟨ns, 0, 0, 0, 0, rfl, by decide, by omega⟩⟩ (by
      rintro j d ⟨e, cs1⟩ hj ⟨ws, e4, e5, he, hx, hD⟩
      obtain ⟨rfl, hj'⟩ := rng_get hj
      have hj' : j < 15 := hj'
      cases he
      have all : ∃ s', evSs g a_law_4 ((⟨[.val (.ro (ns.map .int)), .val (.cell 0), .val (.str "abcdefghijklmnopqrstuvwxyz"), .val (.lst ws), e4, e5], cs1⟩ : S).put 4 (.val (.int (0 + j)))) = .nx s' ∧ L1 (ns.map .int) (2 * (0 + j + 1)) s' := by
        unfold a_law_4
        walk_at "ev"
        simp only [hw]
        obtain ⟨x, cs2, q, q1, q2⟩ := HW.2 0 (0 + j) cs1 hD (by omega) (by omega)
        rw [callD_ret (by rw [HW.1]; rfl) q]
        walk_at "ev"
        unfold a_law_5
        walk_at "ev"
        simp only [hsp]
        obtain ⟨y, cs3, r, r1, r2⟩ := HSP.2 0 x cs2 q2.ok (by omega)
        rw [callD_ret (by rw [HSP.1]; rfl) r]
        walk_at "ev"
        simp only [show okSz 2 = true from rfl, if_true]
        walk_at "ev"
        rw [b_add_lst (by have := hx.1; show ws.length + 2 ≤ _; omega)]
        walk_at "ev"
        exact ⟨_, rfl, _, _, _, rfl, hx.add (j := 2) ⟨by simp, by simp; exact ⟨by omega, r1⟩⟩, r2.ok⟩
      obtain ⟨s', h1, h2⟩ := all
      exact ⟨s', .inl h1, h2⟩)
  rw [h1]
  obtain ⟨e, cs1⟩ := s1
  cases h2
  walk_at "ev"
  unfold a_law_6
  walk_at "ev"
  simp only [hr]
  rw [callD_ret (by rw [HR.1]; rfl) (HR.2 _)]
  walk_at "ev"
  obtain ⟨s2, h1, ws2, e4', e5', h2, h3', h4'⟩ := forL_inv (i := 5) (b := fun s => evSs g a_law_7 s) (ds := resD) (s := ⟨[.val (.ro (ns.map .int)), .val (.cell 0), .val (.str "abcdefghijklmnopqrstuvwxyz"), .val (.lst ws), e4, e5], cs1⟩)
    (fun k s => L1 (ns.map .int) (30 + 4 * k) s) 0 ⟨ws, _, _, rfl, h3, h4⟩ (by
      rintro j d ⟨e, cs1⟩ hj ⟨ws, e4, e5, he, hx, hD⟩
      have hj2 : j < 18 := by
        by_cases h : j < 18
        · exact h
        · rw [List.getElem?_eq_none (by show 18 ≤ j; omega)] at hj; cases hj
      cases he
      have hd : ∃ x : Str, d = .str x ∧ x.length ≤ 10 := (show ∀ d ∈ resD, ∃ x : Str, d = .str x ∧ x.length ≤ 10 by
        intro d hd
        simp only [resD, List.mem_cons, List.not_mem_nil, or_false] at hd
        rcases hd with h | h | h | h | h | h | h | h | h | h | h | h | h | h | h | h | h | h <;> exact ⟨_, h, by decide +kernel⟩) d (List.mem_of_getElem? hj)
      obtain ⟨x, rfl, hxl⟩ := hd
      have all : ∃ s', evSs g a_law_7 ((⟨[.val (.ro (ns.map .int)), .val (.cell 0), .val (.str "abcdefghijklmnopqrstuvwxyz"), .val (.lst ws), e4, e5], cs1⟩ : S).put 5 (.val (.str x))) = .nx s' ∧ L1 (ns.map .int) (30 + 4 * (0 + j + 1)) s' := by
        unfold a_law_7
        walk_at "ev"
        rw [slc_str (by omega)]
        walk_at "ev"
        simp only [hp]
        obtain ⟨c1, cs2, q, q2⟩ := HP.2 0 "abcdefghijklmnopqrstuvwxyz" cs1 hD (by decide +kernel) (by decide +kernel)
        rw [callD_ret (by rw [HP.1]; rfl) q]
        walk_at "ev"
        rw [b_add_str (by rw [one_len]; omega)]
        walk_at "ev"
        try simp only [hp]
        obtain ⟨c2, cs3, r, r2⟩ := HP.2 0 "abcdefghijklmnopqrstuvwxyz" cs2 q2.ok (by decide +kernel) (by decide +kernel)
        rw [callD_ret (by rw [HP.1]; rfl) r]
        walk_at "ev"
        rw [b_add_str (by rw [one_len]; omega)]
        walk_at "ev"
        simp only [show okSz 4 = true from rfl, if_true]
        walk_at "ev"
        rw [b_add_lst (by have := hx.1; show ws.length + 4 ≤ _; omega)]
        walk_at "ev"
        have := L2.cutS_length x none (some (-1))
        exact ⟨_, rfl, _, _, _, rfl, hx.add (j := 4) ⟨by simp, by simp [PySem.Str.length_append, one_len]; omega⟩, r2.ok⟩
      obtain ⟨s', h1, h2⟩ := all
      exact ⟨s', .inl h1, h2⟩)
  rw [h1]
  obtain ⟨e, cs2⟩ := s2
  cases h2
  walk_at "ev"
  unfold a_law_8
  walk_at "ev"
  obtain ⟨s3, h1, h5, e5, h2⟩ := forL_all (i := 5) (b := fun s => evSs g a_law_9 s) (ds := ws2) (s := ⟨[.val (.ro (ns.map .int)), .val (.cell 0), .val (.str "abcdefghijklmnopqrstuvwxyz"), .val (.lst ws2), e4', e5'], cs2⟩)
    (fun s => ∃ e4 e5, s.env = [.val (.ro (ns.map .int)), .val (.cell 0), .val (.str "abcdefghijklmnopqrstuvwxyz"), .val (.lst ws2), e4, e5]) ⟨_, _, rfl⟩ (by
      rintro d hd' ⟨e, cs3⟩ ⟨e4, e5, he⟩
      cases he
      obtain ⟨x, rfl, hx⟩ := h3'.2 d hd'
      have all : ∃ s', evSs g a_law_9 ((⟨[.val (.ro (ns.map .int)), .val (.cell 0), .val (.str "abcdefghijklmnopqrstuvwxyz"), .val (.lst ws2), e4, e5], cs3⟩ : S).put 5 (.val (.str x))) = .nx s' ∧ ∃ e4 e5, s'.env = [.val (.ro (ns.map .int)), .val (.cell 0), .val (.str "abcdefghijklmnopqrstuvwxyz"), .val (.lst ws2), e4, e5] := by
        unfold a_law_9
        walk_at "ev"
        simp only [hsm]
        try simp only [hi]
        rw [callD_ret (by rw [HI.1]; rfl) (HI.2 x _ (okSz_of (by omega)))]
        walk_at "ev"
        try simp only [hd]
        rw [callD_ret (by rw [HD.1]; rfl) (HD.2 x _ (okSz_of (by omega)))]
        walk_at "ev"
        rw [callD_ret (by rw [HSM.1]; rfl) (HSM.2 _ _ _)]
        walk_at "ev"
        try simp only [decide_true]
        walk_at "ev"
        exact ⟨_, rfl, _, _, rfl⟩
      obtain ⟨s', h1, h2⟩ := all
      exact ⟨s', .inl h1, h2⟩)
  rw [h1]
  walk_at "ev"
  unfold a_law_11
  walk_at "ev"
  exact ⟨_, rfl⟩
end
end Ev
set_option Elab.async false
set_option linter.all false
set_option maxRecDepth 100000
set_option maxHeartbeats 4000000
/-! EvH: what the top has left; the law's end. -/
namespace Ev
open PySem L2

def dvOf : D → He.Dv
  | .int i => .int i
  | .str x => .str x
  | .bl b => .bl b
  | _ => .non
/-- the module's constants -/
def conB (K : PySem.W.Frag) (p : Str × D) : Bool := match p.2 with
  | .int i => (He.Fa.int p.1 i).ok K
  | .str z => (He.Fa.str p.1 z).ok K
  | .tup ds => ds.all isF && ((He.Fa.glo p.1).ok K && He.tupB K p.1 (ds.map dvOf))
  | _ => false
theorem flatRep {kx : Kx} {ρ : List Addr} {F : Hp} {d : D} (h : isF d = true) : Rep kx ρ F d (He.Dv.v kx.K (dvOf d)) := by
  cases d <;> first | (cases h; done) | rfl
theorem flatReps {kx : Kx} {ρ : List Addr} {F : Hp} : ∀ {ds : List D}, ds.all isF = true → Reps kx ρ F ds ((ds.map dvOf).map (He.Dv.v kx.K))
  | [], _ => rfl
  | d :: ds, h => by
    obtain ⟨h1, h2⟩ := Bool.and_eq_true_iff.mp (show (isF d && ds.all isF) = true from h)
    exact ⟨_, _, rfl, flatRep h1, flatReps h2⟩
theorem conB_ok {K : PySem.W.Frag} {h : Heap} {mg : Str → Option Value} (X : K.In h) (G : h.Ns mainGlobals mg) {p : Str × D} (c : conB K p = true) : ∃ v u, mg p.1 = some u ∧ RelV v u ∧ ∀ ρ F, Rep ⟨K, mg⟩ ρ F p.2 v := by
  obtain ⟨x, d⟩ := p
  cases d with
  | int i =>
    obtain ⟨t, e⟩ := He.int_ok X G (show (He.Fa.int x i).ok K = true from c)
    exact ⟨.int i, _, e, ⟨t, rfl⟩, fun _ _ => rfl⟩
  | str z =>
    obtain ⟨t, e⟩ := He.str_ok X G (show (He.Fa.str x z).ok K = true from c)
    exact ⟨.str z, _, e, ⟨t, rfl⟩, fun _ _ => rfl⟩
  | tup ds =>
    obtain ⟨h1, h2⟩ := Bool.and_eq_true_iff.mp (show (ds.all isF && ((He.Fa.glo x).ok K && He.tupB K x (ds.map dvOf))) = true from c)
    obtain ⟨h3, h4⟩ := Bool.and_eq_true_iff.mp h2
    exact ⟨.ref (He.ga K x), _, He.glo_ok X G h3, rfl, fun ρ F => ⟨_, _, rfl, He.tupB_ok h4 F, flatReps h1⟩⟩
  | _ => cases c
def conG (cs : List (Str × D)) : Str → Option D := fun x => cs.lookup x
theorem conG_ok {K : PySem.W.Frag} {h : Heap} {mg : Str → Option Value} (X : K.In h) (G : h.Ns mainGlobals mg) {cs : List (Str × D)} (c : cs.all (conB K) = true) (x : Str) (d : D) (e : conG cs x = some d) : ∃ v u, mg x = some u ∧ RelV v u ∧ ∀ ρ F, Rep ⟨K, mg⟩ ρ F d v :=
  conB_ok X G (p := (x, d)) (List.all_eq_true.mp c _ (PySem.mem_of_lookup e))
theorem row_ok {K : PySem.W.Frag} {mg : Str → Option Value} {x : Str} {st : Stmt} {N ps : List Str} {m : Nat → Md} {a : Sms} {f : Addr} {fd : FuncData} (hc : cS N m (defScope st) 60 (defBody st) = a) (Sc : FnScope N ps (defScope st))
    (hb : ∀ (kV doc pm : Value) (an : Option Addr) (cdv ct : Value) (us : List Value), us.length = ps.length → bindArgs (PySem.W.fnOf x x (defArgs st) (defBody st) (defScope st) .none kV doc pm an cdv ct) ⟨us, []⟩ = pure (ps.zip us))
    (F : FunD K x x (defArgs st) (defBody st) (defScope st) [] [] f fd) (hm : mg x = some (.ref f)) {n ar : Nat} (hn : N.length = n) (har : ps.length = ar) : RowOk ⟨K, mg⟩ ⟨x, a, n, ar⟩ :=
  ⟨_, _, _, _, _, _, _, N, ps, m, hm, F, Sc, hc, hn, har, F.bindsN hb⟩
abbrev dfd (x : Str) (st : Stmt) : He.DefD := ⟨(x, none), x, x, defArgs st, defBody st, defScope st, [], []⟩
def bfree : List He.Fa := bnames.map .free
/-- the law's end: from the table -/
theorem law_fn {P : Program} {w : World} {K : PySem.W.Frag} {mg : Str → Option Value} {h base : Heap} {con : Str → Option D} {rs : List Row} {k : Nat} {fa : Addr} {fd : FuncData} {ps : List Str}
    (hg : GOk ⟨K, mg⟩ P w base k (gOf con rs)) {fn : Fn} (hf : (gOf con rs).fn "law" = some fn) (hm : mg "law" = some (.ref fa)) : ∃ fd ps, FnOk P w K mg base (L2.CX P w) k fa fd ps (spOf ⟨K, mg⟩ fn) := by
  obtain ⟨f, fd, ps, h1, _, h3, _⟩ := (hg.fn _ _ hf).at_
  have e : mg "law" = some (.ref f) := h1
  rw [hm] at e
  cases e
  exact ⟨fd, ps, h3⟩
theorem reps_ints {kx : Kx} {ρ : List Addr} {F : Hp} : ∀ ns : List Int, Reps kx ρ F (ns.map D.int) (ns.map V.int)
  | [] => rfl
  | _ :: ns => ⟨_, _, rfl, rfl, reps_ints ns⟩
theorem law_sp {kx : Kx} {fn : Fn} {H : Hp} {a : Addr} {ns : List Int} (har : fn.ar = 1) (hS : SqL kx.K H a (ns.map V.int)) {cs : Option (List (Option D))} (hr : fn.run [.ro (ns.map D.int)] [] = .ret false (.bl true) cs) : spOf kx fn [.ref a] H (fun v _ => v = .bl true) fun _ _ _ => False := by
  refine ⟨fun _ => none, H, [], [.ro (ns.map D.int)], [], ⟨Le.refl _, (fun _ _ h => nomatch h), fun _ h => absurd rfl h, rfl, fun l a d h => by simp at h, fun l l' a d d' h => by simp at h⟩, ⟨_, _, rfl, ⟨a, _, rfl, hS, reps_ints ns⟩, rfl⟩, har.symm, ?_⟩
  rw [hr]
  intro v F' ρ' H' c _ _ rt
  rcases rt with ⟨e, _⟩ | ⟨_, h⟩
  · cases e
  · exact h
theorem toCX0 {P : Program} {w : World} {K : PySem.W.Frag} {mg : Str → Option Value} {base : Heap} {k : Nat} {f : Addr} {fd : FuncData} {ps : List Str} {sp : Sp} (F : FnOk P w K mg base (L2.CX P w) k f fd ps sp) : FnOk P w K mg base CX0 k f fd ps (fun vs H Q _ => sp vs H Q fun _ _ _ => False) := by
  refine ⟨fun vs H Q E h => F.len _ _ _ _ h, fun A outer s H args us vs Q E hr e0 hb r h => codeAny_mono (F.run A outer s H args us vs Q (fun _ _ _ => False) hr e0 hb r h) fun r s' q => ?_⟩
  cases r with
  | ok fl => cases fl <;> exact q
  | error e =>
    have q : L2.CX P w outer H s (fun _ _ _ => False) e s' := q
    obtain ⟨_, _, _, _, _, _, _, _, _, _, _, _, z⟩ := q
    exact z.elim
end Ev
set_option Elab.async false
set_option linter.all false
set_option maxRecDepth 100000
set_option maxHeartbeats 4000000
namespace Ev
open PySem L2
def topS (i : Nat) : Stmt := PySem.Challenge.pw_elseput_k00_names_of_letters.main.body.getD i (.Pass ⟨0, 0, 0, 0⟩)
theorem c_is_name : cS n_is_name m_is_name (defScope (topS 4)) 60 (defBody (topS 4)) = a_is_name_0 := by kernel_rfl
theorem s_is_name : FnScope n_is_name p_is_name (defScope (topS 4)) := ⟨by kernel_rfl, by kernel_rfl, by kernel_rfl, by decide +kernel, by kernel_rfl, by decide +kernel, by decide +kernel⟩
theorem c_l_state : cS n_l_state m_l_state (defScope (topS 6)) 60 (defBody (topS 6)) = a_l_state_0 := by kernel_rfl
theorem s_l_state : FnScope n_l_state p_l_state (defScope (topS 6)) := ⟨by kernel_rfl, by kernel_rfl, by kernel_rfl, by decide +kernel, by kernel_rfl, by decide +kernel, by decide +kernel⟩
theorem c_l_draw : cS n_l_draw m_l_draw (defScope (topS 7)) 60 (defBody (topS 7)) = a_l_draw_0 := by kernel_rfl
theorem s_l_draw : FnScope n_l_draw p_l_draw (defScope (topS 7)) := ⟨by kernel_rfl, by kernel_rfl, by kernel_rfl, by decide +kernel, by kernel_rfl, by decide +kernel, by decide +kernel⟩
theorem c_l_pick : cS n_l_pick m_l_pick (defScope (topS 8)) 60 (defBody (topS 8)) = a_l_pick_0 := by kernel_rfl
theorem s_l_pick : FnScope n_l_pick p_l_pick (defScope (topS 8)) := ⟨by kernel_rfl, by kernel_rfl, by kernel_rfl, by decide +kernel, by kernel_rfl, by decide +kernel, by decide +kernel⟩
theorem c_l_is_int : cS n_l_is_int m_l_is_int (defScope (topS 9)) 60 (defBody (topS 9)) = a_l_is_int_0 := by kernel_rfl
theorem s_l_is_int : FnScope n_l_is_int p_l_is_int (defScope (topS 9)) := ⟨by kernel_rfl, by kernel_rfl, by kernel_rfl, by decide +kernel, by kernel_rfl, by decide +kernel, by decide +kernel⟩
theorem c_l_same : cS n_l_same m_l_same (defScope (topS 10)) 60 (defBody (topS 10)) = a_l_same_0 := by kernel_rfl
theorem s_l_same : FnScope n_l_same p_l_same (defScope (topS 10)) := ⟨by kernel_rfl, by kernel_rfl, by kernel_rfl, by decide +kernel, by kernel_rfl, by decide +kernel, by decide +kernel⟩
theorem c_l_reserved : cS n_l_reserved m_l_reserved (defScope (topS 11)) 60 (defBody (topS 11)) = a_l_reserved_0 := by kernel_rfl
theorem s_l_reserved : FnScope n_l_reserved p_l_reserved (defScope (topS 11)) := ⟨by kernel_rfl, by kernel_rfl, by kernel_rfl, by decide +kernel, by kernel_rfl, by decide +kernel, by decide +kernel⟩
theorem c_l_word : cS n_l_word m_l_word (defScope (topS 12)) 60 (defBody (topS 12)) = a_l_word_0 := by kernel_rfl
theorem s_l_word : FnScope n_l_word p_l_word (defScope (topS 12)) := ⟨by kernel_rfl, by kernel_rfl, by kernel_rfl, by decide +kernel, by kernel_rfl, by decide +kernel, by decide +kernel⟩
theorem c_l_spoiled : cS n_l_spoiled m_l_spoiled (defScope (topS 13)) 60 (defBody (topS 13)) = a_l_spoiled_0 := by kernel_rfl
theorem s_l_spoiled : FnScope n_l_spoiled p_l_spoiled (defScope (topS 13)) := ⟨by kernel_rfl, by kernel_rfl, by kernel_rfl, by decide +kernel, by kernel_rfl, by decide +kernel, by decide +kernel⟩
theorem c_l_due : cS n_l_due m_l_due (defScope (topS 14)) 60 (defBody (topS 14)) = a_l_due_0 := by kernel_rfl
theorem s_l_due : FnScope n_l_due p_l_due (defScope (topS 14)) := ⟨by kernel_rfl, by kernel_rfl, by kernel_rfl, by decide +kernel, by kernel_rfl, by decide +kernel, by decide +kernel⟩
theorem c_law : cS n_law m_law (defScope (topS 15)) 60 (defBody (topS 15)) = a_law_0 := by kernel_rfl
theorem s_law : FnScope n_law p_law (defScope (topS 15)) := ⟨by kernel_rfl, by kernel_rfl, by kernel_rfl, by decide +kernel, by kernel_rfl, by decide +kernel, by decide +kernel⟩
def kcon : List (Str × D) := [("LETTERS", .str "abcdefghijklmnopqrstuvwxyz"), ("RESERVED", .tup [.str "always", .str "never", .str "and", .str "or", .str "not", .str "when", .str "add", .str "set", .str "change", .str "tell", .str "refuse", .str "take", .str "look", .str "free", .str "lock", .str "keep", .str "keys", .str "fields"]), ("NAME_LENGTH", .int 12)]
def krows : List Row := [⟨"law", a_law_0, 6, 1⟩, ⟨"_law_due", a_l_due_0, 3, 1⟩, ⟨"_law_spoiled", a_l_spoiled_0, 6, 2⟩, ⟨"_law_word", a_l_word_0, 6, 2⟩, ⟨"_law_reserved", a_l_reserved_0, 1, 0⟩, ⟨"_law_same", a_l_same_0, 4, 2⟩, ⟨"_law_is_int", a_l_is_int_0, 1, 1⟩, ⟨"_law_pick", a_l_pick_0, 2, 2⟩, ⟨"_law_draw", a_l_draw_0, 6, 2⟩, ⟨"_law_state", a_l_state_0, 1, 1⟩, ⟨"is_name", a_is_name_0, 2, 1⟩]
def kfn : List He.DefD := [dfd "is_name" (topS 4), dfd "_law_state" (topS 6), dfd "_law_draw" (topS 7), dfd "_law_pick" (topS 8), dfd "_law_is_int" (topS 9), dfd "_law_same" (topS 10), dfd "_law_reserved" (topS 11), dfd "_law_word" (topS 12), dfd "_law_spoiled" (topS 13), dfd "_law_due" (topS 14), dfd "law" (topS 15)]
def kfa : List He.Fa := bfree ++ [.glo "is_name", .glo "_law_state", .glo "_law_draw", .glo "_law_pick", .glo "_law_is_int", .glo "_law_same", .glo "_law_reserved", .glo "_law_word", .glo "_law_spoiled", .glo "_law_due", .glo "law"]
def kex : PySem.W.Frag → Bool := fun K => kcon.all (conB K)
abbrev RW : PySem.W.OpenRow := PySem.W.OpenLaw.row PySem.Challenge.rw_elseput_k00_names_of_letters
abbrev hk : PySem.W.Hook := He.hookX 5 kfa kfn [] [] kex
def ob (s : PySem.W.SharedT) : He.AlX := He.obsX 5 kfa kfn [] [] kex (HandSHeadRun.getT s)
theorem ob_eq (s : PySem.W.SharedT) : ob s = hk.obs s.abs := He.obsX_eq (HandSHeadRun.getT_eq s)
def loose : List Str := (["__name__", "LETTERS", "RESERVED", "NAME_LENGTH", "is_name", "_law_state", "_law_draw", "_law_pick", "_law_is_int", "_law_same", "_law_reserved", "_law_word", "_law_spoiled", "_law_due"] : List Str)
theorem run (w : World) : HandSHeadRun.RunEq RW (PySem.W.view RW.prog [15]) hk ob 3000 loose w := by
  intro os
  kernel_rfl
section
variable {P : Program} {w : World} {K : PySem.W.Frag} {h : Heap} {mg : Str → Option Value}
theorem kfree (X : K.In h) (G : h.Ns mainGlobals mg) (c : He.SaysD kfa kfn K) : ∀ x ∈ bnames, mg x = none := fun x hx =>
  He.free_ok X G (c.facts (f := .free x) (List.mem_append_left _ (List.mem_map_of_mem hx)))
theorem krow (X : K.In h) (G : h.Ns mainGlobals mg) (c : He.SaysD kfa kfn K) : ∀ r ∈ krows, RowOk ⟨K, mg⟩ r := by
  have r0 : RowOk ⟨K, mg⟩ ⟨"is_name", a_is_name_0, 2, 1⟩ := by
    obtain ⟨fd, F⟩ := c.def_ 0 (d := dfd "is_name" (topS 4)) rfl
    exact row_ok c_is_name s_is_name (fun _ _ _ _ _ _ us hl => match us, hl with | [_], _ => rfl) F (He.glo_ok X G (c.fact (bfree.length + 0) (f := .glo "is_name") rfl)) rfl rfl
  have r1 : RowOk ⟨K, mg⟩ ⟨"_law_state", a_l_state_0, 1, 1⟩ := by
    obtain ⟨fd, F⟩ := c.def_ 1 (d := dfd "_law_state" (topS 6)) rfl
    exact row_ok c_l_state s_l_state (fun _ _ _ _ _ _ us hl => match us, hl with | [_], _ => rfl) F (He.glo_ok X G (c.fact (bfree.length + 1) (f := .glo "_law_state") rfl)) rfl rfl
  have r2 : RowOk ⟨K, mg⟩ ⟨"_law_draw", a_l_draw_0, 6, 2⟩ := by
    obtain ⟨fd, F⟩ := c.def_ 2 (d := dfd "_law_draw" (topS 7)) rfl
    exact row_ok c_l_draw s_l_draw (fun _ _ _ _ _ _ us hl => match us, hl with | [_, _], _ => rfl) F (He.glo_ok X G (c.fact (bfree.length + 2) (f := .glo "_law_draw") rfl)) rfl rfl
  have r3 : RowOk ⟨K, mg⟩ ⟨"_law_pick", a_l_pick_0, 2, 2⟩ := by
    obtain ⟨fd, F⟩ := c.def_ 3 (d := dfd "_law_pick" (topS 8)) rfl
    exact row_ok c_l_pick s_l_pick (fun _ _ _ _ _ _ us hl => match us, hl with | [_, _], _ => rfl) F (He.glo_ok X G (c.fact (bfree.length + 3) (f := .glo "_law_pick") rfl)) rfl rfl
  have r4 : RowOk ⟨K, mg⟩ ⟨"_law_is_int", a_l_is_int_0, 1, 1⟩ := by
    obtain ⟨fd, F⟩ := c.def_ 4 (d := dfd "_law_is_int" (topS 9)) rfl
    exact row_ok c_l_is_int s_l_is_int (fun _ _ _ _ _ _ us hl => match us, hl with | [_], _ => rfl) F (He.glo_ok X G (c.fact (bfree.length + 4) (f := .glo "_law_is_int") rfl)) rfl rfl
  have r5 : RowOk ⟨K, mg⟩ ⟨"_law_same", a_l_same_0, 4, 2⟩ := by
    obtain ⟨fd, F⟩ := c.def_ 5 (d := dfd "_law_same" (topS 10)) rfl
    exact row_ok c_l_same s_l_same (fun _ _ _ _ _ _ us hl => match us, hl with | [_, _], _ => rfl) F (He.glo_ok X G (c.fact (bfree.length + 5) (f := .glo "_law_same") rfl)) rfl rfl
  have r6 : RowOk ⟨K, mg⟩ ⟨"_law_reserved", a_l_reserved_0, 1, 0⟩ := by
    obtain ⟨fd, F⟩ := c.def_ 6 (d := dfd "_law_reserved" (topS 11)) rfl
    exact row_ok c_l_reserved s_l_reserved (fun _ _ _ _ _ _ us hl => match us, hl with | [], _ => rfl) F (He.glo_ok X G (c.fact (bfree.length + 6) (f := .glo "_law_reserved") rfl)) rfl rfl
  have r7 : RowOk ⟨K, mg⟩ ⟨"_law_word", a_l_word_0, 6, 2⟩ := by
    obtain ⟨fd, F⟩ := c.def_ 7 (d := dfd "_law_word" (topS 12)) rfl
    exact row_ok c_l_word s_l_word (fun _ _ _ _ _ _ us hl => match us, hl with | [_, _], _ => rfl) F (He.glo_ok X G (c.fact (bfree.length + 7) (f := .glo "_law_word") rfl)) rfl rfl
  have r8 : RowOk ⟨K, mg⟩ ⟨"_law_spoiled", a_l_spoiled_0, 6, 2⟩ := by
    obtain ⟨fd, F⟩ := c.def_ 8 (d := dfd "_law_spoiled" (topS 13)) rfl
    exact row_ok c_l_spoiled s_l_spoiled (fun _ _ _ _ _ _ us hl => match us, hl with | [_, _], _ => rfl) F (He.glo_ok X G (c.fact (bfree.length + 8) (f := .glo "_law_spoiled") rfl)) rfl rfl
  have r9 : RowOk ⟨K, mg⟩ ⟨"_law_due", a_l_due_0, 3, 1⟩ := by
    obtain ⟨fd, F⟩ := c.def_ 9 (d := dfd "_law_due" (topS 14)) rfl
    exact row_ok c_l_due s_l_due (fun _ _ _ _ _ _ us hl => match us, hl with | [_], _ => rfl) F (He.glo_ok X G (c.fact (bfree.length + 9) (f := .glo "_law_due") rfl)) rfl rfl
  have r10 : RowOk ⟨K, mg⟩ ⟨"law", a_law_0, 6, 1⟩ := by
    obtain ⟨fd, F⟩ := c.def_ 10 (d := dfd "law" (topS 15)) rfl
    exact row_ok c_law s_law (fun _ _ _ _ _ _ us hl => match us, hl with | [_], _ => rfl) F (He.glo_ok X G (c.fact (bfree.length + 10) (f := .glo "law") rfl)) rfl rfl
  intro r hr
  simp only [krows, List.mem_cons, List.not_mem_nil, or_false] at hr
  rcases hr with rfl | rfl | rfl | rfl | rfl | rfl | rfl | rfl | rfl | rfl | rfl
  · exact r10
  · exact r9
  · exact r8
  · exact r7
  · exact r6
  · exact r5
  · exact r4
  · exact r3
  · exact r2
  · exact r1
  · exact r0
def ktail : List Row := krows.tail
/-- what is left to be shown: the law's own run -/
def LawRun : Prop := ∀ ns : List Int, ns.length ≤ 63 → ∃ cs, (fnB (gOf (conG kcon) ktail) a_law_0 6 1).run [.ro (ns.map .int)] [] = .ret false (.bl true) cs
theorem facts (hrun : LawRun) (X : K.In h) (G : h.Ns mainGlobals mg) {f : Addr} (hm : mg "law" = some (.ref f)) (c : He.SaysX kfa kfn [] [] kex w h K) :
    ∃ (fd : FuncData), (∀ (s : Shared) (v : Value), BindsTo s fd ⟨[v], []⟩ [("_law_script", v)]) ∧ ∃ sp : Sp, (∀ (H : Hp) (a : Addr) (ns : List Int), ns.length ≤ 63 → L2.Only H → SqL K H a (ns.map V.int) → sp [.ref a] H (fun v _ => v = .bl true) fun _ _ _ => False) ∧
      ∀ base : Heap, K.In base → base.Ns mainGlobals mg → FnOk P w K mg base CX0 krows.length f fd ["_law_script"] sp := by
  obtain ⟨fd, F⟩ := c.t.d.def_ 10 (d := dfd "law" (topS 15)) rfl
  have e := hm.symm.trans (He.glo_ok X G (c.t.d.fact (bfree.length + 10) (f := .glo "law") rfl))
  cases e
  have b := FunD.bindsA (ps := ["_law_script"]) F fun _ _ _ _ _ _ us hl => match us, hl with | [_], _ => rfl
  refine ⟨fd, fun s v => b s [v] rfl, _, fun H a ns hn _ hS => ?_, fun base _ _ => toCX0 (sp := spOf ⟨K, mg⟩ (fnB (gOf (conG kcon) ktail) a_law_0 6 1)) ?_⟩
  · obtain ⟨cs, hr⟩ := hrun ns hn
    exact law_sp (kx := ⟨K, mg⟩) rfl hS hr
  · have hg := build (P := P) (w := w) (kx := ⟨K, mg⟩) (base := base) (con := conG kcon) (conG_ok X G c.more) (kfree X G c.t.d) ktail (fun r hr => krow X G c.t.d r (List.mem_of_mem_tail hr))
    exact def_ok F s_law c_law hg (kfree X G c.t.d) rfl fun ds cs _ => fnB_meets _ _ _ _ _ _
end
end Ev
set_option Elab.async false
set_option linter.all false
set_option maxRecDepth 100000
set_option maxHeartbeats 4000000
namespace Ev
open PySem L2
theorem law_run : LawRun := by
  intro ns hn
  have st : IsState (fnB (gOf (conG kcon) krows.tail.tail.tail.tail.tail.tail.tail.tail.tail.tail) a_l_state_0 1 1) := state_ok _
  have dr : IsDraw (fnB (gOf (conG kcon) krows.tail.tail.tail.tail.tail.tail.tail.tail.tail) a_l_draw_0 6 2) := draw_ok _
  have pk := pick_ok (gOf (conG kcon) krows.tail.tail.tail.tail.tail.tail.tail.tail) rfl dr
  have sm := same_ok (gOf (conG kcon) krows.tail.tail.tail.tail.tail.tail)
  have rs := res_ok (gOf (conG kcon) krows.tail.tail.tail.tail.tail)
  have wd := word_ok (gOf (conG kcon) krows.tail.tail.tail.tail) rfl dr
  have sp := spoil_ok (gOf (conG kcon) krows.tail.tail.tail) rfl dr rfl pk
  have du := due_ok (gOf (conG kcon) krows.tail.tail) rfl rs
  have nm := is_name_ok (gOf (conG kcon) []) rfl rfl rfl
  obtain ⟨s, h⟩ := law_run' (gOf (conG kcon) ktail) rfl st rfl wd rfl pk rfl rs rfl nm rfl du rfl sp rfl sm ns hn
  exact ⟨_, fnB_ret h⟩
end Ev
set_option Elab.async false
open PySem PySem.W PySem.Calls PyProof.Rows
set_option maxRecDepth 100000 in
set_option maxHeartbeats 0 in
theorem PySem.Challenge.cw_elseput_k00_names_of_letters_holds : PySem.Challenge.rw_elseput_k00_names_of_letters.Holds := by
  w_on; o_law
  refine HandSHeadRun.head_any (r := OpenLaw.row PySem.Challenge.rw_elseput_k00_names_of_letters) (q := view (OpenLaw.row PySem.Challenge.rw_elseput_k00_names_of_letters).prog [15]) (H := Ev.hk) (ob := Ev.ob) (M := 3000) (loose := Ev.loose) (d := HandSHeadRun.topDef (OpenLaw.row PySem.Challenge.rw_elseput_k00_names_of_letters).prog 15) (kwd := []) Ev.ob_eq
    (by kernel_rfl) (fun s => by kernel_rfl) Ev.run (by kernel_rfl) (by kernel_rfl) (by kernel_rfl) (by rfl) (by first | assumption | decide +kernel) (by decide +kernel) ⟨rfl, rfl, rfl, rfl, rfl, by decide +kernel⟩ ?hw ?hc
  case hw => w_witness2
  case hc =>
    refine L2.walk_ofE (l := PySem.Challenge.rw_elseput_k00_names_of_letters) (n := 63) (k := Ev.krows.length) (x := "_law_script") (CX := L2.CX0) rfl (by decide) (by kernel_rfl) ⟨rfl, by decide, by decide⟩ ?F (fun _ _ _ _ z => z)
    intro w mg fa h Y G hmg0
    obtain ⟨K, KX, c⟩ := Y
    have hmg : mg ("law" : PySem.Str) = some (.ref fa) := by
      have e : (HandSHeadRun.topDef (OpenLaw.row PySem.Challenge.rw_elseput_k00_names_of_letters).prog 15).name = ("law" : PySem.Str) := by kernel_rfl
      rw [← e]
      exact hmg0
    obtain ⟨fd, hb, sp, hs, hF⟩ := Ev.facts Ev.law_run (P := (PySem.Challenge.rw_elseput_k00_names_of_letters).prog) (w := w) KX G hmg c
    exact ⟨K, fd, sp, KX, hb, hs, hF⟩

