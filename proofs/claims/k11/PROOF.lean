import PyProof.Rows.All
import HandS.ForMost
import HandS.IsInst
import HandS.Evl
import HandS.WideBits
import HandS.Wide
import HandS.Deep
import HandS.TupAny
import HandS.Steps
import KE.KDictWalk
import PyProof.ReprRoads
import HandS.Walk
import HandS.Defaults
import HandS.WordsExc
import HandS.Head2
import HandS.HeadEnd
import HandS.HeadHook2
import PyProof.ReprLen
import PySem.Challenge.RW_movegrants_k11_names_nodes_and_places
set_option Elab.async false
set_option linter.all false
set_option maxRecDepth 100000
set_option maxHeartbeats 0
set_option autoImplicit false
/-! PD: a layer of plain data over the hand layer. A def's meaning is a function on plain data (D) and slots; B is the part of the heap that never changes again. -/
namespace PD
open PySem L2
abbrev Ex (H H' : Hp) : Prop := Evl.Ex H H'
inductive D where
  | non | bl (b : Bool) | int (i : Int) | str (x : Str)
  | lst (xs : List D) | tup (xs : List D) | dic (ks vs : List D)
  | ref (a : Addr) | ty (n : String) | scr (ns : List Int)
mutual
inductive R (K : PySem.W.Frag) (B : Hp) : V → D → Prop
  | non : R K B .non .non
  | bl (b : Bool) : R K B (.bl b) (.bl b)
  | int (i : Int) : R K B (.int i) (.int i)
  | str (x : Str) : R K B (.str x) (.str x)
  | ty (n : String) : R K B (.ty n) (.ty n)
  | ref (a : Addr) : R K B (.ref a) (.ref a)
  | scr {a : Addr} {ns : List Int} : SqL K B a (ns.map V.int) → R K B (.ref a) (.scr ns)
  | lst {a : Addr} {vs : List V} {ds : List D} : B a = some (.lst vs) → RA K B vs ds → R K B (.ref a) (.lst ds)
  | tup {a : Addr} {vs : List V} {ds : List D} : SqT K B a vs → RA K B vs ds → R K B (.ref a) (.tup ds)
  | dic {a : Addr} {kvs : List (Key × V)} {ks vs : List D} : B a = some (.dK kvs) → RA K B (kvs.map fun p => kV p.1) ks → RA K B (kvs.map (·.2)) vs → R K B (.ref a) (.dic ks vs)
inductive RA (K : PySem.W.Frag) (B : Hp) : List V → List D → Prop
  | nil : RA K B [] []
  | cons {v : V} {vs : List V} {d : D} {ds : List D} : R K B v d → RA K B vs ds → RA K B (v :: vs) (d :: ds)
end
section
variable {K : PySem.W.Frag} {B B' : Hp}
mutual
theorem R.mono (e : Ex B B') : ∀ {v : V} {d : D}, R K B v d → R K B' v d
  | _, _, .non => .non
  | _, _, .bl b => .bl b
  | _, _, .int i => .int i
  | _, _, .str x => .str x
  | _, _, .ty n => .ty n
  | _, _, .ref a => .ref a
  | _, _, .scr h => .scr (Evl.ex_l e h)
  | _, _, .lst h r => .lst (e _ _ h) (RA.mono e r)
  | _, _, .tup h r => .tup (Evl.ex_t e h) (RA.mono e r)
  | _, _, .dic h r q => .dic (e _ _ h) (RA.mono e r) (RA.mono e q)
theorem RA.mono (e : Ex B B') : ∀ {vs : List V} {ds : List D}, RA K B vs ds → RA K B' vs ds
  | _, _, .nil => .nil
  | _, _, .cons h r => .cons (R.mono e h) (RA.mono e r)
end
theorem RA.length : ∀ {vs : List V} {ds : List D}, RA K B vs ds → vs.length = ds.length
  | _, _, .nil => rfl
  | _, _, .cons _ r => congrArg (· + 1) (RA.length r)
theorem RA.get : ∀ {vs : List V} {ds : List D} {i : Nat} {d : D}, RA K B vs ds → ds[i]? = some d → ∃ v, vs[i]? = some v ∧ R K B v d
  | _, _, 0, _, .cons h _, e => by
    have e := Option.some.inj e
    subst e
    exact ⟨_, rfl, h⟩
  | _, _, i + 1, d, .cons _ r, e => RA.get (i := i) r e
theorem RA.get' : ∀ {vs : List V} {ds : List D} {i : Nat} {v : V}, RA K B vs ds → vs[i]? = some v → ∃ d, ds[i]? = some d ∧ R K B v d
  | _, _, 0, _, .cons h _, e => by
    have e := Option.some.inj e
    subst e
    exact ⟨_, rfl, h⟩
  | _, _, i + 1, d, .cons _ r, e => RA.get' (i := i) r e
theorem RA.append : ∀ {vs us : List V} {ds es : List D}, RA K B vs ds → RA K B us es → RA K B (vs ++ us) (ds ++ es)
  | _, _, _, _, .nil, q => q
  | _, _, _, _, .cons h r, q => .cons h (RA.append r q)
theorem RA.take : ∀ (n : Nat) {vs : List V} {ds : List D}, RA K B vs ds → RA K B (vs.take n) (ds.take n)
  | 0, _, _, _ => .nil
  | _ + 1, _, _, .nil => .nil
  | n + 1, _, _, .cons h r => .cons h (RA.take n r)
theorem RA.drop : ∀ (n : Nat) {vs : List V} {ds : List D}, RA K B vs ds → RA K B (vs.drop n) (ds.drop n)
  | 0, _, _, r => r
  | _ + 1, _, _, .nil => .nil
  | n + 1, _, _, .cons _ r => RA.drop n r
theorem RA.set : ∀ (n : Nat) {v : V} {d : D} {vs : List V} {ds : List D}, RA K B vs ds → R K B v d → RA K B (vs.set n v) (ds.set n d)
  | _, _, _, _, _, .nil, _ => .nil
  | 0, _, _, _, _, .cons _ r, q => .cons q r
  | n + 1, _, _, _, _, .cons h r, q => .cons h (RA.set n r q)
theorem RA.one {v : V} {d : D} (h : R K B v d) : RA K B [v] [d] := .cons h .nil
end
/-- slots: unknown; data for ever; a list or dict of this frame's own; one handed in to be changed -/
inductive Slot where
  | no | dat (d : D) | own (d : D) | io (d : D)
def Slot.mu : Slot → Prop
  | .own _ => True
  | .io _ => True
  | _ => False
abbrev Rho := List Slot
def Own (K : PySem.W.Frag) (B H : Hp) (p : Addr) : D → Prop
  | .lst ds => ∃ vs, H p = some (.lst vs) ∧ RA K B vs ds
  | .dic ks vs => ∃ kvs : List (Key × V), H p = some (.dK kvs) ∧ RA K B (kvs.map fun q => kV q.1) ks ∧ RA K B (kvs.map (·.2)) vs
  | _ => False
def SlotOk (K : PySem.W.Frag) (B H : Hp) : Slot → Option V → Prop
  | .no, _ => True
  | .dat d, o => ∃ v, o = some v ∧ R K B v d
  | .own d, o => ∃ p, o = some (.ref p) ∧ B p = none ∧ Own K B H p d
  | .io d, o => ∃ p, o = some (.ref p) ∧ B p = none ∧ Own K B H p d
theorem Own.there {K : PySem.W.Frag} {B H : Hp} {p : Addr} {d : D} (h : Own K B H p d) : ∃ o, H p = some o := by
  cases d <;> first | exact h.elim | (obtain ⟨vs, e, _⟩ := h; exact ⟨_, e⟩)
theorem Own.move {K : PySem.W.Frag} {B H B' H' : Hp} {p : Addr} {d : D} (h : Own K B H p d) (e : Ex B B') (k : ∀ o, H p = some o → H' p = some o) : Own K B' H' p d := by
  cases d with
  | lst ds => obtain ⟨vs, a, b⟩ := h; exact ⟨vs, k _ a, b.mono e⟩
  | dic ks vs => obtain ⟨kvs, a, b, c⟩ := h; exact ⟨kvs, k _ a, b.mono e, c.mono e⟩
  | _ => exact h.elim
def ownAt (ρ : Rho) (σ : St) (b : Addr) : Prop := ∃ (i : Nat) (s : Slot), ρ[i]? = some s ∧ s.mu ∧ σ[i]? = some (some (V.ref b))
structure Sta (K : PySem.W.Frag) (B : Hp) (ρ : Rho) (σ : St) (H : Hp) : Prop where
  bh : Ex B H
  len : σ.length = ρ.length
  sl : ∀ (i : Nat) (s : Slot), ρ[i]? = some s → SlotOk K B H s (σ[i]?).join
  dj : ∀ (i j : Nat) (s t : Slot) (p : Addr), ρ[i]? = some s → ρ[j]? = some t → s.mu → t.mu → σ[i]? = some (some (.ref p)) → σ[j]? = some (some (.ref p)) → i = j
structure Adv (O : Addr → Prop) (B H B' H' : Hp) : Prop where
  ex : Ex B B'
  nw : ∀ b o, B' b = some o → B b = some o ∨ H b = none ∨ O b
  fr : ∀ b o, H b = some o → ¬ O b → H' b = some o
  al : ∀ b o, H b = some o → ∃ u, H' b = some u
theorem Adv.refl {O : Addr → Prop} {B H : Hp} : Adv O B H B H := ⟨fun _ _ e => e, fun _ _ e => .inl e, fun _ _ e _ => e, fun _ o e => ⟨o, e⟩⟩
theorem Adv.trans {O O' : Addr → Prop} {B H B1 H1 B2 H2 : Hp} (a : Adv O B H B1 H1) (b : Adv O' B1 H1 B2 H2) (s : ∀ x, O' x → O x ∨ H x = none) : Adv O B H B2 H2 where
  ex := a.ex.trans b.ex
  nw := fun x o e => by
    rcases b.nw x o e with e | e | e
    · exact a.nw x o e
    · by_cases h : O x
      · exact .inr (.inr h)
      · cases q : H x with
        | none => exact .inr (.inl rfl)
        | some u => rw [a.fr x u q h] at e; cases e
    · rcases s x e with h | h
      · exact .inr (.inr h)
      · exact .inr (.inl h)
  fr := fun x o e h => b.fr x o (a.fr x o e h) fun z => by
    rcases s x z with z | z
    · exact h z
    · rw [e] at z; cases z
  al := fun x o e => let ⟨u, e1⟩ := a.al x o e; b.al x u e1
/-- own slots stay the same kind or are let go; what was handed in stays so -/
structure Le (ρ ρ' : Rho) : Prop where
  mu : ∀ (i : Nat) (s : Slot), ρ'[i]? = some s → s.mu → ∃ t, ρ[i]? = some t ∧ t.mu
  io : ∀ (i : Nat) (d : D), ρ[i]? = some (.io d) → ∃ d', ρ'[i]? = some (.io d')
  len : ρ'.length = ρ.length
theorem Le.refl (ρ : Rho) : Le ρ ρ := ⟨fun _ s e m => ⟨s, e, m⟩, fun _ d e => ⟨d, e⟩, rfl⟩
theorem Le.trans {a b c : Rho} (x : Le a b) (y : Le b c) : Le a c :=
  ⟨fun i s e m => let ⟨t, e', m'⟩ := y.mu i s e m; x.mu i t e' m', fun i d e => let ⟨d', e'⟩ := x.io i d e; y.io i d' e', y.len.trans x.len⟩
theorem Le.own {ρ ρ' : Rho} {σ : St} (l : Le ρ ρ') {b : Addr} (h : ownAt ρ' σ b) : ownAt ρ σ b := by
  obtain ⟨i, s, e, m, v⟩ := h
  obtain ⟨t, e', m'⟩ := l.mu i s e m
  exact ⟨i, t, e', m', v⟩
/-- a step of the frame whose slots are σ -/
structure Stp (K : PySem.W.Frag) (σ : St) (ρ : Rho) (B H : Hp) (ρ' : Rho) (B' H' : Hp) : Prop where
  st : Sta K B' ρ' σ H'
  adv : Adv (ownAt ρ σ) B H B' H'
  le : Le ρ ρ'
theorem Stp.refl {K : PySem.W.Frag} {σ : St} {ρ : Rho} {B H : Hp} (s : Sta K B ρ σ H) : Stp K σ ρ B H ρ B H := ⟨s, .refl, .refl ρ⟩
theorem Stp.trans {K : PySem.W.Frag} {σ : St} {ρ ρ1 ρ2 : Rho} {B H B1 H1 B2 H2 : Hp} (a : Stp K σ ρ B H ρ1 B1 H1) (b : Stp K σ ρ1 B1 H1 ρ2 B2 H2) : Stp K σ ρ B H ρ2 B2 H2 :=
  ⟨b.st, a.adv.trans b.adv fun _ h => .inl (a.le.own h), a.le.trans b.le⟩
section
variable {K : PySem.W.Frag} {B H : Hp} {ρ : Rho} {σ : St} {p : Addr} {o : HO}
theorem Sta.there (S : Sta K B ρ σ H) (h : ownAt ρ σ p) : B p = none ∧ ∃ u, H p = some u := by
  obtain ⟨i, s, e, m, v⟩ := h
  have q := S.sl i s e
  rw [v] at q
  cases s with
  | no => exact m.elim
  | dat d => exact m.elim
  | own d => obtain ⟨p', e', n, w⟩ := q; cases e'; exact ⟨n, w.there⟩
  | io d => obtain ⟨p', e', n, w⟩ := q; cases e'; exact ⟨n, w.there⟩
theorem Sta.notown (S : Sta K B ρ σ H) (h : H p = none) : ¬ ownAt ρ σ p := fun z => by
  obtain ⟨_, u, e⟩ := S.there z
  rw [h] at e; cases e
theorem Sta.bnone (S : Sta K B ρ σ H) (h : H p = none) : B p = none := by
  cases q : B p with
  | none => rfl
  | some u => rw [S.bh p u q] at h; cases h
/-- slots carried over: B grows, the own cells stay -/
theorem Sta.move {B' H' : Hp} (S : Sta K B ρ σ H) (bh : Ex B' H') (ex : Ex B B') (k : ∀ b u, ownAt ρ σ b → H b = some u → H' b = some u) (n : ∀ b, ownAt ρ σ b → B' b = none) : Sta K B' ρ σ H' where
  bh := bh
  len := S.len
  sl := fun i s e => by
    have q := S.sl i s e
    cases s with
    | no => trivial
    | dat d => obtain ⟨v, e1, r⟩ := q; exact ⟨v, e1, r.mono ex⟩
    | own d =>
      obtain ⟨b, e1, _, w⟩ := q
      have ow : ownAt ρ σ b := ⟨i, _, e, trivial, by cases z : σ[i]? with
        | none => rw [z] at e1; cases e1
        | some y => rw [z] at e1; exact congrArg some e1⟩
      exact ⟨b, e1, n b ow, w.move ex fun u => k b u ow⟩
    | io d =>
      obtain ⟨b, e1, _, w⟩ := q
      have ow : ownAt ρ σ b := ⟨i, _, e, trivial, by cases z : σ[i]? with
        | none => rw [z] at e1; cases e1
        | some y => rw [z] at e1; exact congrArg some e1⟩
      exact ⟨b, e1, n b ow, w.move ex fun u => k b u ow⟩
  dj := S.dj
theorem ex_upd {B H : Hp} (e : Ex B H) (h : B p = none) : Ex B (upd H p o) := fun a u ha => by
  rw [upd_ne (ne_of_none ha h)]
  exact e a u ha
theorem ex_upd2 {B H : Hp} (e : Ex B H) : Ex (upd B p o) (upd H p o) := fun a u ha => by
  by_cases h : a = p
  · subst h; rw [upd_same] at ha ⊢; exact ha
  · rw [upd_ne h] at ha ⊢; exact e a u ha
/-- a new object, frozen at once -/
theorem Sta.laid (S : Sta K B ρ σ H) (h : H p = none) : Stp K σ ρ B H ρ (upd B p o) (upd H p o) := by
  have hb := S.bnone h
  refine ⟨S.move (ex_upd2 S.bh) (Evl.Ex.new hb) (fun b u ow e => ?_) (fun b ow => ?_), ⟨Evl.Ex.new hb, fun b u e => ?_, fun b u e _ => ?_, fun b u e => ⟨u, by rw [upd_ne (ne_of_none e h)]; exact e⟩⟩, .refl ρ⟩
  · rw [upd_ne (ne_of_none e h)]; exact e
  · obtain ⟨n, u, e⟩ := S.there ow
    rw [upd_ne (ne_of_none e h)]; exact n
  · by_cases z : b = p
    · subst z; exact .inr (.inl h)
    · rw [upd_ne z] at e; exact .inl e
  · rw [upd_ne (ne_of_none e h)]; exact e
/-- a new object, not frozen -/
theorem Sta.temp (S : Sta K B ρ σ H) (h : H p = none) : Stp K σ ρ B H ρ B (upd H p o) := by
  have hb := S.bnone h
  refine ⟨S.move (ex_upd S.bh hb) (fun _ _ e => e) (fun b u ow e => ?_) (fun b ow => (S.there ow).1), ⟨fun _ _ e => e, fun b u e => .inl e, fun b u e _ => ?_, fun b u e => ⟨u, by rw [upd_ne (ne_of_none e h)]; exact e⟩⟩, .refl ρ⟩
  · rw [upd_ne (ne_of_none e h)]; exact e
  · rw [upd_ne (ne_of_none e h)]; exact e
/-- a cell outside B and the slots is frozen -/
theorem Sta.freeze (S : Sta K B ρ σ H) (hb : B p = none) (hp : H p = some o) (no : ¬ ownAt ρ σ p) : Sta K (upd B p o) ρ σ H := by
  refine S.move (fun b u e => ?_) (Evl.Ex.new hb) (fun b u _ e => e) (fun b ow => ?_)
  · by_cases z : b = p
    · subst z; rw [upd_same] at e; cases e; exact hp
    · rw [upd_ne z] at e; exact S.bh b u e
  · by_cases z : b = p
    · subst z; exact (no ow).elim
    · rw [upd_ne z]; exact (S.there ow).1
end
theorem Adv.back {O : Addr → Prop} {B H B' H' : Hp} (a : Adv O B H B' H') {p : Addr} (h : H' p = none) : H p = none := by
  cases q : H p with
  | none => rfl
  | some o =>
    obtain ⟨u, e⟩ := a.al p o q
    rw [h] at e; cases e
end PD
namespace PD
open PySem L2
inductive Out (α : Type) where
  | ok (a : α) (ρ : Rho) | exc (C : Addr) (fs : List (Str × D)) (ρ : Rho) | bad
abbrev M (α : Type) := Rho → Out α
def ret {α : Type} (a : α) : M α := fun ρ => .ok a ρ
def bnd {α β : Type} (x : M α) (f : α → M β) : M β := fun ρ => match x ρ with
  | .ok a ρ' => f a ρ'
  | .exc C fs ρ' => .exc C fs ρ'
  | .bad => .bad
def opt {α : Type} (o : Option α) : M α := fun ρ => match o with
  | some d => .ok d ρ
  | none => .bad
def RF (K : PySem.W.Frag) (B : Hp) (vfs : List (Str × V)) (fs : List (Str × D)) : Prop := vfs.map (·.1) = fs.map (·.1) ∧ RA K B (vfs.map (·.2)) (fs.map (·.2))
/-- what is wanted behind an outcome -/
def Aft {α : Type} (K : PySem.W.Frag) (E : XK) (σ : St) (ρ : Rho) (B H : Hp) (o : Out α) (Q : α → Rho → Hp → Hp → Prop) : Prop := match o with
  | .ok a ρ' => ∀ B' H', Stp K σ ρ B H ρ' B' H' → Q a ρ' B' H'
  | .exc C fs ρ' => ∀ dx vfs B' H', Stp K σ ρ B H ρ' B' H' → H' dx = some (.xd vfs) → RF K B' vfs fs → E (.ref C) (some dx) H'
  | .bad => False
section
variable {α β : Type} {K : PySem.W.Frag} {E : XK} {σ : St} {ρ : Rho} {B H : Hp}
theorem Aft.bind {x : M α} {f : α → M β} {Q : β → Rho → Hp → Hp → Prop} (h : Aft K E σ ρ B H (bnd x f ρ) Q) : Aft K E σ ρ B H (x ρ) fun a ρ1 B1 H1 => Aft K E σ ρ1 B1 H1 (f a ρ1) Q := by
  unfold bnd at h
  cases e : x ρ with
  | bad => rw [e] at h; exact h
  | exc C fs ρ' => rw [e] at h; exact h
  | ok a ρ1 =>
    rw [e] at h
    intro B1 H1 s1
    show Aft K E σ ρ1 B1 H1 (f a ρ1) Q
    have h : Aft K E σ ρ B H (f a ρ1) Q := h
    cases e2 : f a ρ1 with
    | bad => rw [e2] at h; exact h
    | exc C fs ρ2 => rw [e2] at h; exact fun dx vfs B2 H2 s2 => h dx vfs B2 H2 (s1.trans s2)
    | ok b ρ2 => rw [e2] at h; exact fun B2 H2 s2 => h B2 H2 (s1.trans s2)
theorem Aft.mono {o : Out α} {Q Q' : α → Rho → Hp → Hp → Prop} (h : Aft K E σ ρ B H o Q) (m : ∀ a ρ' B' H', Stp K σ ρ B H ρ' B' H' → Q a ρ' B' H' → Q' a ρ' B' H') : Aft K E σ ρ B H o Q' := by
  cases o with
  | bad => exact h
  | exc C fs ρ' => exact h
  | ok a ρ' => exact fun B' H' s => m a ρ' B' H' s (h B' H' s)
theorem Aft.opt {o : Option α} {Q : α → Rho → Hp → Hp → Prop} (h : Aft K E σ ρ B H (opt o ρ) Q) (S : Sta K B ρ σ H) : ∃ d, o = some d ∧ Q d ρ B H := by
  cases o with
  | none => exact h.elim
  | some d => exact ⟨d, rfl, h B H (.refl S)⟩
theorem Aft.opt' {o : Option α} {Q : α → Rho → Hp → Hp → Prop} (h : Aft K E σ ρ B H (PD.opt o ρ) Q) : ∃ d, o = some d ∧ ∀ B' H', Stp K σ ρ B H ρ B' H' → Q d ρ B' H' := by
  cases o with
  | none => exact h.elim
  | some d => exact ⟨d, rfl, h⟩
end
/-- the reading of an expression that means f -/
def tE (K : PySem.W.Frag) (E : XK) (f : M D) : TE := fun σ H Q => ∃ B ρ, Sta K B ρ σ H ∧ Aft K E σ ρ B H (f ρ) fun d _ B' H' => ∀ v, R K B' v d → Q v H'
/-- a new list or dict that is nobody's yet -/
def tN (K : PySem.W.Frag) (E : XK) (f : M D) : TE := fun σ H Q => ∃ B ρ, Sta K B ρ σ H ∧ Aft K E σ ρ B H (f ρ) fun d ρ' B' H' => ∀ p, H p = none → B' p = none → Own K B' H' p d → Q (.ref p) H'
def tT (K : PySem.W.Frag) (E : XK) (f : M Bool) : TT := fun σ H Q => ∃ B ρ, Sta K B ρ σ H ∧ Aft K E σ ρ B H (f ρ) fun b _ _ H' => Q b H'
def tAs (K : PySem.W.Frag) (E : XK) (f : M (List D)) : TA := fun σ H Q => ∃ B ρ, Sta K B ρ σ H ∧ Aft K E σ ρ B H (f ρ) fun ds _ B' H' => ∀ vs, RA K B' vs ds → Q vs H'
theorem PE.imp {X : Cx} {e : Expr} {t t' : TE} (h : PE X e t) (m : ∀ σ H Q, t' σ H Q → t σ H Q) : PE X e t' := ⟨fun pins s σ H Q I q => h.run pins s σ H Q I (m σ H Q q)⟩
theorem PT.imp {X : Cx} {e : Expr} {t t' : TT} (h : PT X e t) (m : ∀ σ H Q, t' σ H Q → t σ H Q) : PT X e t' := ⟨fun pins s σ H Q I q => h.run pins s σ H Q I (m σ H Q q)⟩
theorem PW.imp {X : Cx} {e : Expr} {t t' : TT} (h : PW X e t) (m : ∀ σ H Q, t' σ H Q → t σ H Q) : PW X e t' := ⟨fun w pins s σ H Q I q => h.run w pins s σ H Q I (m σ H Q q)⟩
theorem PA.imp {X : Cx} {es : List Expr} {t t' : TA} (h : PA X es t) (m : ∀ σ H Q, t' σ H Q → t σ H Q) : PA X es t' := ⟨fun pos pins s σ H Q I q => h.run pos pins s σ H Q I (m σ H Q q)⟩
theorem PS.imp {X : Cx} {st : Stmt} {t t' : TS} (h : PS X st t) (m : ∀ D σ H, t' D σ H → t D σ H) : PS X st t' := ⟨fun pins s σ H D I q => h.run pins s σ H D I (m D σ H q)⟩
theorem PSs.imp {X : Cx} {st : List Stmt} {t t' : TS} (h : PSs X st t) (m : ∀ D σ H, t' D σ H → t D σ H) : PSs X st t' := ⟨fun pins s σ H D I q => h.run pins s σ H D I (m D σ H q)⟩
section
variable {X : Cx} {E : XK}
/-- a slot that holds data -/
def rdS (i : Nat) : M D := fun ρ => match ρ[i]? with
  | some (.dat d) => .ok d ρ
  | _ => .bad
theorem join_some {σ : St} {i : Nat} {v : V} (e : (σ[i]?).join = some v) : σ[i]? = some (some v) := by
  cases z : σ[i]? with
  | none => rw [z] at e; cases e
  | some y => rw [z] at e; exact congrArg some e
theorem var {e : Expr} (i : Nat) (h : PE X e (tVar i)) : PE X e (tE X.K E (rdS i)) := PE.imp h fun σ H Q ⟨B, ρ, S, a⟩ => by
  unfold rdS at a
  cases z : ρ[i]? with
  | none => rw [z] at a; exact a.elim
  | some s =>
    rw [z] at a
    cases s with
    | dat d =>
      obtain ⟨v, e, r⟩ := S.sl i _ z
      exact ⟨v, join_some e, a B H (.refl S) v r⟩
    | no => exact a.elim
    | own d => exact a.elim
    | io d => exact a.elim
/-- a constant of the text or of the module -/
theorem cst {e : Expr} {v : V} {d : D} (h : PE X e (tC v)) (r : ∀ B : Hp, R X.K B v d) : PE X e (tE X.K E (ret d)) := PE.imp h fun σ H Q ⟨B, ρ, S, a⟩ => a B H (.refl S) v (r B)
theorem cInt {i j pos} : PE X (.Constant (.int i) j pos) (tE X.K E (ret (.int i))) := cst pe_int fun _ => .int i
theorem cStr {x j pos} : PE X (.Constant (.str x) j pos) (tE X.K E (ret (.str x))) := cst pe_str fun _ => .str x
theorem cBl {b j pos} : PE X (.Constant (.bool b) j pos) (tE X.K E (ret (.bl b))) := cst pe_bl fun _ => .bl b
theorem cNon {j pos} : PE X (.Constant .none j pos) (tE X.K E (ret .non)) := cst pe_non fun _ => .non
/-- two operands, then a step by values -/
def bin2 (fa fb : M D) (g : D → D → M D) : M D := bnd fa fun x => bnd fb fun y => g x y
def OpD (K : PySem.W.Frag) (E : XK) (r : R2) (g : D → D → M D) : Prop := ∀ (σ : St) (ρ : Rho) (B H : Hp) (v1 v2 : V) (d1 d2 : D) (Q : VK), Sta K B ρ σ H → R K B v1 d1 → R K B v2 d2 →
  Aft K E σ ρ B H (g d1 d2 ρ) (fun d _ B' H' => ∀ v, R K B' v d → Q v H') → r v1 v2 H Q
theorem two {ta tb : TE} {fa fb : M D} {r : R2} {g : D → D → M D} (hr : OpD X.K E r g) (ha : ta = tE X.K E fa) (hb : tb = tE X.K E fb) : ∀ σ H Q, tE X.K E (bin2 fa fb g) σ H Q → tOp r ta tb σ H Q := fun σ H Q ⟨B, ρ, S, a⟩ => by
  subst ha; subst hb
  refine ⟨B, ρ, S, a.bind.mono fun d1 ρ1 B1 H1 s1 a1 v1 r1 => ?_⟩
  refine ⟨B1, ρ1, s1.st, a1.bind.mono fun d2 ρ2 B2 H2 s2 a2 v2 r2 => ?_⟩
  exact hr σ ρ2 B2 H2 v1 v2 d1 d2 Q s2.st (r1.mono s2.adv.ex) r2 a2
variable {a b c : Expr} {fa fb fc : M D} {pos : Pos}
theorem eOp {op : Operator} {r : R2} {g : D → D → M D} (ho : OpR X (binaryOp op) r) (hr : OpD X.K E r g) (ha : PE X a (tE X.K E fa)) (hb : PE X b (tE X.K E fb)) : PE X (.BinOp a op b pos) (tE X.K E (bin2 fa fb g)) :=
  PE.imp (pe_op ho ha hb) (two hr rfl rfl)
theorem eCmp {op : CmpOp} {r : R2} {g : D → D → M D} (ho : OpR X (compareOp op) r) (hr : OpD X.K E r g) (ha : PE X a (tE X.K E fa)) (hb : PE X b (tE X.K E fb)) (hm : behindInMarks op b = false) : PE X (.Compare a [op] [b] pos) (tE X.K E (bin2 fa fb g)) :=
  PE.imp (pe_cmpR ho ha hb hm) (two hr rfl rfl)
/-- one operand -/
def UnD (K : PySem.W.Frag) (E : XK) (r : V → Hp → VK → Prop) (g : D → M D) : Prop := ∀ (σ : St) (ρ : Rho) (B H : Hp) (v1 : V) (d1 : D) (Q : VK), Sta K B ρ σ H → R K B v1 d1 →
  Aft K E σ ρ B H (g d1 ρ) (fun d _ B' H' => ∀ v, R K B' v d → Q v H') → r v1 H Q
theorem eUn {op : UnaryOp} {r : V → Hp → VK → Prop} {g : D → M D} (ho : UnR X (unaryOp op) r) (hr : UnD X.K E r g) (ha : PE X a (tE X.K E fa)) : PE X (.UnaryOp op a pos) (tE X.K E (bnd fa g)) :=
  PE.imp (pe_un ho ha) fun σ H Q ⟨B, ρ, S, h⟩ => ⟨B, ρ, S, h.bind.mono fun d1 ρ1 B1 H1 s1 a1 v1 r1 => hr σ ρ1 B1 H1 v1 d1 Q s1.st r1 a1⟩
/-! ### arithmetic -/
theorem OpD.opt {K : PySem.W.Frag} {r : R2} {g : D → D → Option D} (h : ∀ (B H : Hp) (v1 v2 : V) (d1 d2 d : D) (Q : VK), Ex B H → R K B v1 d1 → R K B v2 d2 → g d1 d2 = some d → (∀ v, R K B v d → Q v H) → r v1 v2 H Q) : OpD K E r (fun x y => PD.opt (g x y)) :=
  fun σ ρ B H v1 v2 d1 d2 Q S r1 r2 a => by
    obtain ⟨d, e, q⟩ := Aft.opt a S
    exact h B H v1 v2 d1 d2 d Q S.bh r1 r2 e q
def dSub : D → D → Option D
  | .int i, .int j => some (.int (i - j))
  | _, _ => none
theorem oSub : OpD X.K E (rI0 fun i j => .int (i - j)) (fun x y => opt (dSub x y)) := OpD.opt fun B H v1 v2 d1 d2 d Q _ r1 r2 e q => by
  cases r1 <;> cases r2 <;> cases e
  exact ⟨_, _, rfl, rfl, q _ (.int _)⟩
def dMul : D → D → Option D
  | .int i, .int j => if (-(2 ^ 64) < i ∧ i < 2 ^ 64) ∨ (-(2 ^ 64) < j ∧ j < 2 ^ 64) then some (.int (i * j)) else none
  | _, _ => none
theorem oMul : OpD X.K E (rI CMul fun i j => .int (i * j)) (fun x y => opt (dMul x y)) := OpD.opt fun B H v1 v2 d1 d2 d Q _ r1 r2 e q => by
  cases r1 <;> cases r2 <;> simp only [dMul, reduceCtorEq] at e
  split at e
  · rename_i h
    cases e
    exact ⟨_, _, rfl, rfl, h, q _ (.int _)⟩
  · cases e
def dFdiv : D → D → Option D
  | .int i, .int j => if 0 < j ∧ j < 1073741824 then some (.int (i / j)) else none
  | _, _ => none
theorem oFdiv : OpD X.K E (rI CDiv fun i j => .int (i / j)) (fun x y => opt (dFdiv x y)) := OpD.opt fun B H v1 v2 d1 d2 d Q _ r1 r2 e q => by
  cases r1 <;> cases r2 <;> simp only [dFdiv, reduceCtorEq] at e
  split at e
  · rename_i h
    cases e
    exact ⟨_, _, rfl, rfl, h, q _ (.int _)⟩
  · cases e
def dMod : D → D → Option D
  | .int i, .int j => if 0 < j then some (.int (i % j)) else none
  | _, _ => none
theorem oMod : OpD X.K E (rI (fun _ j => 0 < j) fun i j => .int (i % j)) (fun x y => opt (dMod x y)) := OpD.opt fun B H v1 v2 d1 d2 d Q _ r1 r2 e q => by
  cases r1 <;> cases r2 <;> simp only [dMod, reduceCtorEq] at e
  split at e
  · rename_i h
    cases e
    exact ⟨_, _, rfl, rfl, h, q _ (.int _)⟩
  · cases e
def dPow : D → D → Option D
  | .int i, .int j => if 0 ≤ j ∧ j ≤ 1000000 ∧ i.natAbs < 2 ^ 64 then some (.int (i ^ j.toNat)) else none
  | _, _ => none
theorem oPow : OpD X.K E (rI CPow fun i j => .int (i ^ j.toNat)) (fun x y => opt (dPow x y)) := OpD.opt fun B H v1 v2 d1 d2 d Q _ r1 r2 e q => by
  cases r1 <;> cases r2 <;> simp only [dPow, reduceCtorEq] at e
  split at e
  · rename_i h
    cases e
    exact ⟨_, _, rfl, rfl, h, q _ (.int _)⟩
  · cases e
def dNeg : D → Option D
  | .int i => some (.int (-i))
  | _ => none
theorem oNeg : UnD X.K E (rU fun i => .int (-i)) (fun x => opt (dNeg x)) := fun σ ρ B H v1 d1 Q S r1 a => by
  obtain ⟨d, e, q⟩ := Aft.opt a S
  cases r1 <;> cases e
  exact ⟨_, rfl, q _ (.int _)⟩
end
end PD
namespace PD
open PySem L2
/-! ### as the library's data -/
mutual
def D.py : D → Option PyData
  | .non => some .none
  | .bl b => some (.bool b)
  | .int i => some (.int i)
  | .str x => some (.str x)
  | .lst xs => (pyAll xs).map .list
  | .tup xs => (pyAll xs).map .tuple
  | .dic _ _ => none
  | .ref _ => none
  | .ty _ => none
  | .scr _ => none
def pyAll : List D → Option (List PyData)
  | [] => some []
  | x :: xs => match x.py, pyAll xs with
    | some p, some ps => some (p :: ps)
    | _, _ => none
end
theorem pyAll_cons {x : D} {xs : List D} {ps : List PyData} (q : pyAll (x :: xs) = some ps) : ∃ p ps', x.py = some p ∧ pyAll xs = some ps' ∧ ps = p :: ps' := by
  simp only [pyAll] at q
  cases z : x.py with
  | none => rw [z] at q; cases q
  | some p =>
    cases z2 : pyAll xs with
    | none => rw [z, z2] at q; cases q
    | some ps' => rw [z, z2] at q; exact ⟨p, ps', rfl, rfl, (Option.some.inj q).symm⟩
mutual
theorem R.dp' {K : PySem.W.Frag} {B H : Hp} (e : Ex B H) : ∀ (d : D) (v : V) (p : PyData), R K B v d → d.py = some p → Dp K H v p
  | .non, _, _, r, q => by simp only [D.py] at q; cases q; cases r; exact .non
  | .bl b, _, _, r, q => by simp only [D.py] at q; cases q; cases r; exact .bl b
  | .int i, _, _, r, q => by simp only [D.py] at q; cases q; cases r; exact .int i
  | .str x, _, _, r, q => by simp only [D.py] at q; cases q; cases r; exact .str x
  | .lst ds, _, _, r, q => by
    simp only [D.py] at q
    obtain ⟨ps, z, rfl⟩ := Option.map_eq_some_iff.mp q
    cases r with
    | lst h r => exact .lst (SqL.of (e _ _ h)) (RA.dp' e ds _ ps r z)
  | .tup ds, _, _, r, q => by
    simp only [D.py] at q
    obtain ⟨ps, z, rfl⟩ := Option.map_eq_some_iff.mp q
    cases r with
    | tup h r => exact .tup (Evl.ex_t e h) (RA.dp' e ds _ ps r z)
  | .dic _ _, _, _, _, q => by simp only [D.py] at q; cases q
  | .ref _, _, _, _, q => by simp only [D.py] at q; cases q
  | .ty _, _, _, _, q => by simp only [D.py] at q; cases q
  | .scr _, _, _, _, q => by simp only [D.py] at q; cases q
theorem RA.dp' {K : PySem.W.Frag} {B H : Hp} (e : Ex B H) : ∀ (ds : List D) (vs : List V) (ps : List PyData), RA K B vs ds → pyAll ds = some ps → DpAll K H vs ps
  | [], _, _, r, q => by simp only [pyAll] at q; cases q; cases r; exact .nil
  | d :: ds, _, _, r, q => by
    obtain ⟨p, ps', z, z2, rfl⟩ := pyAll_cons q
    cases r with
    | cons h r => exact .cons (R.dp' e d _ p h z) (RA.dp' e ds _ ps' r z2)
end
theorem R.dp {K : PySem.W.Frag} {B H : Hp} (e : Ex B H) {v : V} {d : D} {p : PyData} (r : R K B v d) (q : d.py = some p) : Dp K H v p := R.dp' e d v p r q
section
variable {X : Cx} {E : XK} {a b c : Expr} {fa fb fc : M D} {pos : Pos}
/-! ### tests -/
def asB (f : M D) : M Bool := bnd f fun d => opt (match d with
  | .bl b => some b
  | _ => none)
theorem asB_of {f : M D} {σ : St} {H : Hp} {Q : Bool → Hp → Prop} (h : tT X.K E (asB f) σ H Q) : tE X.K E f σ H fun x H' => ∃ k, x = .bl k ∧ Q k H' := by
  obtain ⟨B, ρ, S, h⟩ := h
  refine ⟨B, ρ, S, h.bind.mono fun d ρ1 B1 H1 s1 a1 v r => ?_⟩
  obtain ⟨k, e, q⟩ := Aft.opt a1 s1.st
  cases r <;> cases e
  exact ⟨_, rfl, q⟩
theorem tVal {f : M D} (h : PE X a (tE X.K E f)) (he : ∀ whole, isTrue a X.env whole = (do let v ← whole; standAt a.pos; holding [v] (truthy v)) := by intro _; rfl) : PT X a (tT X.K E (asB f)) :=
  PT.imp (pt_val h he) fun σ H Q q => asB_of q
theorem tCmp {op : CmpOp} {r : R2} {g : D → D → M D} (ho : OpR X (compareOp op) r) (hr : OpD X.K E r g) (ha : PE X a (tE X.K E fa)) (hb : PE X b (tE X.K E fb)) (hm : behindInMarks op b = false) : PT X (.Compare a [op] [b] pos) (tT X.K E (asB (bin2 fa fb g))) :=
  PT.imp (pt_cmpR ho ha hb hm) fun σ H Q q => two hr rfl rfl σ H _ (asB_of q)
def chn (fa fb fc : M D) (g g' : D → D → M D) : M D := bnd fa fun x => bnd fb fun y => bnd (g x y) fun z => match z with
  | .bl true => bnd fc fun w => g' y w
  | .bl false => ret (.bl false)
  | _ => fun _ => .bad
theorem chain_of {r r' : R2} {g g' : D → D → M D} (hr : OpD X.K E r g) (hr' : OpD X.K E r' g') : ∀ σ H Q, tE X.K E (chn fa fb fc g g') σ H Q → tChain r r' (tE X.K E fa) (tE X.K E fb) (tE X.K E fc) σ H Q := fun σ H Q ⟨B, ρ, S, h⟩ => by
  refine ⟨B, ρ, S, h.bind.mono fun d1 ρ1 B1 H1 s1 a1 v1 r1 => ?_⟩
  refine ⟨B1, ρ1, s1.st, a1.bind.mono fun d2 ρ2 B2 H2 s2 a2 v2 r2 => ?_⟩
  refine hr σ ρ2 B2 H2 v1 v2 d1 d2 _ s2.st (r1.mono s2.adv.ex) r2 (a2.bind.mono fun d3 ρ3 B3 H3 s3 a3 v3 r3 => ?_)
  cases r3 with
  | bl k =>
    refine ⟨k, rfl, ?_⟩
    cases k with
    | true =>
      rw [if_pos rfl]
      refine ⟨B3, ρ3, s3.st, Aft.mono (Aft.bind (x := fc) a3) fun d4 ρ4 B4 H4 s4 a4 v4 r4 => ?_⟩
      exact hr' σ ρ4 B4 H4 v2 v4 d2 d4 Q s4.st (r2.mono (s3.adv.ex.trans s4.adv.ex)) r4 a4
    | false =>
      rw [if_neg Bool.false_ne_true]
      exact a3 B3 H3 (.refl s3.st) _ (.bl false)
  | non => exact a3.elim
  | int i => exact a3.elim
  | str x => exact a3.elim
  | ty n => exact a3.elim
  | ref p => exact a3.elim
  | scr h => exact a3.elim
  | lst h r => exact a3.elim
  | tup h r => exact a3.elim
  | dic h r q => exact a3.elim
theorem eChain {op op' : CmpOp} {r r' : R2} {g g' : D → D → M D} (ho : OpR X (compareOp op) r) (ho' : OpR X (compareOp op') r') (hr : OpD X.K E r g) (hr' : OpD X.K E r' g') (ha : PE X a (tE X.K E fa)) (hb : PE X b (tE X.K E fb)) (hc : PE X c (tE X.K E fc))
    (hm : lastMarks [op, op'] [b, c] = false := by with_unfolding_all rfl) : PE X (.Compare a [op, op'] [b, c] pos) (tE X.K E (chn fa fb fc g g')) := PE.imp (pe_chain ho ho' ha hb hc hm) (chain_of hr hr')
theorem tChn {op op' : CmpOp} {r r' : R2} {g g' : D → D → M D} (ho : OpR X (compareOp op) r) (ho' : OpR X (compareOp op') r') (hr : OpD X.K E r g) (hr' : OpD X.K E r' g') (ha : PE X a (tE X.K E fa)) (hb : PE X b (tE X.K E fb)) (hc : PE X c (tE X.K E fc))
    (hm : lastMarks [op, op'] [b, c] = false := by with_unfolding_all rfl) : PT X (.Compare a [op, op'] [b, c] pos) (tT X.K E (asB (chn fa fb fc g g'))) := PT.imp (pt_chain ho ho' ha hb hc hm) fun σ H Q q => chain_of hr hr' σ H _ (asB_of q)
def andM (f g : M Bool) : M Bool := bnd f fun k => if k = true then g else ret false
def orM (f g : M Bool) : M Bool := bnd f fun k => if k = true then ret true else g
def notM (f : M Bool) : M Bool := bnd f fun k => ret (!k)
variable {f g : M Bool} {rest : List Expr}
theorem tAnd1 (h : PT X a (tT X.K E f)) : PW X (.BoolOp .And [a] pos) (tT X.K E f) := pw_and1 h
theorem tOr1 (h : PT X a (tT X.K E f)) : PW X (.BoolOp .Or [a] pos) (tT X.K E f) := pw_or1 h
theorem tAnd (h : PT X a (tT X.K E f)) (h' : PW X (.BoolOp .And (b :: rest) pos) (tT X.K E g)) : PW X (.BoolOp .And (a :: b :: rest) pos) (tT X.K E (andM f g)) :=
  PW.imp (pw_and h h') fun σ H Q ⟨B, ρ, S, z⟩ => ⟨B, ρ, S, z.bind.mono fun k ρ1 B1 H1 s1 a1 => by
    cases k with
    | true => exact ⟨B1, ρ1, s1.st, a1⟩
    | false => exact a1 B1 H1 (.refl s1.st)⟩
theorem tOr (h : PT X a (tT X.K E f)) (h' : PW X (.BoolOp .Or (b :: rest) pos) (tT X.K E g)) : PW X (.BoolOp .Or (a :: b :: rest) pos) (tT X.K E (orM f g)) :=
  PW.imp (pw_or h h') fun σ H Q ⟨B, ρ, S, z⟩ => ⟨B, ρ, S, z.bind.mono fun k ρ1 B1 H1 s1 a1 => by
    cases k with
    | true => exact a1 B1 H1 (.refl s1.st)
    | false => exact ⟨B1, ρ1, s1.st, a1⟩⟩
theorem tNot (h : PT X a (tT X.K E f)) : PT X (.UnaryOp .Not a pos) (tT X.K E (notM f)) :=
  PT.imp (pt_not h) fun σ H Q ⟨B, ρ, S, z⟩ => ⟨B, ρ, S, z.bind.mono fun k ρ1 B1 H1 s1 a1 => a1 B1 H1 (.refl s1.st)⟩
/-! ### and, or, not of bools as values -/
def andV (fa fb : M D) : M D := bnd (asB fa) fun k => if k = true then fb else ret (.bl false)
def orV (fa fb : M D) : M D := bnd (asB fa) fun k => if k = true then ret (.bl true) else fb
def notV (fa : M D) : M D := bnd (asB fa) fun k => ret (.bl (!k))
theorem eOne {op} (h : PE X a (tE X.K E fa)) : PE X (.BoolOp op [a] pos) (tE X.K E fa) := pe_one h
theorem eAnd (h : PE X a (tE X.K E fa)) (h' : PE X (.BoolOp .And (b :: rest) pos) (tE X.K E fb)) : PE X (.BoolOp .And (a :: b :: rest) pos) (tE X.K E (andV fa fb)) :=
  PE.imp (pe_and h h') fun σ H Q ⟨B, ρ, S, z⟩ => asB_of (Q := fun k H1 => if k = true then tE X.K E fb σ H1 Q else Q (.bl false) H1) ⟨B, ρ, S, z.bind.mono fun k ρ1 B1 H1 s1 a1 => by
    cases k with
    | true => exact ⟨B1, ρ1, s1.st, a1⟩
    | false => exact a1 B1 H1 (.refl s1.st) _ (.bl false)⟩
theorem eOr (h : PE X a (tE X.K E fa)) (h' : PE X (.BoolOp .Or (b :: rest) pos) (tE X.K E fb)) : PE X (.BoolOp .Or (a :: b :: rest) pos) (tE X.K E (orV fa fb)) :=
  PE.imp (pe_or h h') fun σ H Q ⟨B, ρ, S, z⟩ => asB_of (Q := fun k H1 => if k = true then Q (.bl true) H1 else tE X.K E fb σ H1 Q) ⟨B, ρ, S, z.bind.mono fun k ρ1 B1 H1 s1 a1 => by
    cases k with
    | true => exact a1 B1 H1 (.refl s1.st) _ (.bl true)
    | false => exact ⟨B1, ρ1, s1.st, a1⟩⟩
theorem eNot (h : PE X a (tE X.K E fa)) : PE X (.UnaryOp .Not a pos) (tE X.K E (notV fa)) :=
  PE.imp (pe_not h) fun σ H Q ⟨B, ρ, S, z⟩ => asB_of (Q := fun k H1 => Q (.bl (!k)) H1) ⟨B, ρ, S, z.bind.mono fun k ρ1 B1 H1 s1 a1 => a1 B1 H1 (.refl s1.st) _ (.bl _)⟩
def iteM {α : Type} (f : M Bool) (fa fb : M α) : M α := bnd f fun k => if k = true then fa else fb
theorem eIf (h : PT X c (tT X.K E f)) (ha : PE X a (tE X.K E fa)) (hb : PE X b (tE X.K E fb)) : PE X (.IfExp c a b pos) (tE X.K E (iteM f fa fb)) :=
  PE.imp (pe_ifExp h ha hb) fun σ H Q ⟨B, ρ, S, z⟩ => ⟨B, ρ, S, z.bind.mono fun k ρ1 B1 H1 s1 a1 => by
    cases k with
    | true => exact ⟨B1, ρ1, s1.st, a1⟩
    | false => exact ⟨B1, ρ1, s1.st, a1⟩⟩
/-! ### comparisons -/
def dCmp (p : Int → Int → Bool) : D → D → Option D
  | .int i, .int j => some (.bl (p i j))
  | _, _ => none
theorem oCmp {p : Int → Int → Bool} : OpD X.K E (rI0 fun i j => .bl (p i j)) (fun x y => opt (dCmp p x y)) := OpD.opt fun B H v1 v2 d1 d2 d Q _ r1 r2 e q => by
  cases r1 <;> cases r2 <;> cases e
  exact ⟨_, _, rfl, rfl, q _ (.bl _)⟩
def rEqA (K : PySem.W.Frag) : R2 := fun x y H Q => rEq x y H Q ∨ rEqD K x y H Q
def rNeA (K : PySem.W.Frag) : R2 := fun x y H Q => rNe x y H Q ∨ rNeD K x y H Q
theorem opEqA (hu : X.A.units + 64 < cLine) : OpR X (compareOp .Eq) (rEqA X.K) := OpR.or op_eq (op_eqD hu)
theorem opNeA (hu : X.A.units + 64 < cLine) : OpR X (compareOp .NotEq) (rNeA X.K) := OpR.or op_ne (op_neD hu)
def dEqD : D → D → Option Bool := fun x y => match x.py, y.py with
  | some p, some q => if (SeqAt.shaped p && SeqAt.shaped q) = true then some (p.eqv q) else none
  | _, _ => none
def dEq : D → D → Option Bool
  | .str x, .str y => some (decide (x = y))
  | .int x, .int y => some (decide (x = y))
  | .bl x, .bl y => some (decide (x = y))
  | x, y => dEqD x y
theorem dEqD_of {x y : D} {k : Bool} (h : dEqD x y = some k) : ∃ p q, x.py = some p ∧ y.py = some q ∧ SeqAt.shaped p = true ∧ SeqAt.shaped q = true ∧ k = p.eqv q := by
  unfold dEqD at h
  split at h
  · rename_i p q h1 h2
    split at h
    · rename_i hs
      rw [Bool.and_eq_true] at hs
      exact ⟨p, q, h1, h2, hs.1, hs.2, (Option.some.inj h).symm⟩
    · cases h
  · cases h
theorem oEq : OpD X.K E (rEqA X.K) (fun x y => opt ((dEq x y).map D.bl)) := OpD.opt fun B H v1 v2 d1 d2 d Q eb r1 r2 e q => by
  obtain ⟨k, e1, rfl⟩ := Option.map_eq_some_iff.mp e
  unfold dEq at e1
  split at e1
  · cases e1; cases r1; cases r2; exact .inl ⟨rfl, by simpa using q _ (.bl _)⟩
  · cases e1; cases r1; cases r2; exact .inl ⟨rfl, by simpa using q _ (.bl _)⟩
  · cases e1; cases r1; cases r2; exact .inl ⟨rfl, by simpa using q _ (.bl _)⟩
  · obtain ⟨p, p', h1, h2, s1, s2, rfl⟩ := dEqD_of e1
    exact .inr ⟨p, p', R.dp eb r1 h1, R.dp eb r2 h2, s1, s2, q _ (.bl _)⟩
theorem oNe : OpD X.K E (rNeA X.K) (fun x y => opt ((dEq x y).map fun k => D.bl (!k))) := OpD.opt fun B H v1 v2 d1 d2 d Q eb r1 r2 e q => by
  obtain ⟨k, e1, rfl⟩ := Option.map_eq_some_iff.mp e
  unfold dEq at e1
  split at e1
  · cases e1; cases r1; cases r2; exact .inl ⟨rfl, by simpa using q _ (.bl _)⟩
  · cases e1; cases r1; cases r2; exact .inl ⟨rfl, by simpa using q _ (.bl _)⟩
  · cases e1; cases r1; cases r2; exact .inl ⟨rfl, by simpa using q _ (.bl _)⟩
  · obtain ⟨p, p', h1, h2, s1, s2, rfl⟩ := dEqD_of e1
    exact .inr ⟨p, p', R.dp eb r1 h1, R.dp eb r2 h2, s1, s2, q _ (.bl _)⟩
/-- one sign in a text -/
def dInS : D → D → Option Bool
  | .str x, .str z => match x with
    | ⟨⟨[c]⟩⟩ => some (decide (c ∈ z.cps.toList))
    | _ => none
  | _, _ => none
theorem dInS_of {x z : Str} {k : Bool} (h : dInS (.str x) (.str z) = some k) : ∃ c, x = ⟨#[c]⟩ ∧ k = decide (c ∈ z.cps.toList) := by
  simp only [dInS] at h
  split at h
  · cases h; exact ⟨_, rfl, rfl⟩
  · cases h
theorem oInS : OpD X.K E rInS (fun x y => opt ((dInS x y).map D.bl)) := OpD.opt fun B H v1 v2 d1 d2 d Q eb r1 r2 e q => by
  obtain ⟨k, e1, rfl⟩ := Option.map_eq_some_iff.mp e
  cases r1 <;> try (cases e1; done)
  cases r2 <;> try (cases e1; done)
  obtain ⟨c, rfl, rfl⟩ := dInS_of e1
  exact ⟨c, _, rfl, rfl, q _ (.bl _)⟩
theorem oNotInS : OpD X.K E rNotInS (fun x y => opt ((dInS x y).map fun k => D.bl (!k))) := OpD.opt fun B H v1 v2 d1 d2 d Q eb r1 r2 e q => by
  obtain ⟨k, e1, rfl⟩ := Option.map_eq_some_iff.mp e
  cases r1 <;> try (cases e1; done)
  cases r2 <;> try (cases e1; done)
  obtain ⟨c, rfl, rfl⟩ := dInS_of e1
  exact ⟨c, _, rfl, rfl, q _ (.bl _)⟩
/-- in a list -/
def dInL : D → D → Option Bool := fun x y => match x.py, y.py with
  | some p, some (.list qs) => if (SeqAt.shaped p && SeqAt.shaped (.list qs)) = true then some (qs.any fun z => PyData.eqv z p) else none
  | _, _ => none
theorem dInL_of {x y : D} {k : Bool} (h : dInL x y = some k) : ∃ p qs, x.py = some p ∧ y.py = some (.list qs) ∧ SeqAt.shaped p = true ∧ SeqAt.shaped (.list qs) = true ∧ k = qs.any fun z => PyData.eqv z p := by
  unfold dInL at h
  split at h
  · rename_i p q h1 h2
    split at h
    · rename_i hs
      rw [Bool.and_eq_true] at hs
      exact ⟨p, q, h1, h2, hs.1, hs.2, (Option.some.inj h).symm⟩
    · cases h
  · cases h
theorem oInL : OpD X.K E (rInD X.K) (fun x y => opt ((dInL x y).map D.bl)) := OpD.opt fun B H v1 v2 d1 d2 d Q eb r1 r2 e q => by
  obtain ⟨k, e1, rfl⟩ := Option.map_eq_some_iff.mp e
  obtain ⟨p, p', h1, h2, s1, s2, rfl⟩ := dInL_of e1
  exact ⟨p, p', R.dp eb r1 h1, R.dp eb r2 h2, s1, s2, q _ (.bl _)⟩
theorem oNotInL : OpD X.K E (rNotInD X.K) (fun x y => opt ((dInL x y).map fun k => D.bl (!k))) := OpD.opt fun B H v1 v2 d1 d2 d Q eb r1 r2 e q => by
  obtain ⟨k, e1, rfl⟩ := Option.map_eq_some_iff.mp e
  obtain ⟨p, p', h1, h2, s1, s2, rfl⟩ := dInL_of e1
  exact ⟨p, p', R.dp eb r1 h1, R.dp eb r2 h2, s1, s2, q _ (.bl _)⟩
def dIsN : D → Option Bool
  | .non => some true
  | .ref _ => none
  | _ => some false
theorem oIsN : OpD X.K E rIsN (fun x y => opt ((match y with | .non => dIsN x | _ => none).map D.bl)) := OpD.opt fun B H v1 v2 d1 d2 d Q eb r1 r2 e q => by
  obtain ⟨k, e1, rfl⟩ := Option.map_eq_some_iff.mp e
  cases r2 <;> try (cases e1; done)
  cases r1 <;> cases e1 <;> exact ⟨rfl, q _ (.bl _)⟩
theorem oNotN : OpD X.K E rNotN (fun x y => opt ((match y with | .non => dIsN x | _ => none).map fun k => D.bl (!k))) := OpD.opt fun B H v1 v2 d1 d2 d Q eb r1 r2 e q => by
  obtain ⟨k, e1, rfl⟩ := Option.map_eq_some_iff.mp e
  cases r2 <;> try (cases e1; done)
  cases r1 <;> cases e1 <;> exact ⟨rfl, q _ (.bl _)⟩
/-! ### plus -/
def rAddA (K : PySem.W.Frag) : R2 := fun x y H Q => (((rI0 fun i j => .int (i + j)) x y H Q ∨ (∃ i j, x = .str i ∧ y = .str j ∧ i.length + j.length ≤ sizeLine ∧ Q (.str (i ++ j)) H)) ∨ rCat x y H Q) ∨ rCatA K x y H Q
theorem opAdd : OpR X (binaryOp .Add) (rAddA X.K) := OpR.or (OpR.or (OpR.or op_add op_add_str) op_cat) op_catA
def dAdd : D → D → Option D
  | .int i, .int j => some (.int (i + j))
  | .str x, .str y => if x.length + y.length ≤ sizeLine then some (.str (x ++ y)) else none
  | .lst x, .lst y => if x.length + y.length ≤ sizeLine then some (.lst (x ++ y)) else none
  | .tup x, .tup y => if x.length + y.length ≤ sizeLine then some (.tup (x ++ y)) else none
  | _, _ => none
theorem oAdd : OpD X.K E (rAddA X.K) (fun x y => opt (dAdd x y)) := fun σ ρ B H v1 v2 d1 d2 Q S r1 r2 h => by
  obtain ⟨d, e, q⟩ := Aft.opt' h
  cases r1 <;> cases r2 <;> simp only [dAdd, reduceCtorEq] at e
  · cases e; exact .inl (.inl (.inl ⟨_, _, rfl, rfl, q B H (.refl S) _ (.int _)⟩))
  · split at e
    · cases e; exact .inl (.inl (.inr ⟨_, _, rfl, rfl, by assumption, q B H (.refl S) _ (.str _)⟩))
    · cases e
  · rename_i vs ds h1 ra1 b' vs' ds' h2 ra2
    split at e
    · rename_i hl
      cases e
      refine .inl (.inr ⟨_, _, vs, vs', rfl, rfl, S.bh _ _ h1, S.bh _ _ h2, by rw [ra1.length, ra2.length]; exact hl, fun p hp => ?_⟩)
      exact q _ _ (S.laid hp) _ (.lst upd_same ((ra1.append ra2).mono (Evl.Ex.new (S.bnone hp))))
    · cases e
  · rename_i vs ds h1 ra1 b' vs' ds' h2 ra2
    split at e
    · rename_i hl
      cases e
      have q1 := Evl.ex_t S.bh h1
      have q2 := Evl.ex_t S.bh h2
      refine .inr ⟨_, _, vs, vs', rfl, rfl, q1, q2, by rw [ra1.length, ra2.length]; exact hl, fun z => ?_, fun _ z => ?_, fun _ _ p hp => ?_⟩
      · subst z; cases ra1
        exact q B H (.refl S) _ (.tup h2 ra2)
      · subst z; cases ra2
        rw [List.append_nil] at q
        exact q B H (.refl S) _ (.tup h1 ra1)
      · exact q _ _ (S.laid hp) _ (.tup (SqT.of upd_same) ((ra1.append ra2).mono (Evl.Ex.new (S.bnone hp))))
    · cases e
end
end PD
namespace PD
open PySem L2
section
variable {X : Cx} {E : XK} {a b c e : Expr} {es : List Expr} {fa fb fc f : M D} {g : M (List D)} {pos : Pos}
/-! ### arguments -/
def argC (f : M D) (g : M (List D)) : M (List D) := bnd f fun x => bnd g fun xs => ret (x :: xs)
theorem aNil : PA X [] (tAs X.K E (ret [])) := PA.imp pa_nil fun σ H Q ⟨B, ρ, S, h⟩ => h B H (.refl S) _ .nil
theorem aCons (h : PE X e (tE X.K E f)) (h' : PA X es (tAs X.K E g)) (hs : starEach (e :: es) X.env = (false, eval e X.env) :: starEach es X.env := by rfl) : PA X (e :: es) (tAs X.K E (argC f g)) :=
  PA.imp (pa_cons h h' hs) fun σ H Q ⟨B, ρ, S, z⟩ => ⟨B, ρ, S, z.bind.mono fun d ρ1 B1 H1 s1 a1 v r => ⟨B1, ρ1, s1.st, a1.bind.mono fun ds ρ2 B2 H2 s2 a2 vs rs =>
    a2 B2 H2 (.refl s2.st) _ (.cons (r.mono s2.adv.ex) rs)⟩⟩
/-! ### displays -/
def lay (mk : List D → D) (g : M (List D)) : M D := bnd g fun ds => opt (if ds.length ≤ sizeLine then some (mk ds) else none)
theorem lay_of {n : Nat} {d d' : D} (h : (if n ≤ sizeLine then some d else none) = some d') : n ≤ sizeLine ∧ d' = d := by
  split at h
  · exact ⟨by assumption, (Option.some.inj h).symm⟩
  · cases h
theorem eLst (h : PA X es (tAs X.K E g)) : PE X (.List es pos) (tE X.K E (lay .lst g)) := PE.imp (pe_lst h) fun σ H Q ⟨B, ρ, S, z⟩ => ⟨B, ρ, S, z.bind.mono fun ds ρ1 B1 H1 s1 a1 vs ra => by
  obtain ⟨d, e, q⟩ := Aft.opt' a1
  obtain ⟨hl, rfl⟩ := lay_of e
  exact ⟨by rw [ra.length]; exact hl, fun p hp => q _ _ (s1.st.laid hp) _ (.lst upd_same (ra.mono (Evl.Ex.new (s1.st.bnone hp))))⟩⟩
theorem eTup {x1} (h : PA X es (tAs X.K E g)) : PE X (.Tuple es x1 pos) (tE X.K E (lay .tup g)) := PE.imp (pe_tup h) fun σ H Q ⟨B, ρ, S, z⟩ => ⟨B, ρ, S, z.bind.mono fun ds ρ1 B1 H1 s1 a1 vs ra => by
  obtain ⟨d, e, q⟩ := Aft.opt' a1
  obtain ⟨hl, rfl⟩ := lay_of e
  exact ⟨by rw [ra.length]; exact hl, fun p hp => q _ _ (s1.st.laid hp) _ (.tup (SqT.of upd_same) (ra.mono (Evl.Ex.new (s1.st.bnone hp))))⟩⟩
theorem nLst (h : PA X es (tAs X.K E g)) : PE X (.List es pos) (tN X.K E (lay .lst g)) := PE.imp (pe_lst h) fun σ H Q ⟨B, ρ, S, z⟩ => ⟨B, ρ, S, z.bind.mono fun ds ρ1 B1 H1 s1 a1 vs ra => by
  obtain ⟨d, e, q⟩ := Aft.opt' a1
  obtain ⟨hl, rfl⟩ := lay_of e
  exact ⟨by rw [ra.length]; exact hl, fun p hp => q _ _ (s1.st.temp hp) p (s1.adv.back hp) (s1.st.bnone hp) ⟨vs, upd_same, ra⟩⟩⟩
theorem eD0 : PE X (.Dict [] [] pos) (tE X.K E (ret (.dic [] []))) := PE.imp pe_dnewK fun σ H Q ⟨B, ρ, S, z⟩ p hp => z _ _ (S.laid hp) _ (.dic upd_same .nil .nil)
theorem nD0 : PE X (.Dict [] [] pos) (tN X.K E (ret (.dic [] []))) := PE.imp pe_dnewK fun σ H Q ⟨B, ρ, S, z⟩ p hp => z _ _ (S.temp hp) p hp (S.bnone hp) ⟨[], upd_same, .nil, .nil⟩
/-- {k: v} with one written key -/
def dKey : D → Option Key
  | .int i => some (.inl i)
  | .str x => some (.inr x)
  | _ => none
theorem dKey_of {K : PySem.W.Frag} {B : Hp} {v : V} {d : D} {k : Key} (r : R K B v d) (h : dKey d = some k) : v = kV k := by
  cases r <;> cases h <;> rfl
def disp1 (fk fv : M D) : M D := bnd fk fun k => bnd fv fun v => opt ((dKey k).map fun _ => D.dic [k] [v])
theorem eDisp1 {k v : Expr} {fk fv : M D} (hk : PE X k (tE X.K E fk)) (hv : PE X v (tE X.K E fv)) : PE X (.Dict [some k] [v] pos) (tE X.K E (disp1 fk fv)) :=
  PE.imp (pe_disp (pps_cons hk hv pps_nil) (by rfl) (by rfl) (fun z => by cases z) (by show 1 ≤ 15; decide)) fun σ H Q ⟨B, ρ, S, z⟩ p hp => by
    have s0 := S.temp (o := .dK []) hp
    have z' : Aft X.K E σ ρ B (upd H p (.dK [])) (disp1 fk fv ρ) fun d ρ' B' H' => ∀ B2 H2, Stp X.K σ ρ B H ρ' B2 H2 → ∀ u, R X.K B2 u d → Q u H2 := by
      cases q : disp1 fk fv ρ with
      | bad => rw [q] at z; exact z
      | exc C fs ρ' => rw [q] at z; exact fun dx vfs B' H' s => z dx vfs B' H' (s0.trans s)
      | ok d ρ' => rw [q] at z; exact fun B' H' s B2 H2 s2 u r => z B2 H2 s2 u r
    refine ⟨B, ρ, s0.st, z'.bind.mono fun d1 ρ1 B1 H1 s1 a1 v1 r1 => ⟨B1, ρ1, s1.st, a1.bind.mono fun d2 ρ2 B2 H2 s2 a2 v2 r2 => ?_⟩⟩
    have s12 := s1.trans s2
    have hp2 : H2 p = some (.dK []) := s12.adv.fr p _ upd_same (S.notown hp)
    have hb2 : B2 p = none := by
      cases qq : B2 p with
      | none => rfl
      | some o =>
        rcases s12.adv.nw p o qq with y | y | y
        · rw [S.bnone hp] at y; cases y
        · rw [upd_same] at y; cases y
        · exact (S.notown hp y).elim
    refine ⟨hp2, ?_⟩
    obtain ⟨d, e, q⟩ := Aft.opt a2 s2.st
    obtain ⟨k0, e0, rfl⟩ := Option.map_eq_some_iff.mp e
    have ev : v1 = kV k0 := dKey_of r1 e0
    subst ev
    refine ⟨[(k0, v2)], rfl, (by show 1 ≤ 15; decide), ?_⟩
    have no2 : ¬ ownAt ρ2 σ p := fun y => S.notown hp (s12.le.own y)
    have em : mergeK [] [(k0, v2)] = [(k0, v2)] := rfl
    rw [em]
    have st3 : Sta X.K B2 ρ2 σ (upd H2 p (.dK [(k0, v2)])) := s2.st.move (ex_upd s2.st.bh hb2) (fun _ _ y => y) (fun x u ow y => by
      have nx : x ≠ p := fun zz => no2 (by rw [← zz]; exact ow)
      rw [upd_ne nx]; exact y) fun x ow => (s2.st.there ow).1
    have st4 := st3.freeze hb2 upd_same no2
    refine q _ _ ⟨st4, ⟨s12.adv.ex.trans (Evl.Ex.new hb2), fun x u y => ?_, fun x u y no => ?_, fun x u y => ?_⟩, s12.le⟩ _ (.dic upd_same (.cons (r1.mono (s2.adv.ex.trans (Evl.Ex.new hb2))) .nil) (.cons (r2.mono (Evl.Ex.new hb2)) .nil))
    · by_cases zz : x = p
      · subst zz; exact .inr (.inl hp)
      · rw [upd_ne zz] at y
        rcases s12.adv.nw x u y with y | y | y
        · exact .inl y
        · rw [upd_ne zz] at y; exact .inr (.inl y)
        · exact .inr (.inr y)
    · have zz : x ≠ p := ne_of_none y hp
      rw [upd_ne zz]
      exact s12.adv.fr x u (by rw [upd_ne zz]; exact y) no
    · have zz : x ≠ p := ne_of_none y hp
      rw [upd_ne zz]
      exact s12.adv.al x u (by rw [upd_ne zz]; exact y)
/-! ### subscripts -/
def dIx : D → D → Option D
  | .lst xs, .int i => atI xs i
  | .tup xs, .int i => atI xs i
  | .str z, .int i => if z.length ≤ sizeLine then (atI z.cps.toList i).map fun c => .str ⟨#[c]⟩ else none
  | .scr ns, .int i => (atI ns i).map D.int
  | _, _ => none
theorem RA.atI {K : PySem.W.Frag} {B : Hp} {vs : List V} {ds : List D} {i : Int} {d : D} (r : RA K B vs ds) (h : L2.atI ds i = some d) : ∃ v, L2.atI vs i = some v ∧ R K B v d := by
  unfold L2.atI at h ⊢
  rw [← r.length] at h
  cases q : ixN vs.length i with
  | none => rw [q] at h; cases h
  | some j => rw [q] at h; exact r.get h
theorem oIx : OpD X.K E (rIx X.K) (fun x y => opt (dIx x y)) := OpD.opt fun B H v1 v2 d1 d2 d Q eb r1 r2 e q => by
  cases r2 <;> try (cases r1 <;> cases e; done)
  cases r1 <;> try (cases e; done)
  · simp only [dIx] at e
    split at e
    · rename_i hl
      obtain ⟨c, e1, rfl⟩ := Option.map_eq_some_iff.mp e
      exact .inr (.inr ⟨_, _, c, rfl, rfl, hl, e1, q _ (.str _)⟩)
    · cases e
  · rename_i ns h
    simp only [dIx] at e
    obtain ⟨n, e1, rfl⟩ := Option.map_eq_some_iff.mp e
    refine .inl ⟨_, _, _, .int n, rfl, rfl, Evl.ex_l eb h, ?_, q _ (.int _)⟩
    unfold L2.atI at e1 ⊢
    rw [List.length_map]
    cases z : ixN ns.length _ with
    | none => rw [z] at e1; cases e1
    | some j =>
      rw [z] at e1
      have e1 : ns[j]? = some n := e1
      show (ns.map V.int)[j]? = _
      rw [List.getElem?_map, e1]; rfl
  · rename_i h ra
    obtain ⟨v, e1, rv⟩ := ra.atI e
    exact .inl ⟨_, _, _, v, rfl, rfl, SqL.of (eb _ _ h), e1, q _ rv⟩
  · rename_i h ra
    obtain ⟨v, e1, rv⟩ := ra.atI e
    exact .inr (.inl ⟨_, _, _, v, rfl, rfl, Evl.ex_t eb h, e1, q _ rv⟩)
theorem eIx (ha : PE X a (tE X.K E fa)) (hb : PE X b (tE X.K E fb)) (hs : PlainIx b := by exact fun _ _ => rfl) : PE X (.Subscript a b pos) (tE X.K E (bin2 fa fb fun x y => opt (dIx x y))) := PE.imp (pe_ix ix_seq ha hb hs) (two oIx rfl rfl)
/-- part of a slice -/
def parM : Option (M D) → M (Option Int)
  | none => ret none
  | some f => bnd f fun d => opt (match d with
    | .int i => some (some i)
    | _ => none)
def tO (K : PySem.W.Frag) (E : XK) (f : M (Option Int)) : TO := fun σ H Q => ∃ B ρ, Sta K B ρ σ H ∧ Aft K E σ ρ B H (f ρ) fun o _ _ H' => Q o H'
theorem PO.imp {o : Option Expr} {t t' : TO} (h : PO X o t) (m : ∀ σ H Q, t' σ H Q → t σ H Q) : PO X o t' := ⟨fun pins s σ H Q I q => h.run pins s σ H Q I (m σ H Q q)⟩
theorem oNone : PO X none (tO X.K E (ret none)) := PO.imp po_none fun σ H Q ⟨B, ρ, S, h⟩ => h B H (.refl S)
theorem oSome (h : PE X e (tE X.K E f)) : PO X (some e) (tO X.K E (parM (some f))) := PO.imp (po_some h) fun σ H Q ⟨B, ρ, S, z⟩ => ⟨B, ρ, S, z.bind.mono fun d ρ1 B1 H1 s1 a1 v r => by
  obtain ⟨i, e, q⟩ := Aft.opt a1 s1.st
  cases r <;> cases e
  exact ⟨_, rfl, q⟩⟩
def sl3 (fa : M D) (fl fh : M (Option Int)) (g : D → Option Int → Option Int → M D) : M D := bnd fa fun x => bnd fl fun l => bnd fh fun h => g x l h
def dSlS : D → Option Int → Option Int → Option D
  | .str z, lo, hi => if z.length ≤ sizeLine then some (.str (cutS z lo hi)) else none
  | _, _, _ => none
theorem eSlS {lo hi : Option Expr} {fl fh : M (Option Int)} {p2 : Pos} (ha : PE X a (tE X.K E fa)) (hl : PO X lo (tO X.K E fl)) (hh : PO X hi (tO X.K E fh)) : PE X (.Subscript a (.Slice lo hi none p2) pos) (tE X.K E (sl3 fa fl fh fun x l h => opt (dSlS x l h))) :=
  PE.imp (pe_slice sl_str ha hl hh) fun σ H Q ⟨B, ρ, S, z⟩ => ⟨B, ρ, S, z.bind.mono fun d ρ1 B1 H1 s1 a1 v r => ⟨B1, ρ1, s1.st, a1.bind.mono fun l ρ2 B2 H2 s2 a2 => ⟨B2, ρ2, s2.st, a2.bind.mono fun h ρ3 B3 H3 s3 a3 => by
    obtain ⟨d', e, q⟩ := Aft.opt a3 s3.st
    cases r <;> try (cases e; done)
    simp only [dSlS] at e
    split at e
    · cases e; exact ⟨_, rfl, by assumption, q _ (.str _)⟩
    · cases e⟩⟩⟩
/-! ### built-in functions -/
def CallD (K : PySem.W.Frag) (E : XK) (r : List V → Hp → VK → Prop) (g : List D → M D) : Prop := ∀ (σ : St) (ρ : Rho) (B H : Hp) (vs : List V) (ds : List D) (Q : VK), Sta K B ρ σ H → RA K B vs ds →
  Aft K E σ ρ B H (g ds ρ) (fun d _ B' H' => ∀ v, R K B' v d → Q v H') → r vs H Q
theorem CallD.opt {K : PySem.W.Frag} {r : List V → Hp → VK → Prop} {g : List D → Option D} (h : ∀ (B H : Hp) (vs : List V) (ds : List D) (d : D) (Q : VK), Ex B H → RA K B vs ds → g ds = some d → (∀ v, R K B v d → Q v H) → r vs H Q) : CallD K E r (fun ds => PD.opt (g ds)) :=
  fun σ ρ B H vs ds Q S ra z => by
    obtain ⟨d, e, q⟩ := Aft.opt z S
    exact h B H vs ds d Q S.bh ra e q
theorem cb_of {r : List V → Hp → VK → Prop} {k : List D → M D} (hk : CallD X.K E r k) : ∀ σ H Q, tE X.K E (bnd g k) σ H Q → tCB r (tAs X.K E g) σ H Q := fun σ H Q ⟨B, ρ, S, z⟩ =>
  ⟨B, ρ, S, z.bind.mono fun ds ρ1 B1 H1 s1 a1 vs ra => hk σ ρ1 B1 H1 vs ds Q s1.st ra a1⟩
theorem eCB {id : String} {x : Str} {p : Pos} {r : List V → Hp → VK → Prop} {k : List D → M D} (hc : CallR X (.builtin id) r) (hk : CallD X.K E r k) (hg : Gl X x) (hm : X.mg x = none) (hv : bootBuiltins x = some (.builtin id)) (ha : PA X (e :: es) (tAs X.K E g))
    (hn : x ≠ "__name__" := by decide) (hdb : (x == ("__debug__" : Str)) = false := by decide) (he : starEach (e :: es) X.env = (false, eval e X.env) :: starEach es X.env := by rfl) (hpl : (backTo pos (starEach es X.env)).any (·.1) = false := by rfl) :
    PE X (.Call (.Name x p) (e :: es) [] pos) (tE X.K E (bnd g k)) := PE.imp (pe_callB hc hg hm hv ha hn hdb he hpl) (cb_of hk)
theorem eCT {T : String} {x : Str} {p : Pos} {r : List V → Hp → VK → Prop} {k : List D → M D} (hc : CallR X (.type T) r) (hk : CallD X.K E r k) (hg : Gl X x) (hm : X.mg x = none) (hv : bootBuiltins x = some (.type T)) (ha : PA X (e :: es) (tAs X.K E g))
    (hn : x ≠ "__name__" := by decide) (hdb : (x == ("__debug__" : Str)) = false := by decide) (he : starEach (e :: es) X.env = (false, eval e X.env) :: starEach es X.env := by rfl) (hpl : (backTo pos (starEach es X.env)).any (·.1) = false := by rfl) :
    PE X (.Call (.Name x p) (e :: es) [] pos) (tE X.K E (bnd g k)) := PE.imp (pe_callTy hc hg hm hv ha hn hdb he hpl) (cb_of hk)
def dAbs : List D → Option D
  | [.int i] => some (.int (if i < 0 then -i else i))
  | _ => none
theorem kAbs : CallD X.K E (fun xs H Q => ∃ i, xs = [.int i] ∧ Q (.int (if i < 0 then -i else i)) H) (fun ds => opt (dAbs ds)) := CallD.opt fun B H vs ds d Q eb ra e q => by
  cases ra with
  | nil => cases e
  | cons r1 ra =>
    cases ra with
    | nil => cases r1 <;> cases e; exact ⟨_, rfl, q _ (.int _)⟩
    | cons r2 ra => cases r1 <;> cases e
def dTwo (k : Int → Int → Int) : List D → Option D
  | [.int i, .int j] => some (.int (k i j))
  | _ => none
theorem kTwo {k : Int → Int → Int} : CallD X.K E (fun xs H Q => ∃ i j, xs = [.int i, .int j] ∧ Q (.int (k i j)) H) (fun ds => opt (dTwo k ds)) := CallD.opt fun B H vs ds d Q eb ra e q => by
  cases ra with
  | nil => cases e
  | cons r1 ra =>
    cases ra with
    | nil => cases r1 <;> cases e
    | cons r2 ra =>
      cases ra with
      | nil => cases r1 <;> cases r2 <;> cases e; exact ⟨_, _, rfl, q _ (.int _)⟩
      | cons r3 ra => cases r1 <;> cases r2 <;> cases e
end
end PD
namespace PD
open PySem L2
/-! ### as the library's data, dicts among it: for repr -/
mutual
def D.pyR : D → Option PyData
  | .non => some .none
  | .bl b => some (.bool b)
  | .int i => some (.int i)
  | .str x => some (.str x)
  | .lst xs => (pyRAll xs).map .list
  | .tup xs => (pyRAll xs).map .tuple
  | .dic ks vs => match pyRAll ks, pyRAll vs with
    | some ps, some qs => some (.dict (ps.zip qs))
    | _, _ => none
  | .ref _ => none
  | .ty _ => none
  | .scr _ => none
def pyRAll : List D → Option (List PyData)
  | [] => some []
  | x :: xs => match x.pyR, pyRAll xs with
    | some p, some ps => some (p :: ps)
    | _, _ => none
end
theorem pyRAll_cons {x : D} {xs : List D} {ps : List PyData} (q : pyRAll (x :: xs) = some ps) : ∃ p ps', x.pyR = some p ∧ pyRAll xs = some ps' ∧ ps = p :: ps' := by
  simp only [pyRAll] at q
  cases z : x.pyR with
  | none => rw [z] at q; cases q
  | some p =>
    cases z2 : pyRAll xs with
    | none => rw [z, z2] at q; cases q
    | some ps' => rw [z, z2] at q; exact ⟨p, ps', rfl, rfl, (Option.some.inj q).symm⟩
theorem pyRAll_len : ∀ {xs : List D} {ps : List PyData}, pyRAll xs = some ps → ps.length = xs.length
  | [], _, q => by simp only [pyRAll] at q; cases q; rfl
  | x :: xs, _, q => by
    obtain ⟨p, ps', _, z, rfl⟩ := pyRAll_cons q
    exact congrArg (· + 1) (pyRAll_len z)
theorem keyRel {k : Key} {u : Value} (h : keyIs k u = true) : RelV (kV k) u := by
  rcases keyIs_shape h with ⟨i, t, rfl, rfl⟩ | ⟨x, t, rfl, rfl⟩
  · exact ⟨t, rfl⟩
  · exact ⟨t, rfl⟩
theorem vals_of {vs : List V} {us : List Value} (hl : vs.length = us.length) (h : ∀ (i : Nat) v u, vs[i]? = some v → us[i]? = some u → RelV v u) : Vals vs us := by
  induction vs generalizing us with
  | nil =>
    cases us with
    | nil => exact .nil
    | cons u us => cases hl
  | cons v vs ih =>
    cases us with
    | nil => cases hl
    | cons u us => exact .cons (h 0 v u rfl rfl) (ih (Nat.succ.inj hl) fun i v u e1 e2 => h (i + 1) v u e1 e2)
section
variable {X : Cx} {pins : List (Addr × Obj)} {σ : St} {B H : Hp} {s : Shared}
theorem dk_es {a : Addr} {kvs : List (Key × V)} (I : Inv X pins σ H s) (e : H a = some (.dK kvs)) :
    ∃ o es n, s.heap.get? a = some o ∧ o.cls = .type "dict" ∧ o.data = .dict es n ∧ Vals (kvs.map fun p => kV p.1) (es.toList.map (·.key)) ∧ Vals (kvs.map (·.2)) (es.toList.map (·.val)) := by
  obtain ⟨_, _, vs, kv, dd⟩ := dk_of I.hok e
  obtain ⟨es, ep, ⟨o, ho, hc, hd⟩, hz, hk⟩ := Heap.DictOf.raw dd
  have hl : kvs.length = vs.length := Paired.length kv
  have at_ : ∀ (i : Nat) (p : Key × V), kvs[i]? = some p → ∃ (hi : i < es.size), keyIs p.1 es[i].key = true ∧ RelV p.2 es[i].val := fun i p hp => by
    have hi : i < kvs.length := (List.getElem?_eq_some_iff.mp hp).1
    have hi' : i < es.size := by omega
    have pg : ∀ {l : List (Key × V)} {m : List (Key × Value)} {j : Nat} {p : Key × V}, KV l m → l[j]? = some p → ∃ q, m[j]? = some q ∧ p.1 = q.1 ∧ RelV p.2 q.2 := by
      intro l m j p hKV
      induction hKV generalizing j with
      | nil => intro z; cases z
      | @cons x y l m hr _ ih =>
        intro z
        cases j with
        | zero => cases z; exact ⟨_, rfl, hr⟩
        | succ j => exact ih z
    obtain ⟨q, hq, e1, e2⟩ := pg kv hp
    obtain ⟨k1, k2⟩ := hk i hi' q.1 q.2 hq
    refine ⟨hi', ?_, ?_⟩
    · rw [e1]; exact k1
    · rw [k2]; exact e2
  refine ⟨o, es, ep, ho, hc.1, hd, vals_of (by simp; omega) fun i v u h1 h2 => ?_, vals_of (by simp; omega) fun i v u h1 h2 => ?_⟩
  · rw [List.getElem?_map] at h1 h2
    obtain ⟨p, hp, rfl⟩ := Option.map_eq_some_iff.mp h1
    obtain ⟨hi, k1, _⟩ := at_ i p hp
    rw [Array.getElem?_toList, Array.getElem?_eq_getElem hi] at h2
    cases h2
    exact keyRel k1
  · rw [List.getElem?_map] at h1 h2
    obtain ⟨p, hp, rfl⟩ := Option.map_eq_some_iff.mp h1
    obtain ⟨hi, _, k2⟩ := at_ i p hp
    rw [Array.getElem?_toList, Array.getElem?_eq_getElem hi] at h2
    cases h2
    exact k2
mutual
theorem R.reads (I : Inv X pins σ H s) (eb : Ex B H) : ∀ (d : D) (v : V) (u : Value) (p : PyData), R X.K B v d → RelV v u → d.pyR = some p → ∃ as, Reads s.heap u p as ∧ ∀ a ∈ as, H a ≠ none
  | .non, _, _, _, r, l, q => by simp only [D.pyR] at q; cases q; cases r; cases l; exact ⟨_, .none, by simp⟩
  | .bl b, _, _, _, r, l, q => by simp only [D.pyR] at q; cases q; cases r; cases l; exact ⟨_, .bool b, by simp⟩
  | .int i, _, _, _, r, l, q => by simp only [D.pyR] at q; cases q; cases r; obtain ⟨t, rfl⟩ := l; exact ⟨_, .int i t, by simp⟩
  | .str x, _, _, _, r, l, q => by simp only [D.pyR] at q; cases q; cases r; obtain ⟨t, rfl⟩ := l; exact ⟨_, .str x t, by simp⟩
  | .lst ds, _, _, _, r, l, q => by
    simp only [D.pyR] at q
    obtain ⟨ps, z, rfl⟩ := Option.map_eq_some_iff.mp q
    cases r with
    | @lst a vs _ h r =>
      cases l
      obtain ⟨its, rv, ⟨o, n, ho, hc, _, hd⟩, _⟩ := I.list (SqL.of (eb _ _ h))
      obtain ⟨as, hr, ha⟩ := RA.reads I eb ds _ its ps r rv z
      refine ⟨_, .list ho hc hd hr, fun x hx => ?_⟩
      rcases List.mem_cons.mp hx with rfl | hx
      · rw [eb _ _ h]; simp
      · exact ha x hx
  | .tup ds, _, _, _, r, l, q => by
    simp only [D.pyR] at q
    obtain ⟨ps, z, rfl⟩ := Option.map_eq_some_iff.mp q
    cases r with
    | tup h r =>
      cases l
      obtain ⟨its, rv, ⟨o, ho, hc, n, hd⟩, _⟩ := I.tuple (Evl.ex_t eb h)
      obtain ⟨as, hr, ha⟩ := RA.reads I eb ds _ its ps r rv z
      exact ⟨_, .tuple ho hc hd hr, ha⟩
  | .dic ks vs, _, _, p, r, l, q => by
    simp only [D.pyR] at q
    cases z1 : pyRAll ks with
    | none => rw [z1] at q; cases q
    | some ps =>
      cases z2 : pyRAll vs with
      | none => rw [z1, z2] at q; cases q
      | some qs =>
        rw [z1, z2] at q
        cases q
        cases r with
        | @dic a kvs _ _ h r1 r2 =>
          cases l
          obtain ⟨o, es, n, ho, hc, hd, v1, v2⟩ := dk_es I (eb _ _ h)
          obtain ⟨as, hr1, ha1⟩ := RA.reads I eb ks _ _ ps r1 v1 z1
          obtain ⟨bs, hr2, ha2⟩ := RA.reads I eb vs _ _ qs r2 v2 z2
          have hl : ps.length = qs.length := by
            rw [pyRAll_len z1, pyRAll_len z2, ← r1.length, ← r2.length]; simp
          have m1 : (ps.zip qs).map (·.1) = ps := List.map_fst_zip (Nat.le_of_eq hl)
          have m2 : (ps.zip qs).map (·.2) = qs := List.map_snd_zip (Nat.le_of_eq hl.symm)
          refine ⟨_, .dict ho hc hd (by rw [m1]; exact hr1) (by rw [m2]; exact hr2), fun x hx => ?_⟩
          rcases List.mem_append.mp hx with hx | hx
          · rcases List.mem_cons.mp hx with rfl | hx
            · rw [eb _ _ h]; simp
            · exact ha1 x hx
          · exact ha2 x hx
  | .ref _, _, _, _, _, _, q => by simp only [D.pyR] at q; cases q
  | .ty _, _, _, _, _, _, q => by simp only [D.pyR] at q; cases q
  | .scr _, _, _, _, _, _, q => by simp only [D.pyR] at q; cases q
theorem RA.reads (I : Inv X pins σ H s) (eb : Ex B H) : ∀ (ds : List D) (vs : List V) (us : List Value) (ps : List PyData), RA X.K B vs ds → Vals vs us → pyRAll ds = some ps → ∃ as, ReadsAll s.heap us ps as ∧ ∀ a ∈ as, H a ≠ none
  | [], _, _, _, r, l, q => by simp only [pyRAll] at q; cases q; cases r; cases l; exact ⟨_, .nil, by simp⟩
  | d :: ds, _, _, _, r, l, q => by
    obtain ⟨p, ps', z, z2, rfl⟩ := pyRAll_cons q
    cases r with
    | cons h r =>
      cases l with
      | cons l1 l2 =>
        obtain ⟨as, h1, a1⟩ := R.reads I eb d _ _ p h l1 z
        obtain ⟨bs, h2, a2⟩ := RA.reads I eb ds _ _ ps' r l2 z2
        refine ⟨_, .cons h1 h2, fun x hx => ?_⟩
        rcases List.mem_append.mp hx with hx | hx
        · exact a1 x hx
        · exact a2 x hx
end
end
/-- what repr writes -/
def dShow (d : D) : Option Str := match d.pyR with
  | some p => if p.showable = true ∧ p.shown.length ≤ sizeLine ∧ p.depth ≤ 60 then some p.shown else none
  | none => none
def rRep (K : PySem.W.Frag) : List V → Hp → VK → Prop := fun xs H Q => ∃ x d B t, xs = [x] ∧ Ex B H ∧ R K B x d ∧ dShow d = some t ∧ Q (.str t) H
theorem call_repr {X : Cx} (hg : X.A.guards = some []) (hu : X.A.units + 64 < cLine) (hsy : ∃ o, X.K.lookup sysModules = some o) : CallR X (.builtin "repr") (rRep X.K) := by
  intro pins s σ H xs us Q I rv h
  obtain ⟨x, d, B, t, rfl, eb, r, e, q⟩ := h
  unfold dShow at e
  cases z : d.pyR with
  | none => rw [z] at e; cases e
  | some p =>
    rw [z] at e
    have e : (if p.showable = true ∧ p.shown.length ≤ sizeLine ∧ p.depth ≤ 60 then some p.shown else none) = some t := e
    split at e
    · rename_i hc
      obtain ⟨h1, h2, h3⟩ := hc
      cases e
      obtain ⟨u, rfl, l⟩ := vals1 rv
      obtain ⟨as, hr, ha⟩ := R.reads I eb d x u p r l z
      have hsm : p.hasDict = true → sysModules ∉ as := fun _ hm => by
        obtain ⟨o, ho⟩ := hsy
        exact ha _ hm (I.bs _ _ (I.mod.kin _ _ ho)).2
      have fin : ∀ (h' : Heap) (u' : Tok) (tk : Nat), (∀ b o, s.heap.get? b = some o → h'.get? b = some o) → EP X pins σ Q (.str p.shown u') { s with heap := h', toks := tk } :=
        fun h' u' tk k => ⟨.str p.shown, H, I.kept k, ⟨u', rfl⟩, q⟩
      have dp : X.A.units + (p.depth + 1) < cLine := by omega
      cases hr with
      | none => exact PySem.P.repr_of_none (fin s.heap _ _ fun _ _ z => z)
      | bool b => exact PySem.P.repr_of_bool (fin s.heap _ _ fun _ _ z => z)
      | int i t => exact PySem.P.repr_of_int (by simpa [PyData.showable] using h1) (fin s.heap _ _ fun _ _ z => z)
      | str x t => exact PySem.P.repr_of_str (fin s.heap _ _ fun _ _ z => z) h2
      | list g1 g2 g3 g4 => exact repr_of_reads' (.list g1 g2 g3 g4) h1 hsm hg dp (fun _ _ z => z) fin h2
      | tuple g1 g2 g3 g4 => exact repr_of_reads' (.tuple g1 g2 g3 g4) h1 hsm hg dp (fun _ _ z => z) fin h2
      | dict g1 g2 g3 g4 g5 => exact repr_of_reads' (.dict g1 g2 g3 g4 g5) h1 hsm hg dp (fun _ _ z => z) fin h2
    · cases e
section
variable {X : Cx} {E : XK}
def one (k : D → Option D) : List D → Option D
  | [d] => k d
  | _ => none
theorem CallD.one {r : List V → Hp → VK → Prop} {k : D → Option D} (h : ∀ (σ : St) (ρ : Rho) (B H : Hp) (v : V) (d0 d : D) (Q : VK), Sta X.K B ρ σ H → R X.K B v d0 → k d0 = some d → (∀ B' H', Stp X.K σ ρ B H ρ B' H' → ∀ v, R X.K B' v d → Q v H') → r [v] H Q) :
    CallD X.K E r (fun ds => PD.opt (PD.one k ds)) := fun σ ρ B H vs ds Q S ra z => by
  obtain ⟨d, e, q⟩ := Aft.opt' z
  cases ra with
  | nil => cases e
  | cons r1 ra =>
    cases ra with
    | nil => exact h σ ρ B H _ _ d Q S r1 e q
    | cons r2 ra => cases e
theorem kRepr : CallD X.K E (rRep X.K) (fun ds => opt (one (fun d => (dShow d).map D.str) ds)) := CallD.one fun σ ρ B H v d0 d Q S r e q => by
  obtain ⟨t, e1, rfl⟩ := Option.map_eq_some_iff.mp e
  exact ⟨v, d0, B, t, rfl, S.bh, r, e1, q B H (.refl S) _ (.str t)⟩
/-! ### len -/
def dLen : D → Option D
  | .lst xs => some (.int xs.length)
  | .tup xs => some (.int xs.length)
  | .scr ns => some (.int ns.length)
  | .str z => if z.length ≤ sizeLine then some (.int z.length) else none
  | .dic ks _ => some (.int ks.length)
  | _ => none
def rLn (K : PySem.W.Frag) : List V → Hp → VK → Prop := fun xs H Q => ((∃ p ys, xs = [.ref p] ∧ (SqL K H p ys ∨ SqT K H p ys) ∧ Q (.int ys.length) H) ∨ (∃ x n, xs = [x] ∧ LenV K x H n ∧ Q (.int n) H)) ∨ (∃ a kvs, xs = [V.ref a] ∧ H a = some (.dK kvs) ∧ Q (.int kvs.length) H)
theorem CallR.or {f : Value} {r r' : List V → Hp → VK → Prop} (h : CallR X f r) (h' : CallR X f r') : CallR X f (fun xs H Q => r xs H Q ∨ r' xs H Q) := fun pins s σ H xs us Q I rv q => by
  rcases q with q | q
  · exact h pins s σ H xs us Q I rv q
  · exact h' pins s σ H xs us Q I rv q
theorem call_ln : CallR X (.builtin "len") (rLn X.K) := CallR.or (CallR.or call_len_seq call_len) call_lenD
theorem kLen : CallD X.K E (rLn X.K) (fun ds => opt (one dLen ds)) := CallD.one fun σ ρ B H v d0 d Q S r e q => by
  have q := fun v => q B H (.refl S) v
  cases r <;> simp only [dLen, reduceCtorEq] at e
  · split at e
    · cases e; exact .inl (.inr ⟨_, _, rfl, ⟨by assumption, rfl⟩, q _ (.int _)⟩)
    · cases e
  · rename_i ns h
    cases e
    refine .inl (.inl ⟨_, _, rfl, .inl (Evl.ex_l S.bh h), ?_⟩)
    rw [List.length_map]; exact q _ (.int _)
  · rename_i h ra
    cases e
    refine .inl (.inl ⟨_, _, rfl, .inl (SqL.of (S.bh _ _ h)), ?_⟩)
    rw [ra.length]; exact q _ (.int _)
  · rename_i h ra
    cases e
    refine .inl (.inl ⟨_, _, rfl, .inr (Evl.ex_t S.bh h), ?_⟩)
    rw [ra.length]; exact q _ (.int _)
  · rename_i kvs ks vs h ra rb
    cases e
    refine .inr ⟨_, _, rfl, S.bh _ _ h, ?_⟩
    have e1 : kvs.length = ks.length := by rw [← ra.length, List.length_map]
    rw [e1]; exact q _ (.int _)
/-! ### divmod -/
def dDm : List D → Option D
  | [.int i, .int j] => if 0 < j ∧ j < 2 ^ 1000 then some (.tup [.int (i / j), .int (i % j)]) else none
  | _ => none
theorem small_div {i j : Int} (h1 : 0 < j) (h2 : j < 2 ^ 1000) : CDivP i j := by
  refine ⟨h1, ?_⟩
  have hl : j.natAbs.log2 < 1000 := (Nat.log2_lt (by omega)).mpr (by omega)
  have hj : (j == 0) = false := by
    cases z : j == 0 with
    | false => rfl
    | true => have := eq_of_beq z; omega
  have hd : ¬ (j.natAbs.log2 / 30 + 1 > 300) := by omega
  unfold Builtin.divisionGoesByPylong
  simp only [hj, Bool.false_eq_true, if_false, Bool.and_eq_false_imp, decide_eq_true_eq]
  intro z
  exact (hd z).elim
theorem kDm : CallD X.K E (fun xs H Q => ∃ i j, xs = [.int i, .int j] ∧ CDivP i j ∧ ∀ p, H p = none → Q (.ref p) (upd H p (.tup [.int (i / j), .int (i % j)]))) (fun ds => opt (dDm ds)) := fun σ ρ B H vs ds Q S ra z => by
  obtain ⟨d, e, q⟩ := Aft.opt' z
  cases ra with
  | nil => cases e
  | cons r1 ra =>
    cases ra with
    | nil => cases r1 <;> cases e
    | cons r2 ra =>
      cases ra with
      | cons r3 ra => cases r1 <;> cases r2 <;> cases e
      | nil =>
        cases r1 <;> try (cases e; done)
        cases r2 <;> try (cases e; done)
        simp only [dDm] at e
        split at e
        · rename_i h
          cases e
          exact ⟨_, _, rfl, small_div h.1 h.2, fun p hp => q _ _ (S.laid hp) _ (.tup (SqT.of upd_same) (.cons (.int _) (.cons (.int _) .nil)))⟩
        · cases e
/-! ### all of a list of bools -/
def bools : List D → Option (List Bool)
  | [] => some []
  | .bl b :: r => (bools r).map (b :: ·)
  | _ :: _ => none
def dAll : D → Option D
  | .lst xs => (bools xs).map fun bs => .bl (bs.all id)
  | _ => none
theorem bools_of {B : Hp} : ∀ {vs : List V} {ds : List D} {bs : List Bool}, RA X.K B vs ds → bools ds = some bs → vs = bs.map V.bl
  | _, _, _, .nil, e => by cases e; rfl
  | _, _, bs, .cons (d := d) (ds := ds) h r, e => by
    cases h with
    | bl b =>
      simp only [bools] at e
      obtain ⟨cs, e1, rfl⟩ := Option.map_eq_some_iff.mp e
      rw [bools_of r e1]; rfl
    | _ => simp only [bools, reduceCtorEq] at e
theorem kAll : CallD X.K E (rAll X.K) (fun ds => opt (one dAll ds)) := CallD.one fun σ ρ B H v d0 d Q S r e q => by
  have q := fun v => q B H (.refl S) v
  cases r <;> simp only [dAll, reduceCtorEq] at e
  rename_i h ra
  obtain ⟨bs, e1, rfl⟩ := Option.map_eq_some_iff.mp e
  have hv := bools_of ra e1
  subst hv
  exact ⟨_, bs, rfl, SqL.of (S.bh _ _ h), q _ (.bl _)⟩
/-! ### tuple(x), list(x) -/
def dTup : D → Option D
  | .lst xs => some (.tup xs)
  | .tup xs => some (.tup xs)
  | _ => none
theorem kTup : CallD X.K E (fun xs H Q => ∃ p ys, xs = [.ref p] ∧ ((SqL X.K H p ys ∧ ∀ l, H l = none → Q (.ref l) (upd H l (.tup ys))) ∨ (SqT X.K H p ys ∧ Q (.ref p) H))) (fun ds => opt (one dTup ds)) := CallD.one fun σ ρ B H v d0 d Q S r e q => by
  cases r <;> cases e
  · rename_i h ra
    exact ⟨_, _, rfl, .inl ⟨SqL.of (S.bh _ _ h), fun l hl => q _ _ (S.laid hl) _ (.tup (SqT.of upd_same) (ra.mono (Evl.Ex.new (S.bnone hl))))⟩⟩
  · rename_i h ra
    exact ⟨_, _, rfl, .inr ⟨Evl.ex_t S.bh h, q B H (.refl S) _ (.tup h ra)⟩⟩
def dLst : D → Option D
  | .lst xs => some (.lst xs)
  | .tup xs => some (.lst xs)
  | _ => none
theorem kLst : CallD X.K E (fun xs H Q => ∃ p ys, xs = [.ref p] ∧ (SqL X.K H p ys ∨ SqT X.K H p ys) ∧ ∀ l, H l = none → Q (.ref l) (upd H l (.lst ys))) (fun ds => opt (one dLst ds)) := CallD.one fun σ ρ B H v d0 d Q S r e q => by
  cases r <;> cases e
  · rename_i h ra
    exact ⟨_, _, rfl, .inl (SqL.of (S.bh _ _ h)), fun l hl => q _ _ (S.laid hl) _ (.lst upd_same (ra.mono (Evl.Ex.new (S.bnone hl))))⟩
  · rename_i h ra
    exact ⟨_, _, rfl, .inr (Evl.ex_t S.bh h), fun l hl => q _ _ (S.laid hl) _ (.lst upd_same (ra.mono (Evl.Ex.new (S.bnone hl))))⟩
/-! ### isinstance(x, T) -/
def D.kind : D → Option String
  | .non => some "NoneType"
  | .bl _ => some "bool"
  | .int _ => some "int"
  | .str _ => some "str"
  | .lst _ => some "list"
  | .tup _ => some "tuple"
  | .dic _ _ => some "dict"
  | _ => none
theorem R.tyx {B H : Hp} {v : V} {d : D} {T : String} (eb : Ex B H) (r : R X.K B v d) (h : d.kind = some T) : TyX X.K H v (.type T) := by
  cases r <;> cases h
  · exact .base .non
  · exact .base (.bl _)
  · exact .base (.int _)
  · exact .base (.str _)
  · rename_i h ra; exact .base (.lst (eb _ _ h))
  · rename_i h ra
    rcases Evl.ex_t eb h with (q | ⟨o, q⟩) | ⟨o, its, n, q, c, _⟩
    · exact .base (.tup q)
    · exact .fTuple q
    · exact .kTuple q c
  · rename_i h ra rb; exact .base (.dK (eb _ _ h))
def dIsi : List D → Option D
  | [d, .ty U] => match d.kind with
    | some T => (kitB T U).map D.bl
    | none => none
  | _ => none
theorem kIsi : CallD X.K E (rIsi X.K) (fun ds => opt (dIsi ds)) := CallD.opt fun B H vs ds d Q eb ra e q => by
  cases ra with
  | nil => cases e
  | cons r1 ra =>
    cases ra with
    | nil => cases e
    | cons r2 ra =>
      cases ra with
      | cons r3 ra => cases r2 <;> cases e
      | nil =>
        cases r2 <;> try (cases e; done)
        rename_i n
        simp only [dIsi] at e
        split at e
        · rename_i T hT
          obtain ⟨b, e1, rfl⟩ := Option.map_eq_some_iff.mp e
          exact ⟨_, _, _, _, b, rfl, .ty n, R.tyx eb r1 hT, kit_ty e1, q _ (.bl b)⟩
        · cases e
/-! ### sep.join(xs) -/
def strs' : List D → Option (List Str)
  | [] => some []
  | .str b :: r => (strs' r).map (b :: ·)
  | _ :: _ => none
theorem strs_of {B : Hp} : ∀ {vs : List V} {ds : List D} {bs : List Str}, RA X.K B vs ds → strs' ds = some bs → vs = bs.map V.str
  | _, _, _, .nil, e => by cases e; rfl
  | _, _, bs, .cons (d := d) (ds := ds) h r, e => by
    cases h with
    | str b =>
      simp only [strs'] at e
      obtain ⟨cs, e1, rfl⟩ := Option.map_eq_some_iff.mp e
      rw [strs_of r e1]; rfl
    | _ => simp only [strs', reduceCtorEq] at e
def dJoin : D → D → Option D
  | .str a, .lst xs => match strs' xs with
    | some ys => if (ys.map (·.length)).sum + ys.length * a.length ≤ 16777216 then some (.str (Txt.join a ys)) else none
    | none => none
  | .str a, .tup xs => match strs' xs with
    | some ys => if (ys.map (·.length)).sum + ys.length * a.length ≤ 16777216 then some (.str (Txt.join a ys)) else none
    | none => none
  | _, _ => none
variable {o e : Expr} {fo fe : M D}
def strM (fo : M D) (k : Str → M D) : M D := bnd fo fun x => match x with
  | .str a => k a
  | _ => fun _ => .bad
theorem eJoin {apos pos : Pos} (ho : PE X o (tE X.K E fo)) (he : PE X e (tE X.K E fe)) (hs : starEach [e] X.env = [(false, eval e X.env)] := by rfl) (hbase : attributeBase o "join" X.env (eval o X.env) = eval o X.env := by rfl) (hline : (apos.endLine == pos.line) = true := by rfl) :
    PE X (.Call (.Attribute o "join" apos) [e] [] pos) (tE X.K E (strM fo fun a => bnd fe fun y => opt (dJoin (.str a) y))) := PE.imp (pe_join ho he hs hbase hline) fun σ H Q ⟨B, ρ, S, z⟩ => ⟨B, ρ, S, z.bind.mono fun d1 ρ1 B1 H1 s1 a1 v1 r1 => by
  cases r1 with
  | str a =>
    refine ⟨⟨a, rfl⟩, B1, ρ1, s1.st, Aft.mono (Aft.bind (x := fe) a1) fun d2 ρ2 B2 H2 s2 a2 v2 r2 => ?_⟩
    obtain ⟨d, e, q⟩ := Aft.opt a2 s2.st
    cases r2 <;> simp only [dJoin, reduceCtorEq] at e
    · rename_i h ra
      split at e
      · rename_i ys hy
        split at e
        · rename_i hz
          cases e
          have hv := strs_of ra hy
          subst hv
          exact ⟨a, _, ys, rfl, rfl, .inl (SqL.of (s2.st.bh _ _ h)), hz, q _ (.str _)⟩
        · cases e
      · cases e
    · rename_i h ra
      split at e
      · rename_i ys hy
        split at e
        · rename_i hz
          cases e
          have hv := strs_of ra hy
          subst hv
          exact ⟨a, _, ys, rfl, rfl, .inr (Evl.ex_t s2.st.bh h), hz, q _ (.str _)⟩
        · cases e
      · cases e
  | non => exact a1.elim
  | bl b => exact a1.elim
  | int i => exact a1.elim
  | ty n => exact a1.elim
  | ref p => exact a1.elim
  | scr h => exact a1.elim
  | lst h r => exact a1.elim
  | tup h r => exact a1.elim
  | dic h r q => exact a1.elim⟩
end
end PD
namespace PD
open PySem L2
theorem get_set {α : Type} (l : List α) (i j : Nat) (x y : α) (h : (l.set i x)[j]? = some y) : (j = i ∧ y = x ∧ i < l.length) ∨ (j ≠ i ∧ l[j]? = some y) := by
  rw [List.getElem?_set] at h
  split at h
  · rename_i e
    split at h
    · exact .inl ⟨e.symm, (Option.some.inj h).symm, by assumption⟩
    · cases h
  · rename_i e
    exact .inr ⟨fun z => e z.symm, h⟩
theorem set_at {α : Type} {l : List α} {i : Nat} {x : α} (h : i < l.length) : (l.set i x)[i]? = some x := List.getElem?_set_self h
theorem set_off {α : Type} {l : List α} {i j : Nat} {x : α} (h : j ≠ i) : (l.set i x)[j]? = l[j]? := List.getElem?_set_ne (Ne.symm h)
def Slot.to (s : Slot) (d : D) : Slot := match s with
  | .own _ => .own d
  | .io _ => .io d
  | s => s
theorem Slot.to_mu {s : Slot} {d : D} (h : s.mu) : (s.to d).mu := by cases s <;> first | exact h | exact trivial
section
variable {K : PySem.W.Frag} {B H : Hp} {ρ : Rho} {σ : St} {p : Addr} {o : HO} {i : Nat} {s : Slot} {d : D} {v : V}
theorem own_at (S : Sta K B ρ σ H) (e : ρ[i]? = some s) (m : s.mu) : ∃ p, σ[i]? = some (some (.ref p)) ∧ B p = none ∧ ∃ d, s = s.to d ∧ Own K B H p d := by
  have q := S.sl i s e
  cases s with
  | no => exact m.elim
  | dat d => exact m.elim
  | own d => obtain ⟨p, e1, n, w⟩ := q; exact ⟨p, join_some e1, n, d, rfl, w⟩
  | io d => obtain ⟨p, e1, n, w⟩ := q; exact ⟨p, join_some e1, n, d, rfl, w⟩
theorem Sta.setDat (S : Sta K B ρ σ H) (r : R K B v d) : Sta K B (ρ.set i (.dat d)) (σ.set i (some v)) H where
  bh := S.bh
  len := by rw [List.length_set, List.length_set]; exact S.len
  sl := fun j t e => by
    rcases get_set _ _ _ _ _ e with ⟨rfl, rfl, hl⟩ | ⟨ne, e⟩
    · rw [set_at (by rw [S.len]; exact hl)]; exact ⟨v, rfl, r⟩
    · rw [set_off ne]; exact S.sl j t e
  dj := fun j k t u q e1 e2 m1 m2 h1 h2 => by
    rcases get_set _ _ _ _ _ e1 with ⟨rfl, rfl, hl⟩ | ⟨n1, e1⟩
    · exact m1.elim
    · rcases get_set _ _ _ _ _ e2 with ⟨rfl, rfl, hl⟩ | ⟨n2, e2⟩
      · exact m2.elim
      · rw [set_off n1] at h1; rw [set_off n2] at h2
        exact S.dj j k t u q e1 e2 m1 m2 h1 h2
theorem Sta.setNo (S : Sta K B ρ σ H) {x : Option V} : Sta K B (ρ.set i .no) (σ.set i x) H where
  bh := S.bh
  len := by rw [List.length_set, List.length_set]; exact S.len
  sl := fun j t e => by
    rcases get_set _ _ _ _ _ e with ⟨rfl, rfl, hl⟩ | ⟨ne, e⟩
    · trivial
    · rw [set_off ne]; exact S.sl j t e
  dj := fun j k t u q e1 e2 m1 m2 h1 h2 => by
    rcases get_set _ _ _ _ _ e1 with ⟨rfl, rfl, hl⟩ | ⟨n1, e1⟩
    · exact m1.elim
    · rcases get_set _ _ _ _ _ e2 with ⟨rfl, rfl, hl⟩ | ⟨n2, e2⟩
      · exact m2.elim
      · rw [set_off n1] at h1; rw [set_off n2] at h2
        exact S.dj j k t u q e1 e2 m1 m2 h1 h2
theorem Sta.setOwn (S : Sta K B ρ σ H) (hb : B p = none) (ow : Own K B H p d) (no : ¬ ownAt ρ σ p) : Sta K B (ρ.set i (.own d)) (σ.set i (some (.ref p))) H where
  bh := S.bh
  len := by rw [List.length_set, List.length_set]; exact S.len
  sl := fun j t e => by
    rcases get_set _ _ _ _ _ e with ⟨rfl, rfl, hl⟩ | ⟨ne, e⟩
    · rw [set_at (by rw [S.len]; exact hl)]; exact ⟨p, rfl, hb, ow⟩
    · rw [set_off ne]; exact S.sl j t e
  dj := fun j k t u q e1 e2 m1 m2 h1 h2 => by
    rcases get_set _ _ _ _ _ e1 with ⟨rfl, rfl, hl⟩ | ⟨n1, e1b⟩
    · rcases get_set _ _ _ _ _ e2 with ⟨rfl, rfl, _⟩ | ⟨n2, e2⟩
      · rfl
      · rw [set_at (by rw [S.len]; exact hl)] at h1
        rw [set_off n2] at h2
        cases h1
        exact (no ⟨k, u, e2, m2, h2⟩).elim
    · rcases get_set _ _ _ _ _ e2 with ⟨rfl, rfl, hl⟩ | ⟨n2, e2⟩
      · rw [set_at (by rw [S.len]; exact hl)] at h2
        rw [set_off n1] at h1
        cases h2
        exact (no ⟨j, t, e1b, m1, h1⟩).elim
      · rw [set_off n1] at h1; rw [set_off n2] at h2
        exact S.dj j k t u q e1b e2 m1 m2 h1 h2
/-- the cell of an own slot is written -/
theorem Sta.write (S : Sta K B ρ σ H) (e : ρ[i]? = some s) (m : s.mu) (hv : σ[i]? = some (some (.ref p))) (hb : B p = none) (ow : Own K B (upd H p o) p d) : Stp K σ ρ B H (ρ.set i (s.to d)) B (upd H p o) := by
  have hi : i < ρ.length := (List.getElem?_eq_some_iff.mp e).1
  have nop : ∀ j t q, ρ[j]? = some t → t.mu → σ[j]? = some (some (.ref q)) → j ≠ i → q ≠ p := fun j t q e1 m1 h1 ne z => by
    subst z
    exact ne (S.dj j i t s q e1 e m1 m h1 hv)
  refine ⟨⟨ex_upd S.bh hb, by rw [List.length_set]; exact S.len, fun j t e1 => ?_, fun j k t u q e1 e2 m1 m2 h1 h2 => ?_⟩, ⟨fun _ _ z => z, fun _ _ z => .inl z, fun b u z no => ?_, fun b u z => ?_⟩, ⟨fun j t e1 m1 => ?_, fun j d1 e1 => ?_, by rw [List.length_set]⟩⟩
  · rcases get_set _ _ _ _ _ e1 with ⟨rfl, rfl, hl⟩ | ⟨ne, e1⟩
    · rw [hv]
      cases s with
      | no => exact m.elim
      | dat d => exact m.elim
      | own d0 => exact ⟨p, rfl, hb, ow⟩
      | io d0 => exact ⟨p, rfl, hb, ow⟩
    · have q := S.sl j t e1
      cases t with
      | no => trivial
      | dat d0 => exact q
      | own d0 =>
        obtain ⟨p', x1, x2, x3⟩ := q
        exact ⟨p', x1, x2, x3.move (fun _ _ z => z) fun u z => by rw [upd_ne (nop j _ p' e1 trivial (join_some x1) ne)]; exact z⟩
      | io d0 =>
        obtain ⟨p', x1, x2, x3⟩ := q
        exact ⟨p', x1, x2, x3.move (fun _ _ z => z) fun u z => by rw [upd_ne (nop j _ p' e1 trivial (join_some x1) ne)]; exact z⟩
  · have back : ∀ (j : Nat) (t : Slot), (ρ.set i (s.to d))[j]? = some t → t.mu → ∃ t' : Slot, ρ[j]? = some t' ∧ t'.mu := fun j t e1 m1 => by
      rcases get_set _ _ _ _ _ e1 with ⟨rfl, rfl, hl⟩ | ⟨ne, e1⟩
      · exact ⟨s, e, m⟩
      · exact ⟨t, e1, m1⟩
    obtain ⟨t', y1, y2⟩ := back j t e1 m1
    obtain ⟨u', y3, y4⟩ := back k u e2 m2
    exact S.dj j k t' u' q y1 y3 y2 y4 h1 h2
  · have ne : b ≠ p := fun q => no (by rw [q]; exact ⟨i, s, e, m, hv⟩)
    rw [upd_ne ne]; exact z
  · by_cases ne : b = p
    · subst ne; exact ⟨_, upd_same⟩
    · exact ⟨u, by rw [upd_ne ne]; exact z⟩
  · rcases get_set _ _ _ _ _ e1 with ⟨rfl, rfl, hl⟩ | ⟨ne, e1⟩
    · exact ⟨s, e, m⟩
    · exact ⟨t, e1, m1⟩
  · by_cases ne : j = i
    · subst ne
      rw [e] at e1; cases e1
      exact ⟨d, set_at hi⟩
    · exact ⟨d1, by rw [set_off ne]; exact e1⟩
def frzO (H : Hp) (p : Addr) : HO := (H p).getD (.lst [])
/-- an own slot becomes data -/
theorem Sta.thaw (S : Sta K B ρ σ H) (e : ρ[i]? = some (.own d)) : ∃ v B', σ[i]? = some (some v) ∧ R K B' v d ∧ Stp K σ ρ B H (ρ.set i (.dat d)) B' H := by
  obtain ⟨p, x1, hb, ow⟩ := S.sl i _ e
  have hv := join_some x1
  have hi : i < ρ.length := (List.getElem?_eq_some_iff.mp e).1
  obtain ⟨u, hu⟩ := ow.there
  have own1 : ownAt ρ σ p := ⟨i, _, e, trivial, hv⟩
  have exb : Ex B (upd B p u) := Evl.Ex.new hb
  have r : R K (upd B p u) (.ref p) d := by
    cases d with
    | lst ds => obtain ⟨vs, h1, ra⟩ := ow; rw [hu] at h1; cases h1; exact .lst upd_same (ra.mono exb)
    | dic ks vs => obtain ⟨kvs, h1, ra, rb⟩ := ow; rw [hu] at h1; cases h1; exact .dic upd_same (ra.mono exb) (rb.mono exb)
    | _ => exact ow.elim
  refine ⟨.ref p, upd B p u, hv, r, ⟨⟨fun b w z => ?_, by rw [List.length_set]; exact S.len, fun j t e1 => ?_, fun j k t w q e1 e2 m1 m2 h1 h2 => ?_⟩, ⟨exb, fun b w z => ?_, fun _ _ z _ => z, fun b w z => ⟨w, z⟩⟩, ⟨fun j t e1 m1 => ?_, fun j d1 e1 => ?_, by rw [List.length_set]⟩⟩⟩
  · by_cases ne : b = p
    · subst ne; rw [upd_same] at z; cases z; exact hu
    · rw [upd_ne ne] at z; exact S.bh b w z
  · rcases get_set _ _ _ _ _ e1 with ⟨rfl, rfl, hl⟩ | ⟨ne, e1⟩
    · rw [hv]; exact ⟨_, rfl, r⟩
    · have q := S.sl j t e1
      have nop : ∀ q, t.mu → σ[j]? = some (some (.ref q)) → q ≠ p := fun q m1 h1 z => by
        subst z
        exact ne (S.dj j i t _ q e1 e m1 trivial h1 hv)
      cases t with
      | no => trivial
      | dat d0 => obtain ⟨y, y1, y2⟩ := q; exact ⟨y, y1, y2.mono exb⟩
      | own d0 => obtain ⟨p', y1, y2, y3⟩ := q; exact ⟨p', y1, by rw [upd_ne (nop p' trivial (join_some y1))]; exact y2, y3.move exb fun _ z => z⟩
      | io d0 => obtain ⟨p', y1, y2, y3⟩ := q; exact ⟨p', y1, by rw [upd_ne (nop p' trivial (join_some y1))]; exact y2, y3.move exb fun _ z => z⟩
  · have back : ∀ (j : Nat) (t : Slot), (ρ.set i (.dat d))[j]? = some t → t.mu → ρ[j]? = some t := fun j t e1 m1 => by
      rcases get_set _ _ _ _ _ e1 with ⟨rfl, rfl, hl⟩ | ⟨ne, e1⟩
      · exact m1.elim
      · exact e1
    exact S.dj j k t w q (back j t e1 m1) (back k w e2 m2) m1 m2 h1 h2
  · by_cases ne : b = p
    · subst ne; exact .inr (.inr own1)
    · rw [upd_ne ne] at z; exact .inl z
  · rcases get_set _ _ _ _ _ e1 with ⟨rfl, rfl, hl⟩ | ⟨ne, e1⟩
    · exact m1.elim
    · exact ⟨t, e1, m1⟩
  · have ne : j ≠ i := fun z => by subst z; rw [e] at e1; cases e1
    exact ⟨d1, by rw [set_off ne]; exact e1⟩
end
section
variable {X : Cx} {E : XK} {a b e : Expr} {fa fb f : M D} {pos : Pos}
/-- a slot's value; an own one is frozen by it -/
def rdF (i : Nat) : M D := fun ρ => match ρ[i]? with
  | some (.dat d) => .ok d ρ
  | some (.own d) => .ok d (ρ.set i (.dat d))
  | _ => .bad
theorem varF {e : Expr} (i : Nat) (h : PE X e (tVar i)) : PE X e (tE X.K E (rdF i)) := PE.imp h fun σ H Q ⟨B, ρ, S, a⟩ => by
  unfold rdF at a
  cases z : ρ[i]? with
  | none => rw [z] at a; exact a.elim
  | some s =>
    rw [z] at a
    cases s with
    | dat d =>
      obtain ⟨v, e, r⟩ := S.sl i _ z
      exact ⟨v, join_some e, a B H (.refl S) v r⟩
    | own d =>
      obtain ⟨v, B', hv, r, st⟩ := S.thaw z
      exact ⟨v, hv, a B' H st v r⟩
    | no => exact a.elim
    | io d => exact a.elim
/-- what an own slot holds now -/
def cur (i : Nat) : M D := fun ρ => match ρ[i]? with
  | some (.own d) => .ok d ρ
  | some (.io d) => .ok d ρ
  | _ => .bad
def isMu (i : Nat) : M Unit := fun ρ => match ρ[i]? with
  | some (.own _) => .ok () ρ
  | some (.io _) => .ok () ρ
  | _ => .bad
def putM (i : Nat) (d : D) : M Unit := fun ρ => match ρ[i]? with
  | some (.own _) => .ok () (ρ.set i (.own d))
  | some (.io _) => .ok () (ρ.set i (.io d))
  | _ => .bad
theorem isMu_of {K : PySem.W.Frag} {σ : St} {ρ : Rho} {B H : Hp} {i : Nat} {Q : Unit → Rho → Hp → Hp → Prop} (h : Aft K E σ ρ B H (isMu i ρ) Q) (S : Sta K B ρ σ H) : (∃ s, ρ[i]? = some s ∧ s.mu) ∧ Q () ρ B H := by
  unfold isMu at h
  cases z : ρ[i]? with
  | none => rw [z] at h; exact h.elim
  | some s =>
    rw [z] at h
    cases s with
    | own d => exact ⟨⟨_, rfl, trivial⟩, h B H (.refl S)⟩
    | io d => exact ⟨⟨_, rfl, trivial⟩, h B H (.refl S)⟩
    | dat d => exact h.elim
    | no => exact h.elim
theorem cur_of {K : PySem.W.Frag} {σ : St} {ρ : Rho} {B H : Hp} {i : Nat} {Q : D → Rho → Hp → Hp → Prop} (h : Aft K E σ ρ B H (cur i ρ) Q) (S : Sta K B ρ σ H) : ∃ p d, σ[i]? = some (some (.ref p)) ∧ (∃ s, ρ[i]? = some s ∧ s.mu) ∧ B p = none ∧ Own K B H p d ∧ Q d ρ B H := by
  unfold cur at h
  cases z : ρ[i]? with
  | none => rw [z] at h; exact h.elim
  | some s =>
    rw [z] at h
    cases s with
    | own d => obtain ⟨p, e1, n, w⟩ := S.sl i _ z; exact ⟨p, d, join_some e1, ⟨_, rfl, trivial⟩, n, w, h B H (.refl S)⟩
    | io d => obtain ⟨p, e1, n, w⟩ := S.sl i _ z; exact ⟨p, d, join_some e1, ⟨_, rfl, trivial⟩, n, w, h B H (.refl S)⟩
    | dat d => exact h.elim
    | no => exact h.elim
theorem put_of {K : PySem.W.Frag} {σ : St} {ρ : Rho} {B H : Hp} {i : Nat} {d : D} {Q : Unit → Rho → Hp → Hp → Prop} (h : Aft K E σ ρ B H (putM i d ρ) Q) : ∃ s, ρ[i]? = some s ∧ s.mu ∧ ∀ B' H', Stp K σ ρ B H (ρ.set i (s.to d)) B' H' → Q () (ρ.set i (s.to d)) B' H' := by
  unfold putM at h
  cases z : ρ[i]? with
  | none => rw [z] at h; exact h.elim
  | some s =>
    rw [z] at h
    cases s with
    | own d0 => exact ⟨_, rfl, trivial, h⟩
    | io d0 => exact ⟨_, rfl, trivial, h⟩
    | dat d => exact h.elim
    | no => exact h.elim
/-- x[i] of an own list -/
def ixO (i : Nat) (fb : M D) : M D := bnd (isMu i) fun _ => bnd fb fun y => bnd (cur i) fun d => opt (dIx d y)
theorem eIxO (i : Nat) (ha : PE X a (tVar i)) (hb : PE X b (tE X.K E fb)) (hs : PlainIx b := by exact fun _ _ => rfl) : PE X (.Subscript a b pos) (tE X.K E (ixO i fb)) := PE.imp (pe_ix ix_seq ha hb hs) fun σ H Q ⟨B, ρ, S, z⟩ => by
  obtain ⟨⟨s, e, m⟩, z⟩ := isMu_of z.bind S
  obtain ⟨p, hv, _⟩ := own_at S e m
  refine ⟨.ref p, hv, B, ρ, S, z.bind.mono fun d1 ρ1 B1 H1 s1 a1 v1 r1 => ?_⟩
  obtain ⟨p', d, hv', _, hb', ow, a2⟩ := cur_of a1.bind s1.st
  rw [hv] at hv'; cases hv'
  obtain ⟨d', e', q⟩ := Aft.opt a2 s1.st
  cases d with
  | lst ds =>
    obtain ⟨vs, hp, ra⟩ := ow
    cases r1 <;> simp only [dIx, reduceCtorEq] at e'
    obtain ⟨v, e1, rv⟩ := ra.atI e'
    exact .inl ⟨_, _, _, v, rfl, rfl, SqL.of hp, e1, q _ rv⟩
  | dic ks vs => cases r1 <;> simp only [dIx, reduceCtorEq] at e'
  | _ => exact ow.elim
end
end PD
namespace PD
open PySem L2
/-- a frame's entry -/
structure Fm where
  B0 : Hp
  H0 : Hp
  σ0 : St
  ρ0 : Rho
structure StF (K : PySem.W.Frag) (F : Fm) (B : Hp) (ρ : Rho) (σ : St) (H : Hp) : Prop where
  st : Sta K B ρ σ H
  adv : Adv (ownAt F.ρ0 F.σ0) F.B0 F.H0 B H
  oo : ∀ b, ownAt ρ σ b → ownAt F.ρ0 F.σ0 b ∨ F.H0 b = none
  ios : ∀ (i : Nat) (d : D), F.ρ0[i]? = some (.io d) → σ[i]? = F.σ0[i]? ∧ ∃ d', ρ[i]? = some (.io d')
inductive Fl where
  | nx (ρ : Rho) | rt (d : D) (ρ : Rho) | rn (d : D) (ρ : Rho) | bk (ρ : Rho) | ct (ρ : Rho) | exc (C : Addr) (fs : List (Str × D)) (ρ : Rho) | bad
abbrev MS := Rho → Fl
def AftS (K : PySem.W.Frag) (F : Fm) (E : XK) (o : Fl) (W : Ends) : Prop := match o with
  | .nx ρ' => ∀ σ' B' H', StF K F B' ρ' σ' H' → W.nx σ' H'
  | .rt d ρ' => ∀ v σ' B' H', StF K F B' ρ' σ' H' → R K B' v d → W.rt v H'
  | .rn d ρ' => ∀ p σ' B' H', StF K F B' ρ' σ' H' → F.H0 p = none → B' p = none → Own K B' H' p d → ¬ ownAt ρ' σ' p → W.rt (.ref p) H'
  | .bk ρ' => ∀ σ' B' H', StF K F B' ρ' σ' H' → W.bk σ' H'
  | .ct ρ' => ∀ σ' B' H', StF K F B' ρ' σ' H' → W.ct σ' H'
  | .exc C fs ρ' => ∀ dx vfs σ' B' H', StF K F B' ρ' σ' H' → H' dx = some (.xd vfs) → RF K B' vfs fs → E (.ref C) (some dx) H'
  | .bad => False
def tS (K : PySem.W.Frag) (F : Fm) (E : XK) (f : MS) : TS := fun W σ H => ∃ B ρ, StF K F B ρ σ H ∧ AftS K F E (f ρ) W
/-- run an expression, go on with its value -/
def thenS {α : Type} (x : M α) (k : α → MS) : MS := fun ρ => match x ρ with
  | .ok a ρ' => k a ρ'
  | .exc C fs ρ' => .exc C fs ρ'
  | .bad => .bad
section
variable {K : PySem.W.Frag} {F : Fm} {E : XK} {B H : Hp} {ρ : Rho} {σ : St}
theorem StF.step {ρ' : Rho} {B' H' : Hp} (S : StF K F B ρ σ H) (s : Stp K σ ρ B H ρ' B' H') : StF K F B' ρ' σ H' :=
  ⟨s.st, S.adv.trans s.adv S.oo, fun b h => S.oo b (s.le.own h), fun i d e => let ⟨h1, d1, h2⟩ := S.ios i d e; ⟨h1, s.le.io i d1 h2⟩⟩
theorem Aft.thenS {α : Type} {x : M α} {k : α → MS} {W : Ends} (h : AftS K F E (PD.thenS x k ρ) W) (S : StF K F B ρ σ H) : Aft K E σ ρ B H (x ρ) fun a ρ1 B1 H1 => StF K F B1 ρ1 σ H1 ∧ AftS K F E (k a ρ1) W := by
  unfold PD.thenS at h
  cases e : x ρ with
  | bad => rw [e] at h; exact h
  | exc C fs ρ' => rw [e] at h; exact fun dx vfs B' H' s => h dx vfs σ B' H' (S.step s)
  | ok a ρ1 => rw [e] at h; exact fun B1 H1 s => ⟨S.step s, h⟩
theorem StF.noio {i : Nat} {s : Slot} (S : StF K F B ρ σ H) (e : ρ[i]? = some s) (h : ∀ d, s ≠ .io d) (d : D) : F.ρ0[i]? ≠ some (.io d) := fun z => by
  obtain ⟨_, d', q⟩ := S.ios i d z
  rw [e] at q
  exact h d' (Option.some.inj q)
/-- a slot is set to data -/
theorem StF.setDat {i : Nat} {s : Slot} {v : V} {d : D} (S : StF K F B ρ σ H) (e : ρ[i]? = some s) (h : ∀ d, s ≠ .io d) (r : R K B v d) : StF K F B (ρ.set i (.dat d)) (σ.set i (some v)) H := by
  refine ⟨S.st.setDat r, S.adv, fun b ow => ?_, fun j d1 e1 => ?_⟩
  · obtain ⟨j, t, x1, m, x2⟩ := ow
    rcases get_set _ _ _ _ _ x1 with ⟨rfl, rfl, hl⟩ | ⟨ne, x1⟩
    · exact m.elim
    · rw [set_off ne] at x2; exact S.oo b ⟨j, t, x1, m, x2⟩
  · have ne : j ≠ i := fun z => S.noio e h d1 (z ▸ e1)
    rw [set_off ne, set_off ne]; exact S.ios j d1 e1
theorem StF.setOwn {i : Nat} {s : Slot} {p : Addr} {d : D} (S : StF K F B ρ σ H) (e : ρ[i]? = some s) (h : ∀ d, s ≠ .io d) (hb : B p = none) (ow : Own K B H p d) (no : ¬ ownAt ρ σ p) (h0 : F.H0 p = none) : StF K F B (ρ.set i (.own d)) (σ.set i (some (.ref p))) H := by
  refine ⟨S.st.setOwn hb ow no, S.adv, fun b w => ?_, fun j d1 e1 => ?_⟩
  · obtain ⟨j, t, x1, m, x2⟩ := w
    rcases get_set _ _ _ _ _ x1 with ⟨rfl, rfl, hl⟩ | ⟨ne, x1⟩
    · rw [set_at (by rw [S.st.len]; exact hl)] at x2; cases x2; exact .inr h0
    · rw [set_off ne] at x2; exact S.oo b ⟨j, t, x1, m, x2⟩
  · have ne : j ≠ i := fun z => S.noio e h d1 (z ▸ e1)
    rw [set_off ne, set_off ne]; exact S.ios j d1 e1
/-- store into a slot that was not handed in -/
def setM (i : Nat) (d : D) : MS := fun ρ => match ρ[i]? with
  | some (.io _) => .bad
  | none => .bad
  | some _ => .nx (ρ.set i (.dat d))
def setNM (i : Nat) (d : D) : MS := fun ρ => match ρ[i]? with
  | some (.io _) => .bad
  | none => .bad
  | some _ => .nx (ρ.set i (.own d))
theorem setM_of {i : Nat} {d : D} {W : Ends} {v : V} (h : AftS K F E (setM i d ρ) W) (S : StF K F B ρ σ H) (r : R K B v d) : W.nx (σ.set i (some v)) H := by
  unfold setM at h
  cases z : ρ[i]? with
  | none => rw [z] at h; exact h.elim
  | some s =>
    rw [z] at h
    cases s with
    | io d0 => exact h.elim
    | no => exact h _ B H (S.setDat z (fun _ q => nomatch q) r)
    | dat d0 => exact h _ B H (S.setDat z (fun _ q => nomatch q) r)
    | own d0 => exact h _ B H (S.setDat z (fun _ q => nomatch q) r)
theorem setNM_of {i : Nat} {d : D} {W : Ends} {p : Addr} (h : AftS K F E (setNM i d ρ) W) (S : StF K F B ρ σ H) (hb : B p = none) (ow : Own K B H p d) (no : ¬ ownAt ρ σ p) (h0 : F.H0 p = none) : W.nx (σ.set i (some (.ref p))) H := by
  unfold setNM at h
  cases z : ρ[i]? with
  | none => rw [z] at h; exact h.elim
  | some s =>
    rw [z] at h
    cases s with
    | io d0 => exact h.elim
    | no => exact h _ B H (S.setOwn z (fun _ q => nomatch q) hb ow no h0)
    | dat d0 => exact h _ B H (S.setOwn z (fun _ q => nomatch q) hb ow no h0)
    | own d0 => exact h _ B H (S.setOwn z (fun _ q => nomatch q) hb ow no h0)
end
section
variable {X : Cx} {F : Fm} {E : XK} {a b c e : Expr} {f fa fb : M D} {pos : Pos} {st : Stmt} {rest body : List Stmt} {g g' : MS}
def seqS (f g : MS) : MS := fun ρ => match f ρ with
  | .nx ρ' => g ρ'
  | o => o
theorem sNil : PSs X [] (tS X.K F E .nx) := PSs.imp pss_nil fun W σ H ⟨B, ρ, S, h⟩ => h σ B H S
theorem sCons (h : PS X st (tS X.K F E g)) (h' : PSs X rest (tS X.K F E g')) : PSs X (st :: rest) (tS X.K F E (seqS g g')) := PSs.imp (pss_cons h h') fun W σ H ⟨B, ρ, S, z⟩ => ⟨B, ρ, S, by
  unfold seqS at z
  cases e : g ρ with
  | nx ρ' => rw [e] at z; exact fun σ' B' H' S' => ⟨B', ρ', S', z⟩
  | rt d ρ' => rw [e] at z; exact z
  | rn d ρ' => rw [e] at z; exact z
  | bk ρ' => rw [e] at z; exact z
  | ct ρ' => rw [e] at z; exact z
  | exc C fs ρ' => rw [e] at z; exact z
  | bad => rw [e] at z; exact z⟩
theorem sOne (h : PS X st (tS X.K F E g)) : PSs X [st] (tS X.K F E (seqS g .nx)) := sCons h sNil
def ifS (f : M Bool) (g g' : MS) : MS := thenS f fun k => if k = true then g else g'
theorem sIf {t : M Bool} {x y : List Stmt} (hc : PT X c (tT X.K E t)) (ha : PSs X x (tS X.K F E g)) (hb : PSs X y (tS X.K F E g')) : PS X (.If c x y pos) (tS X.K F E (ifS t g g')) := PS.imp (ps_if hc ha hb) fun W σ H ⟨B, ρ, S, z⟩ =>
  ⟨B, ρ, S.st, (Aft.thenS z S).mono fun k ρ1 B1 H1 s1 ⟨S1, z1⟩ => by
    cases k with
    | true => exact ⟨B1, ρ1, S1, z1⟩
    | false => exact ⟨B1, ρ1, S1, z1⟩⟩
theorem sRet (h : PE X e (tE X.K E f)) : PS X (.Return (some e) pos) (tS X.K F E (thenS f fun d => .rt d)) := PS.imp (ps_ret h) fun W σ H ⟨B, ρ, S, z⟩ =>
  ⟨B, ρ, S.st, (Aft.thenS z S).mono fun d ρ1 B1 H1 s1 ⟨S1, z1⟩ v r => z1 v σ B1 H1 S1 r⟩
theorem sRetNone : PS X (.Return none pos) (tS X.K F E (.rt .non)) := PS.imp ps_retN fun W σ H ⟨B, ρ, S, z⟩ => z .non σ B H S .non
theorem sDrop (h : PE X e (tE X.K E f)) (hs : swapsWith e none pos.line X.env = pure false := by rfl) : PS X (.Expr e pos) (tS X.K F E (thenS f fun _ => .nx)) := PS.imp (ps_expr h hs) fun W σ H ⟨B, ρ, S, z⟩ =>
  ⟨B, ρ, S.st, (Aft.thenS z S).mono fun d ρ1 B1 H1 s1 ⟨S1, z1⟩ v r => z1 σ B1 H1 S1⟩
def asgS (i : Nat) (f : M D) : MS := thenS f fun d => setM i d
def asgNS (i : Nat) (f : M D) : MS := thenS f fun d => setNM i d
theorem sAsg (i : Nat) {x : Str} {pos' : Pos} (h : PE X e (tE X.K E f)) (hN : X.N.Nodup) (hi : X.N[i]? = some x := by rfl) (hx : Loc X.env.scope x := by first | exact Or.inl rfl | exact Or.inr rfl) (hs : swapsWith e (some (.Name x pos')) pos.line X.env = pure false := by rfl)
    (hf : X.fn x = true ∨ X.env.scope.names.lookup x = some .local := by first | exact .inl rfl | exact .inr rfl | assumption) : PS X (.Assign [.Name x pos'] e pos) (tS X.K F E (asgS i f)) := PS.imp (ps_set hN hi hx h hs hf) fun W σ H ⟨B, ρ, S, z⟩ =>
  ⟨B, ρ, S.st, (Aft.thenS z S).mono fun d ρ1 B1 H1 s1 ⟨S1, z1⟩ v r => setM_of z1 S1 r⟩
theorem sAsgN (i : Nat) {x : Str} {pos' : Pos} (h : PE X e (tN X.K E f)) (hN : X.N.Nodup) (hi : X.N[i]? = some x := by rfl) (hx : Loc X.env.scope x := by first | exact Or.inl rfl | exact Or.inr rfl) (hs : swapsWith e (some (.Name x pos')) pos.line X.env = pure false := by rfl)
    (hf : X.fn x = true ∨ X.env.scope.names.lookup x = some .local := by first | exact .inl rfl | exact .inr rfl | assumption) : PS X (.Assign [.Name x pos'] e pos) (tS X.K F E (asgNS i f)) := PS.imp (ps_set hN hi hx h hs hf) fun W σ H ⟨B, ρ, S, z⟩ =>
  ⟨B, ρ, S.st, (Aft.thenS z S).mono fun d ρ1 B1 H1 s1 ⟨S1, z1⟩ p hp hb ow => setNM_of z1 S1 hb ow (fun w => S.st.notown hp (s1.le.own w)) (S.adv.back hp)⟩
/-! ### targets: names, places of an own list -/
inductive Tg where
  | nm (i : Nat) | it (i : Nat) (f : M D)
def setL (d : D) (y x : D) : Option D := match d, y with
  | .lst ds, .int k => (ixN ds.length k).map fun j => .lst (ds.set j x)
  | _, _ => none
def tgS : Tg → D → MS
  | .nm i, d => setM i d
  | .it i f, d => thenS (bnd (isMu i) fun _ => bnd f fun y => bnd (cur i) fun c => bnd (opt (setL c y d)) fun c' => putM i c') fun _ => .nx
/-- behind a target: what was data stays data -/
def AftT (K : PySem.W.Frag) (F : Fm) (E : XK) (B : Hp) (o : Fl) (Q : St → Hp → Prop) : Prop := match o with
  | .nx ρ' => ∀ σ' B' H', StF K F B' ρ' σ' H' → Ex B B' → Q σ' H'
  | .exc C fs ρ' => ∀ dx vfs σ' B' H', StF K F B' ρ' σ' H' → H' dx = some (.xd vfs) → RF K B' vfs fs → E (.ref C) (some dx) H'
  | _ => False
def tG (K : PySem.W.Frag) (F : Fm) (E : XK) (t : Tg) : TG := fun v σ H Q => ∃ B ρ d, StF K F B ρ σ H ∧ R K B v d ∧ AftT K F E B (tgS t d ρ) Q
theorem PG.imp {t t' : TG} (h : PG X e t) (m : ∀ v σ H Q, t' v σ H Q → t v σ H Q) : PG X e t' := ⟨fun pins s σ H v u Q I r q => h.run pins s σ H v u Q I r (m v σ H Q q)⟩
theorem PGs.imp {es : List Expr} {t t' : TGs} (h : PGs X es t) (m : ∀ v σ H Q, t' v σ H Q → t v σ H Q) : PGs X es t' := ⟨fun pins s σ H v u Q I r q => h.run pins s σ H v u Q I r (m v σ H Q q)⟩
theorem setM_ofT {K : PySem.W.Frag} {B H : Hp} {ρ : Rho} {σ : St} {i : Nat} {d : D} {Q : St → Hp → Prop} {v : V} (h : AftT K F E B (setM i d ρ) Q) (S : StF K F B ρ σ H) (r : R K B v d) : Q (σ.set i (some v)) H := by
  unfold setM at h
  cases z : ρ[i]? with
  | none => rw [z] at h; exact h.elim
  | some s =>
    rw [z] at h
    cases s with
    | io d0 => exact h.elim
    | no => exact h _ B H (S.setDat z (fun _ q => nomatch q) r) fun _ _ q => q
    | dat d0 => exact h _ B H (S.setDat z (fun _ q => nomatch q) r) fun _ _ q => q
    | own d0 => exact h _ B H (S.setDat z (fun _ q => nomatch q) r) fun _ _ q => q
theorem gNm (i : Nat) {x : Str} (hN : X.N.Nodup) (hi : X.N[i]? = some x := by rfl) (hx : Loc X.env.scope x := by first | exact Or.inl rfl | exact Or.inr rfl) (hf : X.fn x = true ∨ X.env.scope.names.lookup x = some .local := by first | exact .inl rfl | exact .inr rfl | assumption) :
    PG X (.Name x pos) (tG X.K F E (.nm i)) := PG.imp (pg_name hN hi hx hf) fun v σ H Q ⟨B, ρ, d, S, r, z⟩ => setM_ofT z S r
theorem itS_of {K : PySem.W.Frag} {B H : Hp} {ρ : Rho} {σ : St} {x : M Unit} {Q : St → Hp → Prop} (h : AftT K F E B (thenS x (fun _ => .nx) ρ) Q) (S : StF K F B ρ σ H) : Aft K E σ ρ B H (x ρ) fun _ ρ1 B1 H1 => Q σ H1 := by
  unfold thenS at h
  cases e : x ρ with
  | bad => rw [e] at h; exact h
  | exc C fs ρ' => rw [e] at h; exact fun dx vfs B' H' s => h dx vfs σ B' H' (S.step s)
  | ok a ρ1 => rw [e] at h; exact fun B1 H1 s => h σ B1 H1 (S.step s) s.adv.ex
theorem it_core {K : PySem.W.Frag} {B H : Hp} {ρ : Rho} {σ : St} {i : Nat} {d : D} {v : V} {Q : Hp → Prop} (S : Sta K B ρ σ H) (r : R K B v d)
    (h : Aft K E σ ρ B H ((bnd (isMu i) fun _ => bnd f fun y => bnd (cur i) fun c => bnd (opt (setL c y d)) fun c' => putM i c') ρ) fun _ _ _ H1 => Q H1) : tOp (fun o y H2 Q' => rSetL o y v H2 fun H3 => Q' .non H3) (tVar i) (tE K E f) σ H fun _ H3 => Q H3 := by
  obtain ⟨⟨s, e, m⟩, h⟩ := isMu_of h.bind S
  obtain ⟨p, hv, _⟩ := own_at S e m
  refine ⟨.ref p, hv, B, ρ, S, h.bind.mono fun d1 ρ1 B1 H1 s1 a1 v1 r1 => ?_⟩
  obtain ⟨p', c, hv', ⟨s', e', m'⟩, hb', ow, a2⟩ := cur_of a1.bind s1.st
  rw [hv] at hv'; cases hv'
  obtain ⟨c', ec, a3⟩ := Aft.opt a2.bind s1.st
  cases c with
  | lst ds =>
    obtain ⟨vs, hp, ra⟩ := ow
    cases r1 <;> simp only [setL, reduceCtorEq] at ec
    rename_i k
    obtain ⟨j, ej, rfl⟩ := Option.map_eq_some_iff.mp ec
    obtain ⟨s2, e2, m2, a4⟩ := put_of a3
    rw [← ra.length] at ej
    refine ⟨p, vs, k, j, rfl, rfl, hp, ej, ?_⟩
    exact a4 _ _ (s1.st.write e2 m2 hv hb' ⟨_, upd_same, ra.set j (r.mono s1.adv.ex)⟩)
  | dic ks vs => cases r1 <;> simp only [setL, reduceCtorEq] at ec
  | _ => exact ow.elim
theorem gIt (i : Nat) (ha : PE X a (tVar i)) (hb : PE X b (tE X.K E f)) (hs : ∀ v, assign (.Subscript a b pos) X.env v = (do
      let ov ← holding [v] (eval a X.env)
      let iv ← holding [v, ov] (eval b X.env)
      standAt pos
      holding [v, ov, iv] (setItem ov iv v)
      release [v, ov, iv] []) := by intro _; rfl) : PG X (.Subscript a b pos) (tG X.K F E (.it i f)) := PG.imp (pg_sub ha hb set_list hs) fun v σ H Q ⟨B, ρ, d, S, r, z⟩ => by
  have h := it_core (Q := fun H3 => Q σ H3) S.st r (itS_of z S)
  exact h
def tgsS : List Tg → List D → MS
  | [], [] => .nx
  | t :: ts, d :: ds => seqS (tgS t d) (tgsS ts ds)
  | _, _ => fun _ => .bad
def tGs (K : PySem.W.Frag) (F : Fm) (E : XK) (ts : List Tg) : TGs := fun vs σ H Q => ∃ B ρ ds, StF K F B ρ σ H ∧ RA K B vs ds ∧ AftT K F E B (tgsS ts ds ρ) Q
theorem gsNil : PGs X [] (tGs X.K F E []) := PGs.imp pgs_nil fun vs σ H Q ⟨B, ρ, ds, S, ra, z⟩ => by
  cases ra with
  | nil => exact ⟨rfl, z σ B H S fun _ _ q => q⟩
  | cons r ra => exact z.elim
theorem gsCons {es : List Expr} {t : Tg} {ts : List Tg} (h : PG X e (tG X.K F E t)) (h' : PGs X es (tGs X.K F E ts)) (hs : (assignEach (e :: es) X.env).map (·.2) = assign e X.env :: (assignEach es X.env).map (·.2) := by rfl) : PGs X (e :: es) (tGs X.K F E (t :: ts)) :=
  PGs.imp (pgs_cons h h' hs) fun vs σ H Q ⟨B, ρ, ds, S, ra, z⟩ => by
    cases ra with
    | nil => exact z.elim
    | @cons v vs d ds r ra =>
      refine ⟨v, vs, rfl, B, ρ, d, S, r, ?_⟩
      have z : AftT X.K F E B (seqS (tgS t d) (tgsS ts ds) ρ) Q := z
      unfold seqS at z
      cases q : tgS t d ρ with
      | nx ρ' =>
        rw [q] at z
        intro σ' B' H' S' ex
        refine ⟨B', ρ', ds, S', ra.mono ex, ?_⟩
        have z : AftT X.K F E B (tgsS ts ds ρ') Q := z
        cases q2 : tgsS ts ds ρ' with
        | nx ρ2 => rw [q2] at z; exact fun σ2 B2 H2 S2 ex2 => z σ2 B2 H2 S2 (ex.trans ex2)
        | exc C fs ρ2 => rw [q2] at z; exact z
        | rt d ρ2 => rw [q2] at z; exact z.elim
        | rn d ρ2 => rw [q2] at z; exact z.elim
        | bk ρ2 => rw [q2] at z; exact z.elim
        | ct ρ2 => rw [q2] at z; exact z.elim
        | bad => rw [q2] at z; exact z.elim
      | exc C fs ρ2 => rw [q] at z; exact z
      | rt d ρ2 => rw [q] at z; exact z.elim
      | rn d ρ2 => rw [q] at z; exact z.elim
      | bk ρ2 => rw [q] at z; exact z.elim
      | ct ρ2 => rw [q] at z; exact z.elim
      | bad => rw [q] at z; exact z.elim
/-- only what goes on or is raised -/
def onlyNx : Fl → Fl
  | .nx ρ => .nx ρ
  | .exc C fs ρ => .exc C fs ρ
  | _ => .bad
theorem AftT.of {K : PySem.W.Frag} {B : Hp} {W : Ends} {o : Fl} (h : AftS K F E (onlyNx o) W) : AftT K F E B o W.nx := by
  cases o with
  | nx ρ => exact fun σ' B' H' S _ => h σ' B' H' S
  | exc C fs ρ => exact h
  | _ => exact h.elim
def unpS (ts : List Tg) (f : M D) : MS := thenS f fun d => match d with
  | .tup xs => if xs.length = ts.length then fun ρ => onlyNx (tgsS ts xs ρ) else fun _ => .bad
  | _ => fun _ => .bad
theorem sUnp {es : List Expr} {ts : List Tg} {k : Nat} {p1 : Pos} (he : PE X e (tE X.K E f)) (hg : PGs X es (tGs X.K F E ts)) (hc : X.calm = true := by rfl) (hn : (assignEach es X.env).length = ts.length := by rfl) (hst : (assignEach es X.env).findIdx? (·.1) = none := by rfl)
    (hs : swapsWithSole [.Tuple es k p1] e pos.line X.env = pure false := by rfl) (hw : swappedStores [.Tuple es k p1] e X.env = pure none := by rfl)
    (h1 : (assignEach [.Tuple es k p1] X.env).map (·.2) = [assign (.Tuple es k p1) X.env] := by rfl) : PS X (.Assign [.Tuple es k p1] e pos) (tS X.K F E (unpS ts f)) :=
  PS.imp (ps_asg he (pg_tup hc hg hn hst) hs hw h1) fun W σ H ⟨B, ρ, S, z⟩ => ⟨B, ρ, S.st, (Aft.thenS z S).mono fun d ρ1 B1 H1 s1 ⟨S1, z1⟩ v r => by
    cases r with
    | @tup a vs ds h ra =>
      by_cases hl : ds.length = ts.length
      · have z1 : AftS X.K F E ((if ds.length = ts.length then fun ρ => onlyNx (tgsS ts ds ρ) else fun _ => .bad) ρ1) W := z1
        rw [if_pos hl] at z1
        exact ⟨a, vs, rfl, Evl.ex_t S1.st.bh h, by rw [ra.length]; exact hl, B1, ρ1, ds, S1, ra, AftT.of z1⟩
      · have z1 : AftS X.K F E ((if ds.length = ts.length then fun ρ => onlyNx (tgsS ts ds ρ) else fun _ => .bad) ρ1) W := z1
        rw [if_neg hl] at z1
        exact z1.elim
    | _ => exact z1.elim⟩
/-- o[i] = e -/
def itAsgS (t : Tg) (f : M D) : MS := thenS f fun d ρ => onlyNx (tgS t d ρ)
theorem sIt {t : Tg} {tg : Expr} (he : PE X e (tE X.K E f)) (hg : PG X tg (tG X.K F E t)) (hs : swapsWithSole [tg] e pos.line X.env = pure false := by rfl) (hw : swappedStores [tg] e X.env = pure none := by rfl)
    (h1 : (assignEach [tg] X.env).map (·.2) = [assign tg X.env] := by rfl) : PS X (.Assign [tg] e pos) (tS X.K F E (itAsgS t f)) :=
  PS.imp (ps_asg he hg hs hw h1) fun W σ H ⟨B, ρ, S, z⟩ => ⟨B, ρ, S.st, (Aft.thenS z S).mono fun d ρ1 B1 H1 s1 ⟨S1, z1⟩ v r => ⟨B1, ρ1, d, S1, r, AftT.of z1⟩⟩
/-- a, b = x, y -/
def parS (i j : Nat) (g : M (List D)) : MS := thenS g fun ds => match ds with
  | [d1, d2] => seqS (setM i d1) (setM j d2)
  | _ => fun _ => .bad
theorem sPar (i j : Nat) {x y : Str} {g : M (List D)} {px py pt : Pos} {kt k2 pt2} (ha : PA X [a, b] (tAs X.K E g)) (hN : X.N.Nodup) (hc : X.calm = true := by rfl) (hi : X.N[i]? = some x := by rfl) (hj : X.N[j]? = some y := by rfl) (hij : i ≠ j := by decide)
    (hx : X.env.scope.names.lookup x = some .local := by rfl) (hy : X.env.scope.names.lookup y = some .local := by rfl)
    (hw : swappedStores [.Tuple [.Name x px, .Name y py] kt pt] (.Tuple [a, b] k2 pt2) X.env = pure (some [x, y]) := by rfl)
    (hs : swapsWithSole [.Tuple [.Name x px, .Name y py] kt pt] (.Tuple [a, b] k2 pt2) pos.line X.env = pure false := by rfl) :
    PS X (.Assign [.Tuple [.Name x px, .Name y py] kt pt] (.Tuple [a, b] k2 pt2) pos) (tS X.K F E (parS i j g)) := PS.imp (ps_par hc hN hi hj hij hx hy ha hw hs) fun W σ H ⟨B, ρ, S, z⟩ => ⟨B, ρ, S.st, (Aft.thenS z S).mono fun ds ρ1 B1 H1 s1 ⟨S1, z1⟩ vs ra => by
  cases ra with
  | nil => exact z1.elim
  | @cons v1 _ d1 _ r1 ra =>
    cases ra with
    | nil => exact z1.elim
    | @cons v2 _ d2 _ r2 ra =>
      cases ra with
      | cons _ _ => exact z1.elim
      | nil =>
        refine ⟨v1, v2, rfl, ?_⟩
        have z1 : AftS X.K F E (seqS (setM i d1) (setM j d2) ρ1) W := z1
        unfold seqS setM at z1
        cases q : ρ1[i]? with
        | none => rw [q] at z1; exact z1.elim
        | some s =>
          rw [q] at z1
          have go : (∀ d, s ≠ .io d) → AftS X.K F E (setM j d2 (ρ1.set i (.dat d1))) W → W.nx ((σ.set i (some v1)).set j (some v2)) H1 := fun hs z => setM_of z (S1.setDat q hs r1) r2
          cases s with
          | io d0 => exact z1.elim
          | no => exact go (fun _ q => nomatch q) z1
          | dat d0 => exact go (fun _ q => nomatch q) z1
          | own d0 => exact go (fun _ q => nomatch q) z1⟩
/-! ### for over range(n) -/
def forS (j : Nat) (body : MS) : List D → MS
  | [], ρ => .nx ρ
  | x :: r, ρ => match setM j x ρ with
    | .nx ρ1 => (match body ρ1 with
      | .nx ρ2 => forS j body r ρ2
      | .ct ρ2 => forS j body r ρ2
      | .bk ρ2 => .nx ρ2
      | o => o)
    | _ => .bad
def rangeD (n : Int) : List D := (List.range n.toNat).map fun i : Nat => D.int (i : Int)
def forRS (j : Nat) (g : M (List D)) (body : MS) : MS := thenS g fun ds => match ds with
  | [.int n] => if -(2 ^ 62) ≤ n ∧ n < 2 ^ 62 then forS j body (rangeD n) else fun _ => .bad
  | _ => fun _ => .bad
theorem for_turn {K : PySem.W.Frag} {B H : Hp} {ρ : Rho} {σ : St} {j : Nat} {x : D} {r : List D} {v : V} {W : Ends} {Pv : St → Hp → Prop} (h : AftS K F E (forS j g (x :: r) ρ) W) (S : StF K F B ρ σ H) (rv : R K B v x)
    (hp : ∀ ρ2, AftS K F E (forS j g r ρ2) W → ∀ σ2 B2 H2, StF K F B2 ρ2 σ2 H2 → Pv σ2 H2) : tS K F E g { W with nx := Pv, ct := Pv, bk := W.nx } (σ.set j (some v)) H := by
  have h : AftS K F E (match setM j x ρ with
    | .nx ρ1 => (match g ρ1 with
      | .nx ρ2 => forS j g r ρ2
      | .ct ρ2 => forS j g r ρ2
      | .bk ρ2 => .nx ρ2
      | o => o)
    | _ => .bad) W := h
  have go : ∀ ρ1, StF K F B ρ1 (σ.set j (some v)) H → AftS K F E (match g ρ1 with
      | .nx ρ2 => forS j g r ρ2
      | .ct ρ2 => forS j g r ρ2
      | .bk ρ2 => .nx ρ2
      | o => o) W → tS K F E g { W with nx := Pv, ct := Pv, bk := W.nx } (σ.set j (some v)) H := fun ρ1 S1 h => ⟨B, ρ1, S1, by
    cases q : g ρ1 with
    | nx ρ2 => rw [q] at h; exact fun σ2 B2 H2 S2 => hp ρ2 h σ2 B2 H2 S2
    | ct ρ2 => rw [q] at h; exact fun σ2 B2 H2 S2 => hp ρ2 h σ2 B2 H2 S2
    | bk ρ2 => rw [q] at h; exact h
    | rt d ρ2 => rw [q] at h; exact h
    | rn d ρ2 => rw [q] at h; exact h
    | exc C fs ρ2 => rw [q] at h; exact h
    | bad => rw [q] at h; exact h⟩
  unfold setM at h
  cases q : ρ[j]? with
  | none => rw [q] at h; exact h.elim
  | some s =>
    rw [q] at h
    cases s with
    | io d0 => exact h.elim
    | no => exact go _ (S.setDat q (fun _ z => nomatch z) rv) h
    | dat d0 => exact go _ (S.setDat q (fun _ z => nomatch z) rv) h
    | own d0 => exact go _ (S.setDat q (fun _ z => nomatch z) rv) h
theorem sForR (j : Nat) {x : Str} {n : Expr} {gn : M (List D)} {p p0 p1 : Pos} (ha : PA X [n] (tAs X.K E gn)) (hb : PSs X body (tS X.K F E g)) (hp : PassesOwn (model X.prog X.w) X.A X.env X.xe) (hm : X.mg "range" = none) (hN : X.N.Nodup) (hc : X.calm = true := by rfl) (hg : Gl X "range" := by rfl)
    (hs : starEach [n] X.env = [(false, eval n X.env)] := by rfl) (hi : X.N[j]? = some x := by rfl) (hx : Loc X.env.scope x := by first | exact Or.inl rfl | exact Or.inr rfl) (hf : X.fn x = true ∨ X.env.scope.names.lookup x = some .local := by first | exact .inl rfl | exact .inr rfl | assumption) :
    PS X (.For (.Name x p0) (.Call (.Name "range" p) [n] [] p1) body [] pos) (tS X.K F E (forRS j gn g)) := PS.imp (ps_for hp hc (pi_range1 hg hm ha hs) (pg_name hN hi hx hf) hb) fun W σ H ⟨B, ρ, S, z⟩ => ⟨B, ρ, S.st, (Aft.thenS z S).mono fun ds ρ1 B1 H1 s1 ⟨S1, z1⟩ vs ra => by
  cases ra with
  | nil => exact z1.elim
  | cons r1 ra =>
    cases ra with
    | cons _ _ => cases r1 <;> exact z1.elim
    | nil =>
      cases r1 with
      | int n =>
        have z1 : AftS X.K F E ((if -(2 ^ 62) ≤ n ∧ n < 2 ^ 62 then forS j g (rangeD n) else fun _ => .bad) ρ1) W := z1
        by_cases hn : -(2 ^ 62) ≤ n ∧ n < 2 ^ 62
        · rw [if_pos hn] at z1
          refine ⟨n, rfl, hn.1, hn.2, for_range (lo := 0) (n := n.toNat) (fun i σ' H' => ∃ B' ρ', StF X.K F B' ρ' σ' H' ∧ AftS X.K F E (forS j g ((rangeD n).drop i) ρ') W) ⟨B1, ρ1, S1, z1⟩ ?_ ?_⟩
          · rintro i σ' H' hi ⟨B', ρ', S', z'⟩
            have e : (rangeD n).drop i = D.int (i : Int) :: (rangeD n).drop (i + 1) := by
              rw [List.drop_eq_getElem_cons (by unfold rangeD; simpa using hi)]
              congr 1
              unfold rangeD
              simp
            rw [e] at z'
            have e0 : (0 : Int) + (i : Int) = (i : Int) := Int.zero_add _
            rw [e0]
            exact for_turn z' S' (.int (i : Int)) fun ρ2 h σ2 B2 H2 S2 => ⟨B2, ρ2, S2, h⟩
          · rintro σ' H' ⟨B', ρ', S', z'⟩
            have e : (rangeD n).drop n.toNat = [] := List.drop_eq_nil_of_le (by unfold rangeD; simp)
            rw [e] at z'
            exact z' σ' B' H' S'
        · rw [if_neg hn] at z1; exact z1.elim
      | _ => exact z1.elim⟩
end
end PD
namespace PD
open PySem PySem.Spec PyProof.Rows L2
/-! ### defs: with nothing being shown (no guard) around -/
structure FnG (P : Program) (w : World) (K : PySem.W.Frag) (mg : Str → Option Value) (base : Heap) (CX : CXT) (k : Nat) (f : Addr) (fd : FuncData) (ps : List Str) (sp : Sp) : Prop where
  len : ∀ vs H Q E, sp vs H Q E → vs.length = ps.length
  run : ∀ (A : Around) (outer : List Env) (s : Shared) (H : Hp) (args : Args) (us : List Value) (vs : List V) (Q : VK) (E : XK), A.guards = some [] → Room k A → Env0 P w K mg base A outer s H → BindsTo s fd args (ps.zip us) → Vals vs us → sp vs H Q E →
    codeAny (model P w) A (.call (.ref f) args) (CR CX outer P w H s Q E) s
section
variable {P : Program} {w : World} {K : PySem.W.Frag} {mg : Str → Option Value} {base : Heap} {CX : CXT}
theorem FnG.of {k : Nat} {f : Addr} {fd : FuncData} {ps : List Str} {sp : Sp} (F : FnOk P w K mg base CX k f fd ps sp) : FnG P w K mg base CX k f fd ps sp := ⟨F.len, fun A outer s H args us vs Q E _ => F.run A outer s H args us vs Q E⟩
theorem guards_deeper (A : Around) (env : Env) : (A.deeper env).guards = A.guards := rfl
/-- a def by its body -/
theorem fnG_of {x qual : Str} {st : Stmt} {f : Addr} {fd : FuncData} {N ps : List Str} {k : Nat} {sp : Sp} (F : Fun K x qual st f fd) (S : FnScope N ps (defScope st)) (len : ∀ vs H Q E, sp vs H Q E → vs.length = ps.length)
    (hb : ∀ (cdv : Value) (A : Around) (outer : List Env) (s : Shared) (H : Hp) (vs : List V) (Q : VK) (E : XK), (A.deeper (envOfC qual (defScope st) s.heap.objs.size f cdv)).guards = some [] → Room k (A.deeper (envOfC qual (defScope st) s.heap.objs.size f cdv)) → sp vs H Q E →
      ∃ t, PSs (cxOf CX P w K mg base N qual (defScope st) f cdv A outer s H E) (defBody st) t ∧ t { nx := fun _ H' => Q .non H', rt := Q } (start N vs) H) : FnG P w K mg base CX (k + 1) f fd ps sp := by
  obtain ⟨oc, od, kV, doc, pm, an, cdv, ct, osl, rfl, lk, hcd⟩ := F.ex
  constructor
  · exact len
  intro A outer s H args us vs Q E hgd room e0 binds rel hsp
  have kin : K.In s.heap := fun b o e => (e0.bs b o (e0.mod.kin b o e)).1
  have nolim : s.heap.NoLimit := e0.mod.nolimit.keeps fun b o e => (e0.bs b o e).1
  have kinds : ∀ y ∈ ps.zip us, (defScope st).names.lookup y.1 = some .local ∨ ((defScope st).names.lookup y.1 = some .cell ∧ ((cellsFrom (s.heap.objs.size + 1) (defScope st).names []).lookup y.1).isSome = true) := by
    rintro ⟨n, u⟩ hy
    cases S.par n (List.of_mem_zip hy).1 with
    | inl q => exact Or.inl q
    | inr q => exact Or.inr ⟨q, PySem.W.cellsFrom_some _ _ _ (.inl q)⟩
  apply codeAny_call_function room.depth (kin _ _ lk) rfl S.co S.gen rfl (PySem.W.codeRec_of kin hcd)
  apply binds
  apply wpAny_newFunctionEnv_cells S.kind kinds
  intro env henv s1 inc
  subst henv
  refine ⟨nolim.keeps inc.toInCall.keep, codeAny_func ?_⟩
  obtain ⟨t, ht, hq⟩ := hb cdv A outer s H vs Q E hgd (room.deeper _) hsp
  have I := inv_start (CX := CX) (E := E) S room.hd e0 (len _ _ _ _ hsp) rel inc
  apply wpAny_mono (ht.run [] s1 (start N vs) H _ I hq)
  · intro fl s' hs
    cases fl with
    | next =>
      obtain ⟨σ', H', J, q⟩ := hs
      exact ⟨V.non, H', J.os, J.bare, J.base, J.hok, rfl, q⟩
    | ret u =>
      obtain ⟨v, σ', H', J, rv, q⟩ := hs
      exact ⟨v, H', J.os, J.bare, J.base, J.hok, rv, q⟩
    | brk => obtain ⟨_, _, _, q⟩ := hs; exact q.elim
    | cont => obtain ⟨_, _, _, q⟩ := hs; exact q.elim
  · intro e s' hs
    exact hs
end
section
variable {X : Cx} {CX : CXT} {k : Nat} {f : Addr} {fd : FuncData} {ps : List Str} {sp : Sp} {E : XK} {x : Str} {p pos : Pos} {e : Expr} {es : List Expr} {t : TA}
theorem pe_callG (G : FnG X.prog X.w X.K X.mg X.base CX k f fd ps sp) (hgd : X.A.guards = some []) (hr : Room k X.A) (hg : Gl X x) (hm : X.mg x = some (.ref f)) (hk : PySem.W.keepIn X.K (.ref f) = true) (hb : Binds X.K fd ps []) (hx : Passes CX X E) (ha : PA X (e :: es) t)
    (hdb : (x == ("__debug__" : Str)) = false := by decide) (he : starEach (e :: es) X.env = (false, eval e X.env) :: starEach es X.env := by rfl) (hpl : (backTo pos (starEach es X.env)).any (·.1) = false := by rfl) :
    PE X (.Call (.Name x p) (e :: es) [] pos) (tCall sp [] E t) := by
  constructor
  intro pins s σ H Q I h
  apply wpAny_Call_Name_kw
  apply ld_glob I hg hm _ hdb
  apply PySem.W.callWith_K (h₀ := X.base) I.ok.mod.kin hk _ he hpl
  apply thn (ha.run pos pins s σ H _ I h)
  rintro us s1 ⟨vs, H1, I1, r, q⟩
  refine ⟨I1.kIn, ?_⟩
  have q : sp (vs ++ []) H1 Q E := q
  rw [List.append_nil] at q
  have hl : (us ++ []).length = ps.length := by rw [List.append_nil, ← r.length]; exact G.len _ _ _ _ q
  have bd := hb s1 us I1.kIn hl
  rw [List.append_nil] at bd
  apply wpAny_call
  apply codeAny_mono (G.run X.A X.stack s1 H1 ⟨us, []⟩ us vs Q E hgd hr I1.env0 bd r q)
  intro o s' ho
  cases o with
  | error ev => exact hx pins σ H1 s1 ev s' I1 ho
  | ok fl =>
    cases fl with
    | ret u => exact I1.after ho
    | next => exact ho.elim
    | brk => exact ho.elim
    | cont => exact ho.elim
end
/-! ### a def's meaning -/
/-- what is handed back of the slots handed in -/
def cl : Rho → Rho → Rho
  | [], _ => []
  | .io _ :: r, t :: ts => t :: cl r ts
  | _ :: r, _ :: ts => .no :: cl r ts
  | _ :: r, [] => .no :: cl r []
def fnM (n : Nat) (body : MS) : Rho → Out D := fun ρ => match body (ρ ++ List.replicate (n - ρ.length) .no) with
  | .nx ρ' => .ok .non (cl ρ ρ')
  | .rt d ρ' => .ok d (cl ρ ρ')
  | .exc C fs ρ' => .exc C fs (cl ρ ρ')
  | _ => .bad
def parOk : Slot → Prop
  | .dat _ => True
  | .io _ => True
  | _ => False
def spM (K : PySem.W.Frag) (np : Nat) (f : Rho → Out D) : Sp := fun vs H Q E => vs.length = np ∧ ∃ B ρ, ρ.length = np ∧ (∀ s ∈ ρ, parOk s) ∧ Sta K B ρ (vs.map some) H ∧ Aft K E (vs.map some) ρ B H (f ρ) fun d _ B' H' => ∀ v, R K B' v d → Q v H'
theorem cl_len : ∀ (ρ ρ' : Rho), (cl ρ ρ').length = ρ.length
  | [], _ => rfl
  | .io _ :: r, t :: ts => congrArg (· + 1) (cl_len r ts)
  | .no :: r, t :: ts => congrArg (· + 1) (cl_len r ts)
  | .dat _ :: r, t :: ts => congrArg (· + 1) (cl_len r ts)
  | .own _ :: r, t :: ts => congrArg (· + 1) (cl_len r ts)
  | .io _ :: r, [] => congrArg (· + 1) (cl_len r [])
  | .no :: r, [] => congrArg (· + 1) (cl_len r [])
  | .dat _ :: r, [] => congrArg (· + 1) (cl_len r [])
  | .own _ :: r, [] => congrArg (· + 1) (cl_len r [])
theorem cl_get : ∀ (ρ ρ' : Rho) (i : Nat) (s : Slot), (cl ρ ρ')[i]? = some s → s = .no ∨ (∃ d, ρ[i]? = some (.io d)) ∧ ρ'[i]? = some s
  | [], _, _, _, h => by cases h
  | .io d :: r, t :: ts, 0, s, h => by cases h; exact .inr ⟨⟨d, rfl⟩, rfl⟩
  | .io _ :: r, t :: ts, i + 1, s, h => cl_get r ts i s h
  | .io _ :: r, [], 0, s, h => by cases h; exact .inl rfl
  | .io _ :: r, [], i + 1, s, h => by
    rcases cl_get r [] i s h with q | ⟨_, q⟩
    · exact .inl q
    · cases q
  | .no :: r, t :: ts, 0, s, h => by cases h; exact .inl rfl
  | .no :: r, t :: ts, i + 1, s, h => cl_get r ts i s h
  | .no :: r, [], 0, s, h => by cases h; exact .inl rfl
  | .no :: r, [], i + 1, s, h => by
    rcases cl_get r [] i s h with q | ⟨_, q⟩
    · exact .inl q
    · cases q
  | .dat _ :: r, t :: ts, 0, s, h => by cases h; exact .inl rfl
  | .dat _ :: r, t :: ts, i + 1, s, h => cl_get r ts i s h
  | .dat _ :: r, [], 0, s, h => by cases h; exact .inl rfl
  | .dat _ :: r, [], i + 1, s, h => by
    rcases cl_get r [] i s h with q | ⟨_, q⟩
    · exact .inl q
    · cases q
  | .own _ :: r, t :: ts, 0, s, h => by cases h; exact .inl rfl
  | .own _ :: r, t :: ts, i + 1, s, h => cl_get r ts i s h
  | .own _ :: r, [], 0, s, h => by cases h; exact .inl rfl
  | .own _ :: r, [], i + 1, s, h => by
    rcases cl_get r [] i s h with q | ⟨_, q⟩
    · exact .inl q
    · cases q
theorem cl_io : ∀ (ρ ρ' : Rho) (i : Nat) (d : D) (s : Slot), ρ[i]? = some (.io d) → ρ'[i]? = some s → (cl ρ ρ')[i]? = some s
  | [], _, _, _, _, h, _ => by cases h
  | .io d :: r, t :: ts, 0, _, s, h, h' => h'
  | .io _ :: r, t :: ts, i + 1, d, s, h, h' => cl_io r ts i d s h h'
  | .no :: r, t :: ts, i + 1, d, s, h, h' => cl_io r ts i d s h h'
  | .dat _ :: r, t :: ts, i + 1, d, s, h, h' => cl_io r ts i d s h h'
  | .own _ :: r, t :: ts, i + 1, d, s, h, h' => cl_io r ts i d s h h'
  | .no :: r, _, 0, d, s, h, _ => by cases h
  | .dat _ :: r, _, 0, d, s, h, _ => by cases h
  | .own _ :: r, _, 0, d, s, h, _ => by cases h
  | _ :: r, [], _, _, _, _, h' => by cases h'
section
variable {K : PySem.W.Frag} {B H : Hp} {ρ : Rho} {vs : List V} {N : List Str}
theorem pad_get {n : Nat} {i : Nat} {s : Slot} (h : (ρ ++ List.replicate n Slot.no)[i]? = some s) : ρ[i]? = some s ∨ s = .no := by
  by_cases hi : i < ρ.length
  · rw [List.getElem?_append_left hi] at h; exact .inl h
  · rw [List.getElem?_append_right (Nat.le_of_not_lt hi), List.getElem?_replicate] at h
    split at h
    · exact .inr (Option.some.inj h).symm
    · cases h
theorem start_at {i : Nat} (h : i < vs.length) : (start N vs)[i]? = (vs.map some)[i]? := by
  unfold L2.start
  rw [List.getElem?_append_left (by simpa using h)]
theorem sta_start (S : Sta K B ρ (vs.map some) H) (hN : vs.length ≤ N.length) : Sta K B (ρ ++ List.replicate (N.length - ρ.length) .no) (start N vs) H := by
  have hl : vs.length = ρ.length := by have := S.len; rw [List.length_map] at this; exact this
  have lt : ∀ {i : Nat} {s : Slot}, ρ[i]? = some s → i < vs.length := fun h => by have := (List.getElem?_eq_some_iff.mp h).1; omega
  refine ⟨S.bh, ?_, fun i s e => ?_, fun i j s t p e1 e2 m1 m2 h1 h2 => ?_⟩
  · unfold L2.start
    simp only [List.length_append, List.length_map, List.length_replicate]; omega
  · rcases pad_get e with e | rfl
    · rw [start_at (lt e)]; exact S.sl i s e
    · trivial
  · rcases pad_get e1 with e1 | rfl
    · rcases pad_get e2 with e2 | rfl
      · rw [start_at (lt e1)] at h1
        rw [start_at (lt e2)] at h2
        exact S.dj i j s t p e1 e2 m1 m2 h1 h2
      · exact m2.elim
    · exact m1.elim
abbrev fm (B H : Hp) (N : List Str) (vs : List V) (ρ : Rho) : Fm := ⟨B, H, start N vs, ρ ++ List.replicate (N.length - ρ.length) .no⟩
theorem stf_start (S : Sta K B ρ (vs.map some) H) (hN : vs.length ≤ N.length) : StF K (fm B H N vs ρ) B (ρ ++ List.replicate (N.length - ρ.length) .no) (start N vs) H :=
  ⟨sta_start S hN, .refl, fun _ h => .inl h, fun i d e => ⟨rfl, d, e⟩⟩
/-- back at the caller's -/
theorem stp_back {ρ' : Rho} {σ' : L2.St} {B' H' : Hp} (S : Sta K B ρ (vs.map some) H) (hN : vs.length ≤ N.length) (S' : StF K (fm B H N vs ρ) B' ρ' σ' H') : Stp K (vs.map some) ρ B H (cl ρ ρ') B' H' := by
  have hl : vs.length = ρ.length := by have := S.len; rw [List.length_map] at this; exact this
  have iod : ∀ {i : Nat} {d : D}, ρ[i]? = some (.io d) → i < ρ.length ∧ σ'[i]? = (vs.map some)[i]? ∧ ∃ d', ρ'[i]? = some (.io d') := fun {i d} h => by
    have hi := (List.getElem?_eq_some_iff.mp h).1
    obtain ⟨a, b⟩ := S'.ios i d (by show (ρ ++ _)[i]? = _; rw [List.getElem?_append_left hi]; exact h)
    exact ⟨hi, by rw [a]; exact start_at (by omega), b⟩
  have own0 : ∀ b, ownAt (ρ ++ List.replicate (N.length - ρ.length) .no) (start N vs) b → ownAt ρ (vs.map some) b := fun b ⟨i, s, e, m, h⟩ => by
    rcases pad_get e with e | rfl
    · have hi := (List.getElem?_eq_some_iff.mp e).1
      rw [start_at (by omega)] at h
      exact ⟨i, s, e, m, h⟩
    · exact m.elim
  refine ⟨⟨S'.st.bh, by rw [cl_len]; exact S.len, fun i s e => ?_, fun i j s t p e1 e2 m1 m2 h1 h2 => ?_⟩, ⟨S'.adv.ex, fun b o e => ?_, fun b o e no => S'.adv.fr b o e fun z => no (own0 b z), S'.adv.al⟩, ⟨fun i s e m => ?_, fun i d e => ?_, cl_len _ _⟩⟩
  · rcases cl_get _ _ _ _ e with rfl | ⟨⟨d, e0⟩, e1⟩
    · trivial
    · have q := S'.st.sl i s e1
      rw [(iod e0).2.1] at q; exact q
  · rcases cl_get _ _ _ _ e1 with rfl | ⟨⟨d, x0⟩, x1⟩
    · exact m1.elim
    · rcases cl_get _ _ _ _ e2 with rfl | ⟨⟨d', y0⟩, y1⟩
      · exact m2.elim
      · rw [← (iod x0).2.1] at h1
        rw [← (iod y0).2.1] at h2
        exact S'.st.dj i j s t p x1 y1 m1 m2 h1 h2
  · rcases S'.adv.nw b o e with q | q | q
    · exact .inl q
    · exact .inr (.inl q)
    · exact .inr (.inr (own0 b q))
  · rcases cl_get _ _ _ _ e with rfl | ⟨⟨d, x0⟩, x1⟩
    · exact m.elim
    · exact ⟨_, x0, trivial⟩
  · obtain ⟨_, _, d', q⟩ := iod e
    exact ⟨d', cl_io _ _ _ _ _ e q⟩
/-- a def's promise from its body's meaning -/
theorem body_of {E : XK} {Q : VK} {body : MS} {np : Nat} (h : spM K np (fnM N.length body) vs H Q E) (hN : np ≤ N.length) :
    ∃ F : Fm, tS K F E body { nx := fun _ H' => Q .non H', rt := Q } (start N vs) H := by
  obtain ⟨hl, B, ρ, hr, hp, S, a⟩ := h
  have hN' : vs.length ≤ N.length := by omega
  refine ⟨fm B H N vs ρ, B, _, stf_start S hN', ?_⟩
  unfold fnM at a
  cases q : body (ρ ++ List.replicate (N.length - ρ.length) .no) with
  | nx ρ' => rw [q] at a; exact fun σ' B' H' S' => a B' H' (stp_back S hN' S') .non .non
  | rt d ρ' => rw [q] at a; exact fun v σ' B' H' S' r => a B' H' (stp_back S hN' S') v r
  | exc C fs ρ' => rw [q] at a; exact fun dx vfs σ' B' H' S' => a dx vfs B' H' (stp_back S hN' S')
  | rn d ρ' => rw [q] at a; exact a.elim
  | bk ρ' => rw [q] at a; exact a.elim
  | ct ρ' => rw [q] at a; exact a.elim
  | bad => rw [q] at a; exact a.elim
end
end PD
namespace PD
open PySem L2
/-! ### calls of defs -/
def callD (np : Nat) (g : M (List D)) (f : Rho → Out D) : M D := bnd g fun ds ρ => if ds.length = np then (match f (ds.map .dat) with
  | .ok d _ => .ok d ρ
  | .exc C fs _ => .exc C fs ρ
  | .bad => .bad) else .bad
def callIO (k np : Nat) (g : M (List D)) (f : Rho → Out D) : M D := bnd (isMu k) fun _ => bnd g fun ds => bnd (cur k) fun c => if ds.length + 1 = np then (match f (.io c :: ds.map .dat) with
  | .ok d (.io c' :: _) => bnd (putM k c') fun _ => ret d
  | _ => fun _ => .bad) else fun _ => .bad
section
variable {K : PySem.W.Frag} {B H B' H' : Hp} {ρ : Rho} {σ : St} {p : Addr} {i : Nat} {s : Slot} {d : D}
theorem sta_dats {vs : List V} {ds : List D} (S : Sta K B ρ σ H) (ra : RA K B vs ds) : Sta K B (ds.map .dat) (vs.map some) H := by
  refine ⟨S.bh, by simpa using ra.length, fun j t e => ?_, fun j k t u q e1 e2 m1 m2 _ _ => ?_⟩
  · rw [List.getElem?_map] at e
    obtain ⟨d, e1, rfl⟩ := Option.map_eq_some_iff.mp e
    obtain ⟨v, e2, r⟩ := ra.get e1
    rw [List.getElem?_map, e2]
    exact ⟨v, rfl, r⟩
  · rw [List.getElem?_map] at e1
    obtain ⟨d, _, rfl⟩ := Option.map_eq_some_iff.mp e1
    exact m1.elim
theorem no_own_dats {vs : List V} {ds : List D} {b : Addr} : ¬ ownAt (ds.map .dat) (vs.map some) b := fun ⟨j, t, e, m, _⟩ => by
  rw [List.getElem?_map] at e
  obtain ⟨d, _, rfl⟩ := Option.map_eq_some_iff.mp e
  exact m.elim
theorem stp_dats {vs : List V} {ds : List D} {ρ' : Rho} (S : Sta K B ρ σ H) (st : Stp K (vs.map some) (ds.map .dat) B H ρ' B' H') : Stp K σ ρ B H ρ B' H' := by
  have nn : ∀ b o, B' b = some o → B b = some o ∨ H b = none := fun b o e => by
    rcases st.adv.nw b o e with q | q | q
    · exact .inl q
    · exact .inr q
    · exact (no_own_dats q).elim
  have ff : ∀ b o, H b = some o → H' b = some o := fun b o e => st.adv.fr b o e no_own_dats
  refine ⟨S.move st.st.bh st.adv.ex (fun b u _ e => ff b u e) (fun b ow => ?_), ⟨st.adv.ex, fun b o e => ?_, fun b o e _ => ff b o e, st.adv.al⟩, .refl ρ⟩
  · obtain ⟨n, u, hu⟩ := S.there ow
    cases q : B' b with
    | none => rfl
    | some o =>
      rcases nn b o q with z | z
      · rw [n] at z; cases z
      · rw [hu] at z; cases z
  · rcases nn b o e with z | z
    · exact .inl z
    · exact .inr (.inl z)
/-- behind a call that changes the cell of slot i -/
theorem Sta.after (S : Sta K B ρ σ H) (e : ρ[i]? = some s) (m : s.mu) (hv : σ[i]? = some (some (.ref p))) (bh : Ex B' H') (adv : Adv (fun b => b = p) B H B' H') (hb : B' p = none) (ow : Own K B' H' p d) : Stp K σ ρ B H (ρ.set i (s.to d)) B' H' := by
  have hi : i < ρ.length := (List.getElem?_eq_some_iff.mp e).1
  have own1 : ownAt ρ σ p := ⟨i, s, e, m, hv⟩
  have nop : ∀ (j : Nat) (t : Slot) (q : Addr), ρ[j]? = some t → t.mu → σ[j]? = some (some (.ref q)) → j ≠ i → q ≠ p := fun j t q e1 m1 h1 ne z => by
    subst z
    exact ne (S.dj j i t s q e1 e m1 m h1 hv)
  have bn : ∀ q, ownAt ρ σ q → q ≠ p → B' q = none := fun q ow ne => by
    obtain ⟨n, u, hu⟩ := S.there ow
    cases z : B' q with
    | none => rfl
    | some o =>
      rcases adv.nw q o z with y | y | y
      · rw [n] at y; cases y
      · rw [hu] at y; cases y
      · exact (ne y).elim
  refine ⟨⟨bh, by rw [List.length_set]; exact S.len, fun j t e1 => ?_, fun j k t u q e1 e2 m1 m2 h1 h2 => ?_⟩, ⟨adv.ex, fun b o z => ?_, fun b u z no => adv.fr b u z fun y => no (by rw [y]; exact own1), adv.al⟩, ⟨fun j t e1 m1 => ?_, fun j d1 e1 => ?_, by rw [List.length_set]⟩⟩
  · rcases get_set _ _ _ _ _ e1 with ⟨rfl, rfl, hl⟩ | ⟨ne, e1⟩
    · rw [hv]
      cases s with
      | no => exact m.elim
      | dat d => exact m.elim
      | own d0 => exact ⟨p, rfl, hb, ow⟩
      | io d0 => exact ⟨p, rfl, hb, ow⟩
    · have q := S.sl j t e1
      cases t with
      | no => trivial
      | dat d0 => obtain ⟨y, y1, y2⟩ := q; exact ⟨y, y1, y2.mono adv.ex⟩
      | own d0 =>
        obtain ⟨p', x1, x2, x3⟩ := q
        have np := nop j _ p' e1 trivial (join_some x1) ne
        exact ⟨p', x1, bn p' ⟨j, _, e1, trivial, join_some x1⟩ np, x3.move adv.ex fun u z => adv.fr p' u z np⟩
      | io d0 =>
        obtain ⟨p', x1, x2, x3⟩ := q
        have np := nop j _ p' e1 trivial (join_some x1) ne
        exact ⟨p', x1, bn p' ⟨j, _, e1, trivial, join_some x1⟩ np, x3.move adv.ex fun u z => adv.fr p' u z np⟩
  · have back : ∀ (j : Nat) (t : Slot), (ρ.set i (s.to d))[j]? = some t → t.mu → ∃ t' : Slot, ρ[j]? = some t' ∧ t'.mu := fun j t e1 m1 => by
      rcases get_set _ _ _ _ _ e1 with ⟨rfl, rfl, hl⟩ | ⟨ne, e1⟩
      · exact ⟨s, e, m⟩
      · exact ⟨t, e1, m1⟩
    obtain ⟨t', y1, y2⟩ := back j t e1 m1
    obtain ⟨u', y3, y4⟩ := back k u e2 m2
    exact S.dj j k t' u' q y1 y3 y2 y4 h1 h2
  · rcases adv.nw b o z with y | y | y
    · exact .inl y
    · exact .inr (.inl y)
    · exact .inr (.inr (by rw [y]; exact own1))
  · rcases get_set _ _ _ _ _ e1 with ⟨rfl, rfl, hl⟩ | ⟨ne, e1⟩
    · exact ⟨s, e, m⟩
    · exact ⟨t, e1, m1⟩
  · by_cases ne : j = i
    · subst ne
      rw [e] at e1; cases e1
      exact ⟨d, set_at hi⟩
    · exact ⟨d1, by rw [set_off ne]; exact e1⟩
end
section
variable {X : Cx} {CX : CXT} {k np : Nat} {f : Addr} {fd : FuncData} {ps : List Str} {E : XK} {x : Str} {p pos : Pos} {e : Expr} {es : List Expr} {g : M (List D)} {m : Rho → Out D}
theorem eCall {sp : Sp} (G : FnG X.prog X.w X.K X.mg X.base CX k f fd ps sp) (hsp : ∀ vs H Q, spM X.K np m vs H Q E → sp vs H Q E) (hgd : X.A.guards = some []) (hr : Room k X.A) (hm : X.mg x = some (.ref f)) (hk : PySem.W.keepIn X.K (.ref f) = true) (hb : Binds X.K fd ps []) (hx : Passes CX X E) (ha : PA X (e :: es) (tAs X.K E g))
    (hg : Gl X x := by rfl) (hdb : (x == ("__debug__" : Str)) = false := by decide) (he : starEach (e :: es) X.env = (false, eval e X.env) :: starEach es X.env := by rfl) (hpl : (backTo pos (starEach es X.env)).any (·.1) = false := by rfl) :
    PE X (.Call (.Name x p) (e :: es) [] pos) (tE X.K E (callD np g m)) := PE.imp (pe_callG G hgd hr hg hm hk hb hx ha hdb he hpl) fun σ H Q ⟨B, ρ, S, z⟩ => ⟨B, ρ, S, z.bind.mono fun ds ρ1 B1 H1 s1 a1 vs ra => by
  have a1 : Aft X.K E σ ρ1 B1 H1 (if ds.length = np then (match m (ds.map .dat) with
    | .ok d _ => Out.ok d ρ1
    | .exc C fs _ => .exc C fs ρ1
    | .bad => .bad) else .bad) fun d _ B' H' => ∀ v, R X.K B' v d → Q v H' := a1
  by_cases hl : ds.length = np
  · rw [if_pos hl] at a1
    refine hsp (vs ++ []) H1 Q ?_
    rw [List.append_nil]
    refine ⟨by rw [ra.length]; exact hl, B1, ds.map .dat, by simpa using hl, fun s hs => ?_, sta_dats s1.st ra, ?_⟩
    · obtain ⟨d, _, rfl⟩ := List.mem_map.mp hs
      trivial
    · cases q : m (ds.map .dat) with
      | bad => rw [q] at a1; exact a1
      | exc C fs ρ' => rw [q] at a1; exact fun dx vfs B' H' st => a1 dx vfs B' H' (stp_dats s1.st st)
      | ok d ρ' => rw [q] at a1; exact fun B' H' st => a1 B' H' (stp_dats s1.st st)
  · rw [if_neg hl] at a1; exact a1.elim⟩
theorem eCallIO {sp : Sp} (i : Nat) (G : FnG X.prog X.w X.K X.mg X.base CX k f fd ps sp) (hsp : ∀ vs H Q, spM X.K np m vs H Q E → sp vs H Q E) (hgd : X.A.guards = some []) (hr : Room k X.A) (hm : X.mg x = some (.ref f)) (hk : PySem.W.keepIn X.K (.ref f) = true) (hb : Binds X.K fd ps []) (hx : Passes CX X E) (hv : PE X e (tVar i)) (ha : PA X es (tAs X.K E g))
    (hs : starEach (e :: es) X.env = (false, eval e X.env) :: starEach es X.env := by rfl)
    (hg : Gl X x := by rfl) (hdb : (x == ("__debug__" : Str)) = false := by decide) (he : starEach (e :: es) X.env = (false, eval e X.env) :: starEach es X.env := by rfl) (hpl : (backTo pos (starEach es X.env)).any (·.1) = false := by rfl) :
    PE X (.Call (.Name x p) (e :: es) [] pos) (tE X.K E (callIO i np g m)) := PE.imp (pe_callG G hgd hr hg hm hk hb hx (pa_cons hv ha hs) hdb he hpl) fun σ H Q ⟨B, ρ, S, z⟩ => by
  obtain ⟨⟨s, e0, m0⟩, z⟩ := isMu_of z.bind S
  obtain ⟨q, hv, _⟩ := own_at S e0 m0
  refine ⟨.ref q, hv, B, ρ, S, z.bind.mono fun ds ρ1 B1 H1 s1 a1 vs ra => ?_⟩
  obtain ⟨q', c, hv', ⟨s2, e2, m2⟩, hb1, ow, a2⟩ := cur_of a1.bind s1.st
  rw [hv] at hv'; cases hv'
  by_cases hl : ds.length + 1 = np
  · rw [if_pos hl] at a2
    refine hsp ((.ref q :: vs) ++ []) H1 Q ?_
    rw [List.append_nil]
    have S1 := sta_dats s1.st ra
    refine ⟨by rw [List.length_cons, ra.length]; exact hl, B1, .io c :: ds.map .dat, by simpa using hl, fun s hs => ?_, ⟨s1.st.bh, by simpa using ra.length, fun j t e1 => ?_, fun j l t u b e1 e3 m1 m3 _ _ => ?_⟩, ?_⟩
    · rcases List.mem_cons.mp hs with rfl | hs
      · trivial
      · obtain ⟨d, _, rfl⟩ := List.mem_map.mp hs
        trivial
    · cases j with
      | zero => cases e1; exact ⟨q, rfl, hb1, ow⟩
      | succ j => exact S1.sl j t e1
    · have z0 : ∀ (j : Nat) (t : Slot), (Slot.io c :: ds.map .dat)[j]? = some t → t.mu → j = 0 := fun j t e1 m1 => by
        cases j with
        | zero => rfl
        | succ j =>
          have e1 : (ds.map Slot.dat)[j]? = some t := e1
          rw [List.getElem?_map] at e1
          obtain ⟨d, _, rfl⟩ := Option.map_eq_some_iff.mp e1
          exact m1.elim
      rw [z0 j t e1 m1, z0 l u e3 m3]
    · have fin : ∀ ρ' B' H' c', Stp X.K ((V.ref q :: vs).map some) (.io c :: ds.map .dat) B1 H1 (.io c' :: ρ') B' H' → Stp X.K σ ρ1 B1 H1 (ρ1.set i (s2.to c')) B' H' := fun ρ' B' H' c' st => by
        obtain ⟨q2, e3, n3, w3⟩ := st.st.sl 0 _ rfl
        cases e3
        have oq : ∀ b, ownAt (.io c :: ds.map .dat) ((V.ref q :: vs).map some) b → b = q := fun b ⟨j, t, x1, x2, x3⟩ => by
          cases j with
          | zero => cases x3; rfl
          | succ j =>
            have x1 : (ds.map Slot.dat)[j]? = some t := x1
            rw [List.getElem?_map] at x1
            obtain ⟨d, _, rfl⟩ := Option.map_eq_some_iff.mp x1
            exact x2.elim
        refine s1.st.after e2 m2 hv st.st.bh ⟨st.adv.ex, fun b o y => ?_, fun b o y no => st.adv.fr b o y fun w => no (oq b w), st.adv.al⟩ n3 w3
        rcases st.adv.nw b o y with y | y | y
        · exact .inl y
        · exact .inr (.inl y)
        · exact .inr (.inr (oq b y))
      cases y : m (.io c :: ds.map .dat) with
      | bad => rw [y] at a2; exact a2.elim
      | exc C fs ρ' => rw [y] at a2; exact a2.elim
      | ok d ρ' =>
        rw [y] at a2
        cases ρ' with
        | nil => exact a2.elim
        | cons t ρ' =>
          cases t with
          | io c' =>
            intro B' H' st
            obtain ⟨s3, e3, m3, a3⟩ := put_of (Aft.bind (x := putM i c') a2)
            rw [e2] at e3; cases e3
            exact a3 B' H' (fin ρ' B' H' c' st) B' H' (.refl (fin ρ' B' H' c' st).st)
          | no => exact a2.elim
          | dat d0 => exact a2.elim
          | own d0 => exact a2.elim
  · rw [if_neg hl] at a2; exact a2.elim
end
end PD
namespace PD
open PySem L2
/-! ### what is walked -/
def IterOk (K : PySem.W.Frag) (B0 : Hp) (ds : List D) (J : It) : Prop := ∃ (n : Nat) (G : Hp → Prop) (Y : Nat → Hp → V → Hp → Prop), Walk J n G Y ∧ n = ds.length ∧ (∀ H, Ex B0 H → G H) ∧
  ∀ (i : Nat) (d : D), ds[i]? = some d → ∀ (B H : Hp) (ρ : Rho) (σ : St) (x : V) (H2 : Hp), Sta K B ρ σ H → Ex B0 B → Y i H x H2 → ∃ B2, Stp K σ ρ B H ρ B2 H2 ∧ R K B2 x d
def tI (K : PySem.W.Frag) (E : XK) (f : M (List D)) : TI := fun σ H Rk => ∃ B ρ, Sta K B ρ σ H ∧ Aft K E σ ρ B H (f ρ) fun ds _ B' H' => ∀ J, IterOk K B' ds J → Rk J H'
section
variable {X : Cx} {E : XK} {tg e n : Expr} {f : M D} {g : M (List D)} {p pos : Pos}
theorem PI.imp {it : Expr} {t t' : TI} (h : PI X tg it t) (m : ∀ σ H Q, t' σ H Q → t σ H Q) : PI X tg it t' := ⟨fun pins s σ H Q I q => h.run pins s σ H Q I (m σ H Q q)⟩
def rngM (g : M (List D)) : M (List D) := bnd g fun ds => opt (match ds with
  | [.int n] => if -(2 ^ 62) ≤ n ∧ n < 2 ^ 62 then some (rangeD n) else none
  | _ => none)
theorem iRng (ha : PA X [n] (tAs X.K E g)) (hm : X.mg "range" = none) (hg : Gl X "range" := by rfl) (hs : starEach [n] X.env = [(false, eval n X.env)] := by rfl) : PI X tg (.Call (.Name "range" p) [n] [] pos) (tI X.K E (rngM g)) :=
  PI.imp (pi_range1 hg hm ha hs) fun σ H Rk ⟨B, ρ, S, z⟩ => ⟨B, ρ, S, z.bind.mono fun ds ρ1 B1 H1 s1 a1 vs ra => by
    obtain ⟨is, ei, q⟩ := Aft.opt a1 s1.st
    cases ra with
    | nil => cases ei
    | cons r1 ra =>
      cases ra with
      | cons _ _ => cases r1 <;> cases ei
      | nil =>
        cases r1 <;> try (cases ei; done)
        rename_i n
        by_cases hn : -(2 ^ 62) ≤ n ∧ n < 2 ^ 62
        · have ei : (if -(2 ^ 62) ≤ n ∧ n < 2 ^ 62 then some (rangeD n) else none) = some is := ei
          rw [if_pos hn] at ei
          cases ei
          refine ⟨n, rfl, hn.1, hn.2, q _ ⟨_, _, _, walk_range, by unfold rangeD; simp, fun _ _ => trivial, fun i d hd B H ρ σ x H2 S _ y => ?_⟩⟩
          obtain ⟨rfl, rfl⟩ := y
          refine ⟨B, .refl S, ?_⟩
          unfold rangeD at hd
          rw [List.getElem?_map] at hd
          obtain ⟨k, hk, rfl⟩ := Option.map_eq_some_iff.mp hd
          have hk' : i = k := by
            obtain ⟨h1, h2⟩ := List.getElem?_eq_some_iff.mp hk
            simpa using h2
          subst hk'
          show R X.K B (.int ((0 : Int) + (i : Int))) _
          rw [Int.zero_add]
          exact .int _
        · have ei : (if -(2 ^ 62) ≤ n ∧ n < 2 ^ 62 then some (rangeD n) else none) = some is := ei
          rw [if_neg hn] at ei; cases ei⟩
def lstM (f : M D) : M (List D) := bnd f fun d => opt (match d with
  | .lst xs => some xs
  | _ => none)
theorem iLst (h : PE X e (tE X.K E f)) : PI X tg e (tI X.K E (lstM f)) := PI.imp (pi_list h) fun σ H Rk ⟨B, ρ, S, z⟩ => ⟨B, ρ, S, z.bind.mono fun d ρ1 B1 H1 s1 a1 v r => by
  obtain ⟨is, ei, q⟩ := Aft.opt a1 s1.st
  cases r <;> try (cases ei; done)
  rename_i a vs _ h ra
  cases ei
  refine ⟨a, rfl, ⟨vs, SqL.of (s1.st.bh _ _ h)⟩, q _ ⟨_, _, _, walk_list (xs := vs), ra.length, fun H eb => SqL.of (eb _ _ h), fun i d hd B H ρ σ x H2 S ex y => ?_⟩⟩
  obtain ⟨rfl, y⟩ := y
  obtain ⟨v, hv, rv⟩ := ra.get hd
  rw [hv] at y; cases y
  exact ⟨B, .refl S, rv.mono ex⟩⟩
def tupM (f : M D) : M (List D) := bnd f fun d => opt (match d with
  | .tup xs => some xs
  | _ => none)
theorem iTup (h : PE X e (tE X.K E f)) : PI X tg e (tI X.K E (tupM f)) := PI.imp (pi_tup h) fun σ H Rk ⟨B, ρ, S, z⟩ => ⟨B, ρ, S, z.bind.mono fun d ρ1 B1 H1 s1 a1 v r => by
  obtain ⟨is, ei, q⟩ := Aft.opt a1 s1.st
  cases r <;> try (cases ei; done)
  rename_i a vs _ h ra
  cases ei
  refine ⟨a, rfl, ⟨vs, Evl.ex_t s1.st.bh h⟩, q _ ⟨_, _, _, walk_tup (xs := vs), ra.length, fun H eb => Evl.ex_t eb h, fun i d hd B H ρ σ x H2 S ex y => ?_⟩⟩
  obtain ⟨rfl, y⟩ := y
  obtain ⟨v, hv, rv⟩ := ra.get hd
  rw [hv] at y; cases y
  exact ⟨B, .refl S, rv.mono ex⟩⟩
def chD (z : Str) : List D := z.cps.toList.map fun c => D.str ⟨#[c]⟩
def chM (f : M D) : M (List D) := bnd f fun d => opt (match d with
  | .str z => some (chD z)
  | _ => none)
theorem iStr (h : PE X e (tE X.K E f)) : PI X tg e (tI X.K E (chM f)) := PI.imp (pi_str h) fun σ H Rk ⟨B, ρ, S, z⟩ => ⟨B, ρ, S, z.bind.mono fun d ρ1 B1 H1 s1 a1 v r => by
  obtain ⟨is, ei, q⟩ := Aft.opt a1 s1.st
  cases r <;> try (cases ei; done)
  rename_i z
  cases ei
  refine ⟨z, rfl, q _ ⟨_, _, _, walk_str, by unfold chD; simp, fun _ _ => trivial, fun i d hd B H ρ σ x H2 S ex y => ?_⟩⟩
  obtain ⟨rfl, c, hc, rfl⟩ := y
  unfold chD at hd
  rw [List.getElem?_map, Array.getElem?_toList, hc] at hd
  cases hd
  exact ⟨B, .refl S, .str _⟩⟩
end
/-! ### list comprehensions -/
/-- the turns of a comprehension over j -/
def lcGo (j : Nat) (test : M Bool) (elt : M D) : List D → List D → M (List D)
  | [], acc => ret acc
  | x :: r, acc => fun ρ => match test (ρ.set j (.dat x)) with
    | .ok true ρ1 => (match elt ρ1 with
      | .ok d ρ2 => lcGo j test elt r (acc ++ [d]) ρ2
      | _ => .bad)
    | .ok false ρ1 => lcGo j test elt r acc ρ1
    | _ => .bad
def noIo (j : Nat) : M Unit := fun ρ => match ρ[j]? with
  | some (.no) => .ok () ρ
  | _ => .bad
def lcM (j : Nat) (items : M (List D)) (test : M Bool) (elt : M D) : M (List D) := bnd items fun is => bnd (noIo j) fun _ ρ => if is.length ≤ 1000000 then (match lcGo j test elt is [] ρ with
  | .ok ds ρ2 => .ok ds (ρ2.set j .no)
  | _ => .bad) else .bad
theorem set_no {ρ : Rho} {j : Nat} (h : ρ[j]? = some .no) : ρ.set j .no = ρ := by
  apply List.ext_getElem?
  intro i
  by_cases e : i = j
  · subst e; rw [set_at (List.getElem?_eq_some_iff.mp h).1, h]
  · rw [set_off e]
section
variable {K : PySem.W.Frag} {E : XK} {test : M Bool} {elt : M D}
/-- the comprehension's own cell D beside the slots -/
structure Cmp (K : PySem.W.Frag) (σ : St) (ρ0 : Rho) (B0 H0 : Hp) (Dl : Addr) (j : Nat) (acc : List D) (ρ : Rho) (B H : Hp) : Prop where
  st : Sta K B (ρ.set j .no) (σ.set j none) H
  adv : Adv (ownAt ρ0 σ) B0 H0 B H
  le : Le ρ0 (ρ.set j .no)
  nd : B Dl = none
  hd : ∃ vs, H Dl = some (.lst vs) ∧ RA K B vs acc
theorem own_no {ρ : Rho} {σ : St} {j : Nat} {b : Addr} {x : Option V} (h : ownAt (ρ.set j .no) (σ.set j x) b) : ownAt (ρ.set j .no) σ b := by
  obtain ⟨i, s, e, m, v⟩ := h
  rcases get_set _ _ _ _ _ e with ⟨rfl, rfl, _⟩ | ⟨ne, _⟩
  · exact m.elim
  · rw [set_off ne] at v; exact ⟨i, s, e, m, v⟩
theorem own_dat {ρ : Rho} {σ : St} {j : Nat} {b : Addr} {x : Option V} {d : D} (h : ownAt (ρ.set j (.dat d)) (σ.set j x) b) : ownAt (ρ.set j .no) σ b := by
  obtain ⟨i, s, e, m, v⟩ := h
  rcases get_set _ _ _ _ _ e with ⟨rfl, rfl, _⟩ | ⟨ne, e⟩
  · exact m.elim
  · rw [set_off ne] at v; exact ⟨i, s, by rw [set_off ne]; exact e, m, v⟩
theorem lc_of {σ : St} {H : Hp} {j : Nat} {fi : M (List D)} {Q : VK} {tt : TT} (hQ : ∃ B ρ, Sta K B ρ σ H ∧ Aft K E σ ρ B H (lcM j fi test elt ρ) fun ds ρ' B' H' => ∀ p vs, H p = none → B' p = none → H' p = some (.lst vs) → RA K B' vs ds → Q (.ref p) H')
    (ht : ∀ σ H Q, tT K E test σ H Q → tt σ H Q) : tLc (tI K E fi) (gName j) tt (tE K E elt) [j] σ H Q := by
  obtain ⟨B, ρ, S, z⟩ := hQ
  refine ⟨B, ρ, S, z.bind.mono fun is ρ1 B1 H1 s1 a1 J hJ Dl hD => ?_⟩
  obtain ⟨n, G, Y, w, hn, hG, hY⟩ := hJ
  unfold bnd noIo at a1
  have hno : ρ1[j]? = some .no := by
    cases q : ρ1[j]? with
    | none => simp only [q] at a1; exact a1.elim
    | some s => cases s <;> simp only [q] at a1 <;> first | rfl | exact a1.elim
  simp only [hno] at a1
  have a1 : Aft K E σ ρ1 B1 H1 (if is.length ≤ 1000000 then (match lcGo j test elt is [] ρ1 with
    | .ok ds ρ2 => Out.ok ds (ρ2.set j .no)
    | _ => .bad) else .bad) fun ds ρ' B' H' => ∀ p vs, H p = none → B' p = none → H' p = some (.lst vs) → RA K B' vs ds → Q (.ref p) H' := a1
  by_cases hl : is.length ≤ 1000000
  · rw [if_pos hl] at a1
    have t0 := s1.st.temp (o := .lst []) hD
    have wp : ∀ x : Option V, wipe (((wipe σ [j]).set j x)) [j] = wipe σ [j] := fun x => by
      show ((σ.set j none).set j x).set j none = σ.set j none
      rw [List.set_set, List.set_set]
    refine lc_it w (fun i H' => ∃ acc ρ' B', acc.length ≤ i ∧ Cmp K σ ρ1 B1 H1 Dl j acc ρ' B' H' ∧ Aft K E σ ρ1 B1 H1 (match lcGo j test elt (is.drop i) acc ρ' with
      | .ok ds ρ2 => Out.ok ds (ρ2.set j .no)
      | _ => .bad) fun ds ρ' B' H' => ∀ p vs, H p = none → B' p = none → H' p = some (.lst vs) → RA K B' vs ds → Q (.ref p) H') ?_ ?_ ?_ ?_
    · refine ⟨[], ρ1, B1, Nat.le_refl _, ⟨t0.st.setNo, t0.adv, ?_, s1.st.bnone hD, [], upd_same, .nil⟩, a1⟩
      rw [set_no hno]; exact .refl ρ1
    · rintro i H' _ ⟨acc, ρ', B', _, C, _⟩
      exact hG H' (fun b o e => C.st.bh b o (C.adv.ex b o e))
    · rintro i x H' H2 hi ⟨acc, ρ', B', ha, C, a⟩ y
      have hi' : i < is.length := by omega
      obtain ⟨B2, s2, r2⟩ := hY i is[i] (by simp [hi']) B' H' _ _ x H2 C.st C.adv.ex y
      show wipe ((wipe σ [j]).set j (some x)) [j] = wipe σ [j] ∧ _
      refine ⟨wp _, ht _ _ _ ?_⟩
      show tT K E test ((σ.set j none).set j (some x)) H2 _
      have e1 : (ρ'.set j .no).set j (.dat is[i]) = ρ'.set j (.dat is[i]) := List.set_set ..
      have st2 : Sta K B2 (ρ'.set j (.dat is[i])) ((σ.set j none).set j (some x)) H2 := by
        have := s2.st.setDat (i := j) r2
        rw [e1] at this; exact this
      have eσ : (σ.set j none).set j (some x) = σ.set j (some x) := List.set_set ..
      rw [eσ] at st2 ⊢
      rw [List.drop_eq_getElem_cons hi'] at a
      simp only [lcGo] at a
      have noD : ∀ b, ownAt (ρ'.set j .no) σ b → ownAt ρ1 σ b := fun b h => C.le.own h
      have ownD : ¬ ownAt ρ1 σ Dl := s1.st.notown hD
      obtain ⟨vs, hvs, ra⟩ := C.hd
      -- from a state reached inside the turn back to the comprehension's own word
      have back : ∀ ρa Ba Ha, Stp K (σ.set j (some x)) (ρ'.set j (.dat is[i])) B2 H2 ρa Ba Ha → Sta K Ba (ρa.set j .no) (σ.set j none) Ha ∧ Adv (ownAt ρ1 σ) B1 H1 Ba Ha ∧ Le ρ1 (ρa.set j .no) ∧ Ba Dl = none ∧ Ha Dl = some (.lst vs) ∧ RA K Ba vs acc := fun ρa Ba Ha st => by
        have adv2 : Adv (ownAt ρ1 σ) B1 H1 B2 H2 := C.adv.trans s2.adv fun b h => .inl (noD b (own_no h))
        have adv3 : Adv (ownAt ρ1 σ) B1 H1 Ba Ha := adv2.trans st.adv fun b h => .inl (noD b (own_dat h))
        have sta : Sta K Ba (ρa.set j .no) (σ.set j none) Ha := by
          have := st.st.setNo (i := j) (x := none)
          rw [List.set_set] at this; exact this
        have ow2 : ¬ ownAt (ρ'.set j (.dat is[i])) (σ.set j (some x)) Dl := fun h => ownD (noD _ (own_dat h))
        have ow1 : ¬ ownAt (ρ'.set j .no) (σ.set j none) Dl := fun h => ownD (noD _ (own_no h))
        have h2 : H2 Dl = some (.lst vs) := s2.adv.fr _ _ hvs ow1
        have b2 : B2 Dl = none := by
          cases q : B2 Dl with
          | none => rfl
          | some o =>
            rcases s2.adv.nw _ _ q with z | z | z
            · rw [C.nd] at z; cases z
            · rw [hvs] at z; cases z
            · exact (ow1 z).elim
        have ba : Ba Dl = none := by
          cases q : Ba Dl with
          | none => rfl
          | some o =>
            rcases st.adv.nw _ _ q with z | z | z
            · rw [b2] at z; cases z
            · rw [h2] at z; cases z
            · exact (ow2 z).elim
        refine ⟨sta, adv3, ⟨fun i2 t e m => ?_, fun i2 d e => ?_, ?_⟩, ba, st.adv.fr _ _ h2 ow2, ra.mono (s2.adv.ex.trans st.adv.ex)⟩
        · rcases get_set _ _ _ _ _ e with ⟨rfl, rfl, _⟩ | ⟨ne, e⟩
          · exact m.elim
          · obtain ⟨t1, q1, q2⟩ := st.le.mu i2 t e m
            rw [set_off ne] at q1
            exact C.le.mu i2 t1 (by rw [set_off ne]; exact q1) q2
        · have ne : i2 ≠ j := fun z => by subst z; rw [hno] at e; cases e
          obtain ⟨d1, q1⟩ := C.le.io i2 d e
          rw [set_off ne] at q1
          obtain ⟨d2, q2⟩ := st.le.io i2 d1 (by rw [set_off ne]; exact q1)
          exact ⟨d2, by rw [set_off ne]; exact q2⟩
        · have l1 := C.le.len
          have l2 := st.le.len
          rw [List.length_set] at l1 l2 ⊢
          omega
      refine ⟨B2, _, st2, ?_⟩
      cases q : test (ρ'.set j (.dat is[i])) with
      | bad => simp only [q] at a; exact a.elim
      | exc _ _ _ => simp only [q] at a; exact a.elim
      | ok bb ρa =>
        cases bb with
        | false =>
          simp only [q] at a
          intro Ba Ha st
          show (if false = true then _ else _)
          rw [if_neg Bool.false_ne_true]
          obtain ⟨g1, g2, g3, g4, g5, g6⟩ := back ρa Ba Ha st
          exact ⟨acc, ρa, Ba, by omega, ⟨g1, g2, g3, g4, vs, g5, g6⟩, a⟩
        | true =>
          simp only [q] at a
          intro Ba Ha st
          show (if true = true then _ else _)
          rw [if_pos rfl]
          have eσ2 : (wipe σ [j]).set j (some x) = σ.set j (some x) := eσ
          rw [eσ2]
          refine ⟨Ba, ρa, st.st, ?_⟩
          cases q2 : elt ρa with
          | bad => simp only [q2] at a; exact a.elim
          | exc _ _ _ => simp only [q2] at a; exact a.elim
          | ok d ρb =>
            simp only [q2] at a
            intro Bb Hb st2 v rv
            obtain ⟨g1, g2, g3, g4, g5, g6⟩ := back ρb Bb Hb (st.trans st2)
            have nob : ¬ ownAt (ρb.set j .no) (σ.set j none) Dl := fun h => ownD (g3.own (own_no h))
            refine ⟨vs, g5, by have h1 := ra.length; have h2 : (1000000 : Nat) < sizeLine := by decide
                               omega, acc ++ [d], ρb, Bb, by rw [List.length_append, List.length_singleton]; omega, ⟨?_, ?_, g3, g4, vs ++ [v], upd_same, g6.append (.one rv)⟩, a⟩
            · exact g1.move (ex_upd g1.bh g4) (fun _ _ z => z) (fun b u ow z => by
                have nb : b ≠ Dl := fun zz => nob (by rw [← zz]; exact ow)
                rw [upd_ne nb]; exact z) fun b ow => (g1.there ow).1
            · refine ⟨g2.ex, g2.nw, fun b o z no => ?_, fun b o z => ?_⟩
              · rw [upd_ne (ne_of_none z hD)]; exact g2.fr b o z no
              · rw [upd_ne (ne_of_none z hD)]; exact g2.al b o z
    · rintro H' ⟨acc, ρ', B', _, C, a⟩
      have e : is.drop n = [] := List.drop_eq_nil_of_le (by omega)
      rw [e] at a
      have a : Aft K E σ ρ1 B1 H1 (Out.ok acc (ρ'.set j .no)) fun ds ρ' B' H' => ∀ p vs, H p = none → B' p = none → H' p = some (.lst vs) → RA K B' vs ds → Q (.ref p) H' := a
      obtain ⟨vs, hvs, ra⟩ := C.hd
      refine a B' H' ⟨⟨C.st.bh, by have := C.st.len; rw [List.length_set] at this; exact this, fun i2 s e => ?_, fun i2 i3 s t p e1 e2 m1 m2 h1 h2 => ?_⟩, C.adv, C.le⟩ Dl vs (s1.adv.back hD) C.nd hvs ra
      · rcases get_set _ _ _ _ _ e with ⟨rfl, rfl, _⟩ | ⟨ne, _⟩
        · trivial
        · have q := C.st.sl i2 s e
          rw [set_off ne] at q; exact q
      · rcases get_set _ _ _ _ _ e1 with ⟨rfl, rfl, _⟩ | ⟨n1, _⟩
        · exact m1.elim
        · rcases get_set _ _ _ _ _ e2 with ⟨rfl, rfl, _⟩ | ⟨n2, _⟩
          · exact m2.elim
          · exact C.st.dj i2 i3 s t p e1 e2 m1 m2 (by rw [set_off n1]; exact h1) (by rw [set_off n2]; exact h2)
  · rw [if_neg hl] at a1; exact a1.elim
end
section
variable {X : Cx} {E : XK} {elt iter c : Expr} {scope : Scope} {j : Nat} {x y : Str} {p pos spos py : Pos} {fi : M (List D)} {test : M Bool} {f : M D} {F : Fm}
abbrev yesM : M Bool := ret true
theorem yes_of {K : PySem.W.Frag} : ∀ σ H Q, tT K E yesM σ H Q → tYes σ H Q := fun σ H Q ⟨B, ρ, S, h⟩ => h B H (.refl S)
/-- the whole list, frozen -/
def lcD (j : Nat) (items : M (List D)) (test : M Bool) (elt : M D) : M D := bnd (lcM j items test elt) fun ds => ret (.lst ds)
theorem lcD_of {K : PySem.W.Frag} {σ : St} {H : Hp} {Q : VK} {tt : TT} (h : tE K E (lcD j fi test f) σ H Q) (ht : ∀ σ H Q, tT K E test σ H Q → tt σ H Q) : tLc (tI K E fi) (gName j) tt (tE K E f) [j] σ H Q := by
  obtain ⟨B, ρ, S, z⟩ := h
  refine lc_of ⟨B, ρ, S, ?_⟩ ht
  unfold lcD bnd at z
  cases q : lcM j fi test f ρ with
  | bad => rw [q] at z; exact z
  | exc C fs ρ' => rw [q] at z; exact z
  | ok ds ρ1 =>
    rw [q] at z
    intro B1 H1 s1 p vs hp hb hv ra
    have no : ¬ ownAt ρ1 σ p := fun w => S.notown hp (s1.le.own w)
    refine z (upd B1 p (.lst vs)) H1 ⟨s1.st.freeze hb hv no, ⟨s1.adv.ex.trans (Evl.Ex.new hb), fun b o e => ?_, s1.adv.fr, s1.adv.al⟩, s1.le⟩ _ (.lst upd_same (ra.mono (Evl.Ex.new hb)))
    by_cases y : b = p
    · subst y; exact .inr (.inl hp)
    · rw [upd_ne y] at e; exact s1.adv.nw b o e
theorem lcN_of {K : PySem.W.Frag} {σ : St} {H : Hp} {Q : VK} {tt : TT} (h : tN K E (lcD j fi test f) σ H Q) (ht : ∀ σ H Q, tT K E test σ H Q → tt σ H Q) : tLc (tI K E fi) (gName j) tt (tE K E f) [j] σ H Q := by
  obtain ⟨B, ρ, S, z⟩ := h
  refine lc_of ⟨B, ρ, S, ?_⟩ ht
  unfold lcD bnd at z
  cases q : lcM j fi test f ρ with
  | bad => rw [q] at z; exact z
  | exc C fs ρ' => rw [q] at z; exact z
  | ok ds ρ1 =>
    rw [q] at z
    exact fun B1 H1 s1 p vs hp hb hv ra => z B1 H1 s1 p hp hb ⟨vs, hv, ra⟩
abbrev Blk (X : Cx) (scope : Scope) (T : Cx → Prop) : Prop := ∀ (s : Shared) (H : Hp) (C : Addr) (cl : List (Str × Addr)) (fp : List Addr), T (X.blk s H scope (compEnvC scope cl C X.env) fp)
theorem eLc (j : Nat) (hi : PI X (.Name x p) iter (tI X.K E fi)) (ok : BlkOk X.N X.env.scope scope [(x, j)]) (hg : Blk X scope fun Y => PG Y (.Name x p) (gName j)) (he : Blk X scope fun Y => PE Y elt (tE X.K E f)) (hN : X.N.Nodup) (hc : X.calm = true := by rfl)
    (hs : ∀ x, foldedSetIterable iter X.env x = pure x := by intro _; rfl) : PE X (.ListComp elt [⟨.Name x p, iter, [], 0⟩] scope pos) (tE X.K E (lcD j fi yesM f)) :=
  PE.imp (pe_lc (own := [(x, j)]) hc hN hi ok hg (fun _ _ _ _ _ => pts_nil) he hs) fun σ H Q h => lcD_of h yes_of
theorem eLcIf (j : Nat) (hi : PI X (.Name x p) iter (tI X.K E fi)) (ok : BlkOk X.N X.env.scope scope [(x, j)]) (hg : Blk X scope fun Y => PG Y (.Name x p) (gName j)) (ht : Blk X scope fun Y => PT Y c (tT X.K E test)) (he : Blk X scope fun Y => PE Y elt (tE X.K E f)) (hN : X.N.Nodup) (hc : X.calm = true := by rfl)
    (hs : ∀ x, foldedSetIterable iter X.env x = pure x := by intro _; rfl) : PE X (.ListComp elt [⟨.Name x p, iter, [c], 0⟩] scope pos) (tE X.K E (lcD j fi test f)) :=
  PE.imp (pe_lc (own := [(x, j)]) hc hN hi ok hg (fun s H C cl fp => pts_one (ht s H C cl fp)) he hs) fun σ H Q h => lcD_of h fun _ _ _ z => z
theorem sLc (i j : Nat) (hi : PI X (.Name x p) iter (tI X.K E fi)) (ok : BlkOk X.N X.env.scope scope [(x, j)]) (hg : Blk X scope fun Y => PG Y (.Name x p) (gName j)) (he : Blk X scope fun Y => PE Y elt (tE X.K E f)) (hsw : swapsWith (.ListComp elt [⟨.Name x p, iter, [], 0⟩] scope pos) (some (.Name y py)) spos.line X.env = pure true) (hN : X.N.Nodup) (hy : X.N[i]? = some y := by rfl) (hyl : X.env.scope.names.lookup y = some .local := by rfl) (hc : X.calm = true := by rfl)
    (hs : ∀ x, foldedSetIterable iter X.env x = pure x := by intro _; rfl) : PS X (.Assign [.Name y py] (.ListComp elt [⟨.Name x p, iter, [], 0⟩] scope pos) spos) (tS X.K F E (asgS i (lcD j fi yesM f))) :=
  PS.imp (ps_setLc (own := [(x, j)]) hc hN hy hyl hsw hi ok hg (fun _ _ _ _ _ => pts_nil) he hs) fun W σ H ⟨B, ρ, S, z⟩ => lcD_of (Q := fun x H1 => gName i x σ H1 W.nx) ⟨B, ρ, S.st, (Aft.thenS z S).mono fun d ρ1 B1 H1 s1 ⟨S1, z1⟩ v r => setM_of z1 S1 r⟩ yes_of
theorem sLcIf (i j : Nat) (hi : PI X (.Name x p) iter (tI X.K E fi)) (ok : BlkOk X.N X.env.scope scope [(x, j)]) (hg : Blk X scope fun Y => PG Y (.Name x p) (gName j)) (ht : Blk X scope fun Y => PT Y c (tT X.K E test)) (he : Blk X scope fun Y => PE Y elt (tE X.K E f)) (hsw : swapsWith (.ListComp elt [⟨.Name x p, iter, [c], 0⟩] scope pos) (some (.Name y py)) spos.line X.env = pure true) (hN : X.N.Nodup) (hy : X.N[i]? = some y := by rfl) (hyl : X.env.scope.names.lookup y = some .local := by rfl) (hc : X.calm = true := by rfl)
    (hs : ∀ x, foldedSetIterable iter X.env x = pure x := by intro _; rfl) : PS X (.Assign [.Name y py] (.ListComp elt [⟨.Name x p, iter, [c], 0⟩] scope pos) spos) (tS X.K F E (asgS i (lcD j fi test f))) :=
  PS.imp (ps_setLc (own := [(x, j)]) hc hN hy hyl hsw hi ok hg (fun s H C cl fp => pts_one (ht s H C cl fp)) he hs) fun W σ H ⟨B, ρ, S, z⟩ => lcD_of (Q := fun x H1 => gName i x σ H1 W.nx) ⟨B, ρ, S.st, (Aft.thenS z S).mono fun d ρ1 B1 H1 s1 ⟨S1, z1⟩ v r => setM_of z1 S1 r⟩ fun _ _ _ z => z
end
end PD
namespace PD
open PySem PySem.Spec PyProof.Rows L2
/-- the promise of a def that lets nothing out -/
def spM0 (K : PySem.W.Frag) (np : Nat) (f : Rho → Out D) : Sp := fun vs H Q _ => spM K np f vs H Q E0
abbrev FnP (K : PySem.W.Frag) (x : Str) (st : Stmt) (f : Addr) (fd : FuncData) : Prop := FunD K x x (defArgs st) (defBody st) (defScope st) [] [] f fd
section
variable {P : Program} {w : World} {K : PySem.W.Frag} {mg : Str → Option Value} {base : Heap} {CX : CXT}
theorem FunD.asFun {x : Str} {st : Stmt} {f : Addr} {fd : FuncData} (F : FnP K x st f fd) : Fun K x x st f fd := by
  obtain ⟨⟨oc, od, dV, kV, doc, pm, an, cdv, ct, osl, rfl, lk, hcd, hD, _⟩, kp⟩ := F
  rcases hD with ⟨_, rfl⟩ | ⟨e, _⟩
  · exact ⟨⟨oc, od, kV, doc, pm, an, cdv, ct, osl, rfl, lk, hcd⟩, kp⟩
  · exact absurd rfl e
abbrev cx0 (P : Program) (w : World) (K : PySem.W.Frag) (mg : Str → Option Value) (base : Heap) (N : List Str) (x : Str) (st : Stmt) (f : Addr) (cdv : Value) (A : Around) (outer : List Env) (s : Shared) (H : Hp) (E : XK) : Cx := (cxOf CX0 P w K mg base N x (defScope st) f cdv A outer s H E).nox
/-- a def that lets nothing out, by its meaning -/
theorem fn0 {x : Str} {st : Stmt} {f : Addr} {fd : FuncData} {N ps : List Str} {k : Nat} {body : MS} (F : FnP K x st f fd) (S : FnScope N ps (defScope st)) (hp : ps.length ≤ N.length)
    (hb : ∀ (cdv : Value) (A : Around) (outer : List Env) (s : Shared) (H : Hp) (E : XK) (Fr : Fm), (cx0 P w K mg base N x st f cdv A outer s H E).A.guards = some [] → Room k (cx0 P w K mg base N x st f cdv A outer s H E).A →
      PSs (cx0 P w K mg base N x st f cdv A outer s H E) (defBody st) (tS K Fr E0 body)) : FnG P w K mg base CX0 (k + 1) f fd ps (spM0 K ps.length (fnM N.length body)) :=
  fnG_of (FunD.asFun F) S (fun vs H Q E h => h.1) fun cdv A outer s H vs Q E hg hr h => by
    obtain ⟨Fr, h⟩ := body_of h hp
    exact ⟨_, PSs.nox (hb cdv A outer s H E Fr hg hr), h⟩
end
section
variable {X : Cx} {k np : Nat} {f : Addr} {fd : FuncData} {ps : List Str} {x : Str} {p pos : Pos} {e : Expr} {es : List Expr} {g : M (List D)} {m : Rho → Out D}
theorem FnG.imp {CX : CXT} {P : Program} {w : World} {K : PySem.W.Frag} {mg : Str → Option Value} {base : Heap} {sp sp' : Sp} (G : FnG P w K mg base CX k f fd ps sp) (h : ∀ vs H Q E, sp' vs H Q E → sp vs H Q E) : FnG P w K mg base CX k f fd ps sp' :=
  ⟨fun vs H Q E q => G.len vs H Q E (h vs H Q E q), fun A outer s H args us vs Q E hg hr e0 hb rv q => G.run A outer s H args us vs Q E hg hr e0 hb rv (h vs H Q E q)⟩
/-- what a caller knows of such a def -/
structure Df (P : Program) (w : World) (K : PySem.W.Frag) (mg : Str → Option Value) (base : Heap) (k : Nat) (x : Str) (np : Nat) (m : Rho → Out D) : Prop where
  ex : ∃ (f : Addr) (fd : FuncData) (ps : List Str), FnG P w K mg base CX0 k f fd ps (spM0 K np m) ∧ mg x = some (.ref f) ∧ PySem.W.keepIn K (.ref f) = true ∧ Binds K fd ps []
theorem eCall0 (G : Df X.prog X.w X.K X.mg X.base k x np m) (hgd : X.A.guards = some []) (hr : Room k X.A) (ha : PA X (e :: es) (tAs X.K E0 g))
    (hg : Gl X x := by rfl) (hdb : (x == ("__debug__" : Str)) = false := by decide) (he : starEach (e :: es) X.env = (false, eval e X.env) :: starEach es X.env := by rfl) (hpl : (backTo pos (starEach es X.env)).any (·.1) = false := by rfl) :
    PE X (.Call (.Name x p) (e :: es) [] pos) (tE X.K E0 (callD np g m)) := by
  obtain ⟨f, fd, ps, G, hm, hk, hb⟩ := G.ex
  exact eCall G (fun _ _ _ z => z) hgd hr hm hk hb pass0 ha hg hdb he hpl
theorem eCallIO0 (i : Nat) (G : Df X.prog X.w X.K X.mg X.base k x np m) (hgd : X.A.guards = some []) (hr : Room k X.A) (hv : PE X e (tVar i)) (ha : PA X es (tAs X.K E0 g)) (hs : starEach (e :: es) X.env = (false, eval e X.env) :: starEach es X.env := by rfl)
    (hg : Gl X x := by rfl) (hdb : (x == ("__debug__" : Str)) = false := by decide) (he : starEach (e :: es) X.env = (false, eval e X.env) :: starEach es X.env := by rfl) (hpl : (backTo pos (starEach es X.env)).any (·.1) = false := by rfl) :
    PE X (.Call (.Name x p) (e :: es) [] pos) (tE X.K E0 (callIO i np g m)) := by
  obtain ⟨f, fd, ps, G, hm, hk, hb⟩ := G.ex
  exact eCallIO i G (fun _ _ _ z => z) hgd hr hm hk hb pass0 hv ha hs hg hdb he hpl
end
/-! ### the head's facts, with sys.modules -/
def hookS (n : Nat) (fa : List He.Fa) (fn : List He.DefD) : PySem.W.Hook where
  α := He.AlD × Bool
  obs := fun s => (He.obsD fa fn (He.frG s.heap.get? (sysModules :: He.asD s.heap.get? n)), ((He.frG s.heap.get? (sysModules :: He.asD s.heap.get? n)).lookup sysModules).isSome)
  val := fun _ => (He.valD fn, true)
  says := fun _ h => ∃ K : PySem.W.Frag, K.In h ∧ He.SaysD fa fn K ∧ ∃ o, K.lookup sysModules = some o
  of := fun _ _ e => ⟨_, He.frG_in, congrArg Prod.fst e, Option.isSome_iff_exists.mp (congrArg Prod.snd e)⟩
  keeps := fun _ _ _ ⟨K, hK, c⟩ k => ⟨K, PySem.W.Frag.In.keeps hK k, c⟩
def obS (n : Nat) (fa : List He.Fa) (fn : List He.DefD) (s : PySem.W.SharedT) : He.AlD × Bool :=
  (He.obsD fa fn (He.frG (HandSHeadRun.getT s) (sysModules :: He.asD (HandSHeadRun.getT s) n)), ((He.frG (HandSHeadRun.getT s) (sysModules :: He.asD (HandSHeadRun.getT s) n)).lookup sysModules).isSome)
theorem obS_eq {n : Nat} {fa : List He.Fa} {fn : List He.DefD} (s : PySem.W.SharedT) : obS n fa fn s = (hookS n fa fn).obs s.abs := by
  have e : HandSHeadRun.getT s = s.abs.heap.get? := funext (HandSHeadRun.getT_eq s)
  unfold obS
  rw [e] <;> rfl
/-! ### the law's end -/
theorem law_end {l : PySem.W.OpenLaw} {n k : Nat} {q : Program} {loose : List Str} {XP : (Str → Option Value) → Heap → Prop} {YP : World → Heap → Prop} {d : DefRec} {x : Str} {m : Rho → Out D}
    (hn : l.most = some n) (hn2 : n ≤ sizeLine) (hdf : d.params.defaults = []) (hr : Room k callerA)
    (F : ∀ (w : World) (mg : Str → Option Value) (fa : Addr) (h : Heap), YP w h → h.Ns mainGlobals mg → mg d.name = some (.ref fa) →
      ∃ (K : PySem.W.Frag) (fd : FuncData), K.In h ∧ (∀ (s : Shared) (u : Value), BindsTo s fd ⟨[u], []⟩ [(x, u)]) ∧ ∀ base : Heap, K.In base → base.Ns mainGlobals mg → FnG l.prog w K mg base CX0 k fa fd [x] (spM0 K 1 m))
    (L : ∀ ns : List Int, ns.length ≤ n → ∃ ρ', m [.dat (.scr ns)] = .ok (.bl true) ρ') :
    PySem.W.WalkO q loose XP YP l.row.toRowW d [] (fun f vs => PySem.call f vs) := by
  refine Att.attach_call hn hdf fun w s₀ s₁ mg mb fa o pm cd doc a vs ns G Y ho hd hcd hmg hobj hints hlen hg => ?_
  obtain ⟨K, fd, KX, hbind, hF⟩ := F w mg fa _ Y G.T.g hmg
  have rel := vals_ints hints
  have hl := hints.length
  -- whatever is tracked at the start is the script, locked
  have go : ∀ H : Hp, (∀ b u, H b = some u → b = a ∧ ∃ ob xs, u = .frz ob (.lst xs)) → HOk l.prog w H s₁.heap → (H a ≠ none → K.lookup a = none) → SqL K H a (ns.map V.int) →
      codeAny (model l.prog w) callerA (.call (.ref fa) ⟨[.ref a], []⟩) (fun r s' => r = .ok (.ret (.bool true)) ∧ OldK s₁.heap s'.heap ∧ s'.os = s₁.os ∧ AllBare s'.gens) s₁ := by
    intro H tr hok hK hS
    have keep : ∀ {b : Addr} {u : Obj}, s₁.heap.get? b = some u → H b = none → (hidT s₁.heap H).get? b = some u := fun e z => hidT_get e z
    have dn : ∀ {b : Addr} {u : Obj} {es : Array DictEntry} {ep : Nat}, s₁.heap.get? b = some u → u.data = .dict es ep → H b = none := by
      intro b u es ep e e2
      cases z : H b with
      | none => rfl
      | some y =>
        obtain ⟨rfl, _⟩ := tr b y z
        rw [hobj] at e
        cases e
        exact absurd e2 (by intro y; cases y)
    have ns' : ∀ {b : Addr} {f : Str → Option Value}, s₁.heap.Ns b f → (hidT s₁.heap H).Ns b f := by
      rintro b f ⟨u, es, ep, e, e2, r⟩
      exact ⟨u, es, ep, keep e (dn e e2), e2, r⟩
    have kb : K.In (hidT s₁.heap H) := by
      intro b u e
      refine keep (KX b u e) ?_
      cases z : H b with
      | none => rfl
      | some y =>
        obtain ⟨rfl, _⟩ := tr b y z
        rw [hK (by rw [z]; simp)] at e
        cases e
    have md : Mod K mg (hidT s₁.heap H) := by
      obtain ⟨mc, c1, c2⟩ := G.T.nolimit
      exact ⟨kb, ns' G.T.g, ⟨mb, ns' G.T.b, G.T.builtins⟩, ⟨mc, ns' c1, c2⟩⟩
    have e0 : Env0 l.prog w K mg (hidT s₁.heap H) callerA [] s₁ H := by
      refine ⟨rfl, md, fun b u e => of_hidT e, Nat.le_of_eq (hidT_size _ _), trivial, fun b hb => ?_, hok, .of_eq hg⟩
      cases (show b ∈ ([] : List Addr) from hb)
    have sp : spM0 K 1 m [.ref a] H (fun v _ => v = .bl true) (fun _ _ _ => False) := by
      obtain ⟨ρ', e⟩ := L ns hlen
      refine ⟨rfl, H, [.dat (.scr ns)], rfl, fun s hs => ?_, ⟨fun _ _ z => z, rfl, fun i s e => ?_, fun i j s t p e1 e2 m1 m2 _ _ => ?_⟩, ?_⟩
      · rw [List.mem_singleton.mp hs]; trivial
      · cases i with
        | zero => cases e; exact ⟨.ref a, rfl, .scr hS⟩
        | succ i => cases e
      · cases i with
        | zero => cases e1; exact m1.elim
        | succ i => cases e1
      · rw [e]
        intro B' H' _ v r
        cases r
        rfl
    apply codeAny_mono ((hF _ kb (ns' G.T.g)).run callerA [] s₁ H ⟨[.ref a], []⟩ [.ref a] [.ref a] _ _ rfl hr e0 (hbind s₁ (.ref a)) (.cons rfl .nil) sp)
    intro r s' hq
    cases r with
    | error e => exact hq.elim
    | ok fl =>
      cases fl with
      | next => exact hq.elim
      | brk => exact hq.elim
      | cont => exact hq.elim
      | ret u =>
        obtain ⟨v, H', os, bare, un, hok', rv, hv⟩ := hq
        have hv : v = .bl true := hv
        subst hv
        have hu : u = Value.bool true := rv
        subst hu
        refine ⟨rfl, OldK.of_keep fun b u e => ?_, os, bare⟩
        cases z : H b with
        | none =>
          refine un.keep b u e z ?_ (by simp)
          intro y
          cases (show b ∈ ([] : List Addr) from y)
        | some y =>
          obtain ⟨_, ob, xs, rfl⟩ := tr b y z
          have z2 := un.frzs b ob _ z
          have f1 := (hok b _ z).1
          have f2 := (hok' b _ z2).1
          rw [e] at f1
          rw [f2, ← f1]
  cases hk : K.lookup a with
  | some ob =>
    have e := KX a ob hk
    rw [hobj] at e
    cases e
    refine go (fun _ => none) (fun b u z => by cases z) (fun b u z => by cases z) (fun z => absurd rfl z) (.inr ⟨_, vs.toArray, _, hk, rfl, rfl, rfl, ?_, ?_⟩)
    · rw [List.size_toArray, hl]; exact Nat.le_trans hlen hn2
    · simpa using rel
  | none =>
    have at_ : ∀ {b : Addr} {u : HO}, (if b = a then some (HO.frz { cls := .type "list", data := .seq vs.toArray } (.lst (ns.map V.int))) else none) = some u → b = a ∧ u = .frz { cls := .type "list", data := .seq vs.toArray } (.lst (ns.map V.int)) := by
      intro b u z
      split at z
      · cases z; exact ⟨by assumption, rfl⟩
      · cases z
    refine go (fun b => if b = a then some (.frz { cls := .type "list", data := .seq vs.toArray } (.lst (ns.map V.int))) else none) (fun b u z => ?_) (fun b u z => ?_) (fun _ => hk) (.inl (.inr ⟨_, if_pos rfl⟩))
    · obtain ⟨h1, rfl⟩ := at_ z
      exact ⟨h1, _, _, rfl⟩
    · obtain ⟨rfl, rfl⟩ := at_ z
      exact ⟨hobj, by rw [List.length_map]; exact Nat.le_trans hlen hn2, vs, _, rel, hobj⟩
end PD
namespace PD
open PySem PySem.Spec PyProof.Rows L2
/-! ### defs that hand back a new list; a new list handed in -/
def fnMN (n : Nat) (body : MS) : Rho → Out D := fun ρ => match body (ρ ++ List.replicate (n - ρ.length) .no) with
  | .rn d ρ' => .ok d (cl ρ ρ')
  | .exc C fs ρ' => .exc C fs (cl ρ ρ')
  | _ => .bad
def spN (K : PySem.W.Frag) (np : Nat) (f : Rho → Out D) : Sp := fun vs H Q E => vs.length = np ∧ ∃ B ρ, ρ.length = np ∧ (∀ s ∈ ρ, parOk s) ∧ Sta K B ρ (vs.map some) H ∧ Aft K E (vs.map some) ρ B H (f ρ) fun d _ B' H' => ∀ p, H p = none → B' p = none → Own K B' H' p d → Q (.ref p) H'
def spN0 (K : PySem.W.Frag) (np : Nat) (f : Rho → Out D) : Sp := fun vs H Q _ => spN K np f vs H Q E0
section
variable {X : Cx} {F : Fm} {E : XK} {e : Expr} {f : M D} {pos : Pos}
theorem sRetN (h : PE X e (tN X.K E f)) : PS X (.Return (some e) pos) (tS X.K F E (thenS f fun d => .rn d)) := PS.imp (ps_ret h) fun W σ H ⟨B, ρ, S, z⟩ =>
  ⟨B, ρ, S.st, (Aft.thenS z S).mono fun d ρ1 B1 H1 s1 ⟨S1, z1⟩ p hp hb ow => z1 p σ B1 H1 S1 (S.adv.back hp) hb ow fun w => S.st.notown hp (s1.le.own w)⟩
end
section
variable {P : Program} {w : World} {K : PySem.W.Frag} {mg : Str → Option Value} {base : Heap} {B H : Hp} {vs : List V} {N : List Str}
theorem body_ofN {E : XK} {Q : VK} {body : MS} {np : Nat} (h : spN K np (fnMN N.length body) vs H Q E) (hN : np ≤ N.length) :
    ∃ F : Fm, tS K F E body { nx := fun _ H' => Q .non H', rt := Q } (start N vs) H := by
  obtain ⟨hl, B, ρ, hr, hp, S, a⟩ := h
  have hN' : vs.length ≤ N.length := by omega
  refine ⟨fm B H N vs ρ, B, _, stf_start S hN', ?_⟩
  unfold fnMN at a
  cases q : body (ρ ++ List.replicate (N.length - ρ.length) .no) with
  | rn d ρ' => rw [q] at a; exact fun p σ' B' H' S' hp hb ow _ => a B' H' (stp_back S hN' S') p hp hb ow
  | exc C fs ρ' => rw [q] at a; exact fun dx vfs σ' B' H' S' => a dx vfs B' H' (stp_back S hN' S')
  | nx ρ' => rw [q] at a; exact a.elim
  | rt d ρ' => rw [q] at a; exact a.elim
  | bk ρ' => rw [q] at a; exact a.elim
  | ct ρ' => rw [q] at a; exact a.elim
  | bad => rw [q] at a; exact a.elim
theorem fnN0 {x : Str} {st : Stmt} {f : Addr} {fd : FuncData} {N ps : List Str} {k : Nat} {body : MS} (F : FnP K x st f fd) (S : FnScope N ps (defScope st)) (hp : ps.length ≤ N.length)
    (hb : ∀ (cdv : Value) (A : Around) (outer : List Env) (s : Shared) (H : Hp) (E : XK) (Fr : Fm), (cx0 P w K mg base N x st f cdv A outer s H E).A.guards = some [] → Room k (cx0 P w K mg base N x st f cdv A outer s H E).A →
      PSs (cx0 P w K mg base N x st f cdv A outer s H E) (defBody st) (tS K Fr E0 body)) : FnG P w K mg base CX0 (k + 1) f fd ps (spN0 K ps.length (fnMN N.length body)) :=
  fnG_of (FunD.asFun F) S (fun vs H Q E h => h.1) fun cdv A outer s H vs Q E hg hr h => by
    obtain ⟨Fr, h⟩ := body_ofN h hp
    exact ⟨_, PSs.nox (hb cdv A outer s H E Fr hg hr), h⟩
end
structure DfN (P : Program) (w : World) (K : PySem.W.Frag) (mg : Str → Option Value) (base : Heap) (k : Nat) (x : Str) (np : Nat) (m : Rho → Out D) : Prop where
  ex : ∃ (f : Addr) (fd : FuncData) (ps : List Str), FnG P w K mg base CX0 k f fd ps (spN0 K np m) ∧ mg x = some (.ref f) ∧ PySem.W.keepIn K (.ref f) = true ∧ Binds K fd ps []
section
variable {X : Cx} {k np : Nat} {x : Str} {p pos : Pos} {e : Expr} {es : List Expr} {g : M (List D)} {m : Rho → Out D} {fe : M D}
theorem eCallN0 (G : DfN X.prog X.w X.K X.mg X.base k x np m) (hgd : X.A.guards = some []) (hr : Room k X.A) (ha : PA X (e :: es) (tAs X.K E0 g))
    (hg : Gl X x := by rfl) (hdb : (x == ("__debug__" : Str)) = false := by decide) (he : starEach (e :: es) X.env = (false, eval e X.env) :: starEach es X.env := by rfl) (hpl : (backTo pos (starEach es X.env)).any (·.1) = false := by rfl) :
    PE X (.Call (.Name x p) (e :: es) [] pos) (tN X.K E0 (callD np g m)) := by
  obtain ⟨f, fd, ps, G, hm, hk, hb⟩ := G.ex
  refine PE.imp (pe_callG (E := E0) G hgd hr hg hm hk hb pass0 ha hdb he hpl) fun σ H Q ⟨B, ρ, S, z⟩ => ⟨B, ρ, S, z.bind.mono fun ds ρ1 B1 H1 s1 a1 vs ra => ?_⟩
  have a1 : Aft X.K E0 σ ρ1 B1 H1 (if ds.length = np then (match m (ds.map .dat) with
    | .ok d _ => Out.ok d ρ1
    | .exc C fs _ => .exc C fs ρ1
    | .bad => .bad) else .bad) fun d _ B' H' => ∀ p, H p = none → B' p = none → Own X.K B' H' p d → Q (.ref p) H' := a1
  by_cases hl : ds.length = np
  · rw [if_pos hl] at a1
    show spN X.K np m (vs ++ []) H1 Q E0
    rw [List.append_nil]
    refine ⟨by rw [ra.length]; exact hl, B1, ds.map .dat, by simpa using hl, fun s hs => ?_, sta_dats s1.st ra, ?_⟩
    · obtain ⟨d, _, rfl⟩ := List.mem_map.mp hs
      trivial
    · cases q : m (ds.map .dat) with
      | bad => rw [q] at a1; exact a1
      | exc C fs ρ' => rw [q] at a1; exact fun dx vfs B' H' st => a1 dx vfs B' H' (stp_dats s1.st st)
      | ok d ρ' => rw [q] at a1; exact fun B' H' st p hp hb ow => a1 B' H' (stp_dats s1.st st) p (s1.adv.back hp) hb ow
  · rw [if_neg hl] at a1; exact a1.elim
/-- f(e), e a new list that f changes -/
def callT (fe : M D) (f : Rho → Out D) : M D := fun ρ => match fe ρ with
  | .ok c ρ1 => (match f [.io c] with
    | .ok d (.io _ :: _) => .ok d ρ1
    | _ => .bad)
  | .exc C fs ρ1 => .exc C fs ρ1
  | .bad => .bad
theorem eCallT0 (G : Df X.prog X.w X.K X.mg X.base k x 1 m) (hgd : X.A.guards = some []) (hr : Room k X.A) (ha : PE X e (tN X.K E0 fe)) (hs : starEach [e] X.env = (false, eval e X.env) :: starEach [] X.env := by rfl)
    (hg : Gl X x := by rfl) (hdb : (x == ("__debug__" : Str)) = false := by decide) (he : starEach [e] X.env = (false, eval e X.env) :: starEach [] X.env := by rfl) (hpl : (backTo pos (starEach [] X.env)).any (·.1) = false := by rfl) :
    PE X (.Call (.Name x p) [e] [] pos) (tE X.K E0 (callT fe m)) := by
  obtain ⟨f, fd, ps, G, hm, hk, hb⟩ := G.ex
  refine PE.imp (pe_callG (E := E0) G hgd hr hg hm hk hb pass0 (pa_cons ha pa_nil hs) hdb he hpl) fun σ H Q ⟨B, ρ, S, z⟩ => ⟨B, ρ, S, ?_⟩
  unfold callT at z
  cases q : fe ρ with
  | bad => rw [q] at z; exact z
  | exc C fs ρ' => rw [q] at z; exact z
  | ok c ρ1 =>
    rw [q] at z
    intro B1 H1 s1 r hr hb1 ow
    show spM X.K 1 m [.ref r] H1 Q E0
    refine ⟨rfl, B1, [.io c], rfl, fun s hs => ?_, ⟨s1.st.bh, rfl, fun j t e1 => ?_, fun j l t u b e1 e3 m1 m3 _ _ => ?_⟩, ?_⟩
    · rw [List.mem_singleton.mp hs]; trivial
    · cases j with
      | zero => cases e1; exact ⟨r, rfl, hb1, ow⟩
      | succ j => cases e1
    · have z0 : ∀ (j : Nat) (t : Slot), [Slot.io c][j]? = some t → j = 0 := fun j t e1 => by
        cases j with
        | zero => rfl
        | succ j => cases e1
      rw [z0 j t e1, z0 l u e3]
    · cases y : m [.io c] with
      | bad => simp only [y] at z; exact z.elim
      | exc C fs ρ' => simp only [y] at z; exact z.elim
      | ok d ρ' =>
        simp only [y] at z
        cases ρ' with
        | nil => exact z.elim
        | cons t ρ' =>
          cases t with
          | no => exact z.elim
          | dat d0 => exact z.elim
          | own d0 => exact z.elim
          | io c' =>
            intro B' H' st
            refine z B' H' ?_
            obtain ⟨r2, e3, n3, w3⟩ := st.st.sl 0 _ rfl
            cases e3
            have oq : ∀ b, ownAt [.io c] ([V.ref r].map some) b → b = r := fun b ⟨j, t, x1, x2, x3⟩ => by
              cases j with
              | zero => cases x3; rfl
              | succ j => cases x1
            have nor : ¬ ownAt ρ σ r := S.notown hr
            have ff : ∀ b o, b ≠ r → H1 b = some o → H' b = some o := fun b o ne e => st.adv.fr b o e fun w => ne (oq b w)
            have nn : ∀ b o, B' b = some o → B1 b = some o ∨ H1 b = none := fun b o e => by
              rcases st.adv.nw b o e with y | y | y
              · exact .inl y
              · exact .inr y
              · rw [oq b y] at e; rw [n3] at e; cases e
            refine ⟨s1.st.move st.st.bh st.adv.ex (fun b u ow e => ff b u (fun zz => nor (s1.le.own (by rw [← zz]; exact ow))) e) (fun b ow => ?_), ⟨s1.adv.ex.trans st.adv.ex, fun b o e => ?_, fun b o e no => ff b o (ne_of_none e hr) (s1.adv.fr b o e no), fun b o e => let ⟨u, e1⟩ := s1.adv.al b o e; st.adv.al b u e1⟩, s1.le⟩
            · obtain ⟨n, u, hu⟩ := s1.st.there ow
              cases qq : B' b with
              | none => rfl
              | some o =>
                rcases nn b o qq with y | y
                · rw [n] at y; cases y
                · rw [hu] at y; cases y
            · rcases nn b o e with y | y
              · exact s1.adv.nw b o y
              · exact .inr (.inl (s1.adv.back y))
/-! ### names of the module -/
theorem gStr {E : XK} {z : Str} (h : ∃ t, X.mg x = some (.str z t)) (hg : Gl X x := by rfl) (hd : (x == ("__debug__" : Str)) = false := by decide) : PE X (.Name x pos) (tE X.K E (ret (.str z))) := by
  obtain ⟨t, h⟩ := h
  exact cst (pe_glob (v := .str z) hg h ⟨t, rfl⟩ hd) fun _ => .str z
theorem gInt {E : XK} {z : Int} (h : ∃ t, X.mg x = some (.int z t)) (hg : Gl X x := by rfl) (hd : (x == ("__debug__" : Str)) = false := by decide) : PE X (.Name x pos) (tE X.K E (ret (.int z))) := by
  obtain ⟨t, h⟩ := h
  exact cst (pe_glob (v := .int z) hg h ⟨t, rfl⟩ hd) fun _ => .int z
theorem gTy {E : XK} {T : String} (h : X.mg x = none) (hv : bootBuiltins x = some (.type T)) (hg : Gl X x := by rfl) (hn : x ≠ "__name__" := by decide) (hd : (x == ("__debug__" : Str)) = false := by decide) : PE X (.Name x pos) (tE X.K E (ret (.ty T))) :=
  cst (pe_bltn (v := .ty T) hg h hv rfl hn hd) fun _ => .ty T
end
def Dl (K : PySem.W.Frag) (mg : Str → Option Value) (x : Str) (st : Stmt) : Prop := ∃ f fd, FnP K x st f fd ∧ mg x = some (.ref f)
theorem hu64 {A : Around} {k : Nat} (hr : Room k A) : A.units + 64 < cLine := by have := hr.un; omega
theorem hu65 {A : Around} {k : Nat} (hr : Room k A) : A.units + 65 < cLine := by have := hr.un; omega
end PD
/-! Running the meaning of a def: what comes out, as a proposition. -/
namespace PD
open PySem L2
def Ev {α : Type} (x : M α) (ρ : Rho) (Q : α → Rho → Prop) : Prop := ∃ a ρ', x ρ = .ok a ρ' ∧ Q a ρ'
def EvF (m : Rho → Out D) (ρ : Rho) (Q : D → Rho → Prop) : Prop := ∃ a ρ', m ρ = .ok a ρ' ∧ Q a ρ'
def EvS (f : MS) (ρ : Rho) (N : Rho → Prop) (R : D → Rho → Prop) : Prop := match f ρ with
  | .nx ρ' => N ρ'
  | .rt d ρ' => R d ρ'
  | _ => False
section
variable {α β : Type} {ρ : Rho}
theorem Ev.mono {x : M α} {Q Q' : α → Rho → Prop} (h : Ev x ρ Q) (m : ∀ a ρ', Q a ρ' → Q' a ρ') : Ev x ρ Q' := let ⟨a, ρ', e, q⟩ := h; ⟨a, ρ', e, m a ρ' q⟩
theorem EvF.mono {x : Rho → Out D} {Q Q' : D → Rho → Prop} (h : EvF x ρ Q) (m : ∀ a ρ', Q a ρ' → Q' a ρ') : EvF x ρ Q' := let ⟨a, ρ', e, q⟩ := h; ⟨a, ρ', e, m a ρ' q⟩
theorem EvS.mono {f : MS} {N N' : Rho → Prop} {R R' : D → Rho → Prop} (h : EvS f ρ N R) (n : ∀ ρ', N ρ' → N' ρ') (r : ∀ d ρ', R d ρ' → R' d ρ') : EvS f ρ N' R' := by
  unfold EvS at h ⊢
  cases e : f ρ <;> rw [e] at h
  · exact n _ h
  · exact r _ _ h
  · exact h
  · exact h
  · exact h
  · exact h
  · exact h
theorem ev_of {x : M α} {a : α} {ρ' : Rho} {Q : α → Rho → Prop} (e : x ρ = .ok a ρ') (q : Q a ρ') : Ev x ρ Q := ⟨a, ρ', e, q⟩
theorem ev_ret {a : α} {Q : α → Rho → Prop} : Ev (ret a) ρ Q ↔ Q a ρ := ⟨fun ⟨_, _, e, q⟩ => by cases e; exact q, fun q => ⟨_, _, rfl, q⟩⟩
theorem ev_bnd {x : M α} {f : α → M β} {Q : β → Rho → Prop} : Ev (bnd x f) ρ Q ↔ Ev x ρ fun a ρ' => Ev (f a) ρ' Q := by
  constructor
  · rintro ⟨b, ρ', e, q⟩
    unfold bnd at e
    cases z : x ρ with
    | ok a ρ1 => rw [z] at e; exact ⟨a, ρ1, z, b, ρ', e, q⟩
    | exc C fs ρ1 => rw [z] at e; cases e
    | bad => rw [z] at e; cases e
  · rintro ⟨a, ρ1, z, b, ρ', e, q⟩
    refine ⟨b, ρ', ?_, q⟩
    unfold bnd
    rw [z]; exact e
theorem ev_opt {o : Option α} {Q : α → Rho → Prop} : Ev (opt o) ρ Q ↔ ∃ a, o = some a ∧ Q a ρ := by
  constructor
  · rintro ⟨a, ρ', e, q⟩
    cases o with
    | none => cases e
    | some b => cases e; exact ⟨_, rfl, q⟩
  · rintro ⟨a, rfl, q⟩
    exact ⟨a, ρ, rfl, q⟩
theorem ev_some {a : α} {Q : α → Rho → Prop} : Ev (opt (some a)) ρ Q ↔ Q a ρ := by rw [ev_opt]; simp
theorem ev_rdS {i : Nat} {Q : D → Rho → Prop} : Ev (rdS i) ρ Q ↔ ∃ d, ρ[i]? = some (.dat d) ∧ Q d ρ := by
  unfold Ev rdS
  constructor
  · rintro ⟨a, ρ', e, q⟩
    split at e
    · cases e; exact ⟨_, by assumption, q⟩
    · cases e
  · rintro ⟨d, e, q⟩
    exact ⟨d, ρ, by rw [e], q⟩
theorem ev_bin2 {fa fb : M D} {g : D → D → M D} {Q : D → Rho → Prop} : Ev (bin2 fa fb g) ρ Q ↔ Ev fa ρ fun x ρ1 => Ev fb ρ1 fun y ρ2 => Ev (g x y) ρ2 Q := by
  unfold bin2
  rw [ev_bnd]
  constructor
  · exact fun h => h.mono fun a ρ' q => ev_bnd.mp q
  · exact fun h => h.mono fun a ρ' q => ev_bnd.mpr q
theorem ev_argC {f : M D} {g : M (List D)} {Q : List D → Rho → Prop} : Ev (argC f g) ρ Q ↔ Ev f ρ fun x ρ1 => Ev g ρ1 fun xs ρ2 => Q (x :: xs) ρ2 := by
  unfold argC
  rw [ev_bnd]
  constructor
  · exact fun h => h.mono fun a ρ' q => (ev_bnd.mp q).mono fun b ρ'' q => ev_ret.mp q
  · exact fun h => h.mono fun a ρ' q => ev_bnd.mpr (q.mono fun b ρ'' q => ev_ret.mpr q)
theorem ev_lay {mk : List D → D} {g : M (List D)} {Q : D → Rho → Prop} : Ev (lay mk g) ρ Q ↔ Ev g ρ fun ds ρ' => ds.length ≤ sizeLine ∧ Q (mk ds) ρ' := by
  unfold lay
  rw [ev_bnd]
  constructor
  · exact fun h => h.mono fun ds ρ' q => by
      obtain ⟨d, e, q⟩ := ev_opt.mp q
      obtain ⟨h1, rfl⟩ := lay_of e
      exact ⟨h1, q⟩
  · exact fun h => h.mono fun ds ρ' ⟨h1, q⟩ => ev_opt.mpr ⟨_, if_pos h1, q⟩
theorem ev_asB {f : M D} {Q : Bool → Rho → Prop} : Ev (asB f) ρ Q ↔ Ev f ρ fun d ρ' => ∃ b, d = .bl b ∧ Q b ρ' := by
  unfold asB
  rw [ev_bnd]
  constructor
  · exact fun h => h.mono fun d ρ' q => by
      obtain ⟨b, e, q1⟩ := ev_opt.mp q
      cases d <;> simp only [reduceCtorEq, Option.some.injEq] at e
      exact ⟨_, rfl, e ▸ q1⟩
  · exact fun h => h.mono fun d ρ' ⟨b, e, q⟩ => ev_opt.mpr ⟨b, by rw [e], q⟩
theorem ev_ite {c : Prop} [Decidable c] {f g : M α} {Q : α → Rho → Prop} : Ev (if c then f else g) ρ Q ↔ if c then Ev f ρ Q else Ev g ρ Q := by split <;> exact Iff.rfl
theorem ev_iteM {t : M Bool} {f g : M α} {Q : α → Rho → Prop} : Ev (iteM t f g) ρ Q ↔ Ev t ρ fun b ρ' => if b = true then Ev f ρ' Q else Ev g ρ' Q := by
  unfold iteM
  rw [ev_bnd]
  constructor
  · exact fun h => h.mono fun b ρ' q => ev_ite.mp q
  · exact fun h => h.mono fun b ρ' q => ev_ite.mpr q
theorem ev_andM {f g : M Bool} {Q : Bool → Rho → Prop} : Ev (andM f g) ρ Q ↔ Ev f ρ fun b ρ' => if b = true then Ev g ρ' Q else Q false ρ' := by
  unfold andM
  rw [ev_bnd]
  constructor
  · exact fun h => h.mono fun b ρ' q => by cases b <;> simpa [ev_ret] using q
  · exact fun h => h.mono fun b ρ' q => by cases b <;> simpa [ev_ret] using q
theorem ev_orM {f g : M Bool} {Q : Bool → Rho → Prop} : Ev (orM f g) ρ Q ↔ Ev f ρ fun b ρ' => if b = true then Q true ρ' else Ev g ρ' Q := by
  unfold orM
  rw [ev_bnd]
  constructor
  · exact fun h => h.mono fun b ρ' q => by cases b <;> simpa [ev_ret] using q
  · exact fun h => h.mono fun b ρ' q => by cases b <;> simpa [ev_ret] using q
theorem ev_notM {f : M Bool} {Q : Bool → Rho → Prop} : Ev (notM f) ρ Q ↔ Ev f ρ fun b ρ' => Q (!b) ρ' := by
  unfold notM
  rw [ev_bnd]
  exact ⟨fun h => h.mono fun b ρ' q => ev_ret.mp q, fun h => h.mono fun b ρ' q => ev_ret.mpr q⟩
theorem ev_andV {f g : M D} {Q : D → Rho → Prop} : Ev (andV f g) ρ Q ↔ Ev (asB f) ρ fun b ρ' => if b = true then Ev g ρ' Q else Q (.bl false) ρ' := by
  unfold andV
  rw [ev_bnd]
  constructor
  · exact fun h => h.mono fun b ρ' q => by cases b <;> simpa [ev_ret] using q
  · exact fun h => h.mono fun b ρ' q => by cases b <;> simpa [ev_ret] using q
theorem ev_orV {f g : M D} {Q : D → Rho → Prop} : Ev (orV f g) ρ Q ↔ Ev (asB f) ρ fun b ρ' => if b = true then Q (.bl true) ρ' else Ev g ρ' Q := by
  unfold orV
  rw [ev_bnd]
  constructor
  · exact fun h => h.mono fun b ρ' q => by cases b <;> simpa [ev_ret] using q
  · exact fun h => h.mono fun b ρ' q => by cases b <;> simpa [ev_ret] using q
theorem ev_notV {f : M D} {Q : D → Rho → Prop} : Ev (notV f) ρ Q ↔ Ev (asB f) ρ fun b ρ' => Q (.bl (!b)) ρ' := by
  unfold notV
  rw [ev_bnd]
  exact ⟨fun h => h.mono fun b ρ' q => ev_ret.mp q, fun h => h.mono fun b ρ' q => ev_ret.mpr q⟩
theorem ev_bad {Q : α → Rho → Prop} : Ev (fun _ => Out.bad : M α) ρ Q ↔ False := ⟨fun ⟨_, _, e, _⟩ => (nomatch e), False.elim⟩
theorem ev_chn {fa fb fc : M D} {g g' : D → D → M D} {Q : D → Rho → Prop} : Ev (chn fa fb fc g g') ρ Q ↔ Ev fa ρ fun x ρ1 => Ev fb ρ1 fun y ρ2 => Ev (g x y) ρ2 fun z ρ3 => ∃ k, z = .bl k ∧ if k = true then Ev fc ρ3 (fun w ρ4 => Ev (g' y w) ρ4 Q) else Q (.bl false) ρ3 := by
  unfold chn
  rw [ev_bnd]
  have key : ∀ (x y z : D) (ρ3 : Rho), Ev (match z with
    | .bl true => bnd fc fun w => g' y w
    | .bl false => ret (.bl false)
    | _ => fun _ => .bad) ρ3 Q ↔ ∃ k, z = .bl k ∧ if k = true then Ev fc ρ3 (fun w ρ4 => Ev (g' y w) ρ4 Q) else Q (.bl false) ρ3 := by
    intro x y z ρ3
    constructor
    · intro h
      split at h
      · exact ⟨true, rfl, by rw [if_pos rfl]; exact ev_bnd.mp h⟩
      · exact ⟨false, rfl, by rw [if_neg Bool.false_ne_true]; exact ev_ret.mp h⟩
      · exact (ev_bad.mp h).elim
    · rintro ⟨k, rfl, h⟩
      cases k with
      | true => rw [if_pos rfl] at h; exact ev_bnd.mpr h
      | false => rw [if_neg Bool.false_ne_true] at h; exact ev_ret.mpr h
  constructor
  · exact fun h => h.mono fun x ρ1 q => (ev_bnd.mp q).mono fun y ρ2 q => (ev_bnd.mp q).mono fun z ρ3 q => (key x y z ρ3).mp q
  · exact fun h => h.mono fun x ρ1 q => ev_bnd.mpr (q.mono fun y ρ2 q => ev_bnd.mpr (q.mono fun z ρ3 q => (key x y z ρ3).mpr q))
theorem ev_cur {i : Nat} {Q : D → Rho → Prop} : Ev (cur i) ρ Q ↔ ∃ d, (ρ[i]? = some (.own d) ∨ ρ[i]? = some (.io d)) ∧ Q d ρ := by
  unfold Ev cur
  constructor
  · rintro ⟨a, ρ', e, q⟩
    split at e
    · cases e; exact ⟨_, .inl (by assumption), q⟩
    · cases e; exact ⟨_, .inr (by assumption), q⟩
    · cases e
  · rintro ⟨d, e | e, q⟩
    · exact ⟨d, ρ, by rw [e], q⟩
    · exact ⟨d, ρ, by rw [e], q⟩
theorem evS_nx {N : Rho → Prop} {R : D → Rho → Prop} : EvS .nx ρ N R ↔ N ρ := Iff.rfl
theorem evS_rt {d : D} {N : Rho → Prop} {R : D → Rho → Prop} : EvS (.rt d) ρ N R ↔ R d ρ := Iff.rfl
theorem evS_seq {f g : MS} {N : Rho → Prop} {R : D → Rho → Prop} : EvS (seqS f g) ρ N R ↔ EvS f ρ (fun ρ' => EvS g ρ' N R) R := by
  unfold EvS seqS
  cases e : f ρ <;> simp only
theorem evS_then {x : M α} {k : α → MS} {N : Rho → Prop} {R : D → Rho → Prop} : EvS (thenS x k) ρ N R ↔ Ev x ρ fun a ρ' => EvS (k a) ρ' N R := by
  unfold EvS thenS Ev
  cases e : x ρ with
  | ok a ρ1 =>
    constructor
    · exact fun h => ⟨a, ρ1, rfl, h⟩
    · rintro ⟨a', ρ', e', q⟩
      cases e'; exact q
  | exc C fs ρ1 => exact ⟨fun h => h.elim, fun ⟨_, _, e', _⟩ => (nomatch e')⟩
  | bad => exact ⟨fun h => h.elim, fun ⟨_, _, e', _⟩ => (nomatch e')⟩
theorem evS_ite {c : Prop} [Decidable c] {f g : MS} {N : Rho → Prop} {R : D → Rho → Prop} : EvS (if c then f else g) ρ N R ↔ if c then EvS f ρ N R else EvS g ρ N R := by split <;> exact Iff.rfl
theorem evS_if {t : M Bool} {f g : MS} {N : Rho → Prop} {R : D → Rho → Prop} : EvS (ifS t f g) ρ N R ↔ Ev t ρ fun b ρ' => if b = true then EvS f ρ' N R else EvS g ρ' N R := by
  unfold ifS
  rw [evS_then]
  exact ⟨fun h => h.mono fun b ρ' q => evS_ite.mp q, fun h => h.mono fun b ρ' q => evS_ite.mpr q⟩
theorem ev_isMu {i : Nat} {Q : Unit → Rho → Prop} : Ev (isMu i) ρ Q ↔ (∃ d, ρ[i]? = some (.own d) ∨ ρ[i]? = some (.io d)) ∧ Q () ρ := by
  unfold Ev isMu
  constructor
  · rintro ⟨a, ρ', e, q⟩
    split at e
    · cases e; exact ⟨⟨_, .inl (by assumption)⟩, q⟩
    · cases e; exact ⟨⟨_, .inr (by assumption)⟩, q⟩
    · cases e
  · rintro ⟨⟨d, e | e⟩, q⟩
    · exact ⟨(), ρ, by rw [e], q⟩
    · exact ⟨(), ρ, by rw [e], q⟩
theorem evS_set {i : Nat} {d : D} {N : Rho → Prop} {R : D → Rho → Prop} : EvS (setM i d) ρ N R ↔ (∃ s, ρ[i]? = some s ∧ ∀ d, s ≠ .io d) ∧ N (ρ.set i (.dat d)) := by
  unfold EvS setM
  cases e : ρ[i]? with
  | none => simp
  | some s => cases s <;> simp
/-! ### slot 0 is handed in: what is drawn from -/
theorem ev_ixO0 {c : D} {r : Rho} {f : M D} {Q : D → Rho → Prop} : Ev (ixO 0 f) (.io c :: r) Q ↔ Ev f (.io c :: r) fun y ρ' => Ev (bnd (cur 0) fun d => opt (dIx d y)) ρ' Q := by
  unfold ixO
  rw [ev_bnd, ev_isMu]
  constructor
  · exact fun h => ev_bnd.mp h.2
  · exact fun h => ⟨⟨c, .inr rfl⟩, ev_bnd.mpr h⟩
theorem ev_cur0 {c : D} {r : Rho} {Q : D → Rho → Prop} : Ev (cur 0) (.io c :: r) Q ↔ Q c (.io c :: r) := by
  rw [ev_cur]
  constructor
  · rintro ⟨d, e | e, q⟩
    · cases e
    · cases e; exact q
  · exact fun q => ⟨c, .inr rfl, q⟩
theorem ev_putM0 {c d : D} {r : Rho} {Q : Unit → Rho → Prop} : Ev (putM 0 d) (.io c :: r) Q ↔ Q () (.io d :: r) := ⟨fun ⟨_, _, e, q⟩ => by cases e; exact q, fun q => ⟨(), _, rfl, q⟩⟩
theorem ev_callIO0 {c : D} {r : Rho} {np : Nat} {g : M (List D)} {m : Rho → Out D} {Q : D → Rho → Prop} (h : Ev g (.io c :: r) fun ds ρ' => ∃ c1 r1, ρ' = .io c1 :: r1 ∧ ds.length + 1 = np ∧ EvF m (.io c1 :: ds.map .dat) fun d ρp => ∃ c' t, ρp = .io c' :: t ∧ Q d (.io c' :: r1)) :
    Ev (callIO 0 np g m) (.io c :: r) Q := by
  unfold callIO
  rw [ev_bnd, ev_isMu]
  refine ⟨⟨c, .inr rfl⟩, ev_bnd.mpr (h.mono ?_)⟩
  rintro ds ρ' ⟨c1, r1, rfl, hl, d, ρp, e, c', t, rfl, q⟩
  rw [ev_bnd, ev_cur0, if_pos hl, e]
  exact ev_bnd.mpr (ev_putM0.mpr (ev_ret.mpr q))
theorem ev_callD {np : Nat} {g : M (List D)} {m : Rho → Out D} {Q : D → Rho → Prop} : Ev (callD np g m) ρ Q ↔ Ev g ρ fun ds ρ' => ds.length = np ∧ EvF m (ds.map .dat) fun d _ => Q d ρ' := by
  unfold callD
  rw [ev_bnd]
  constructor
  · exact fun h => h.mono fun ds ρ' ⟨a, ρ2, e, q⟩ => by
      split at e
      · refine ⟨by assumption, ?_⟩
        split at e
        · cases e; exact ⟨_, _, by assumption, q⟩
        · cases e
        · cases e
      · cases e
  · exact fun h => h.mono fun ds ρ' ⟨hl, d, ρ2, e, q⟩ => ⟨d, ρ', by show (if ds.length = np then _ else _) = _; rw [if_pos hl, e], q⟩
theorem evF_fnM {n : Nat} {body : MS} {Q : D → Rho → Prop} : EvF (fnM n body) ρ Q ↔ EvS body (ρ ++ List.replicate (n - ρ.length) .no) (fun ρ' => Q .non (cl ρ ρ')) fun d ρ' => Q d (cl ρ ρ') := by
  unfold EvS EvF fnM
  cases e : body (ρ ++ List.replicate (n - ρ.length) .no) <;> simp only [reduceCtorEq, false_and, exists_const, Out.ok.injEq]
  · exact ⟨fun ⟨_, _, ⟨h1, h2⟩, q⟩ => by subst h1; subst h2; exact q, fun q => ⟨_, _, ⟨rfl, rfl⟩, q⟩⟩
  · exact ⟨fun ⟨_, _, ⟨h1, h2⟩, q⟩ => by subst h1; subst h2; exact q, fun q => ⟨_, _, ⟨rfl, rfl⟩, q⟩⟩
  all_goals exact ⟨fun ⟨_, z⟩ => z, False.elim⟩
theorem evS_tgNm {i : Nat} {d : D} {N : Rho → Prop} {R : D → Rho → Prop} : EvS (tgS (.nm i) d) ρ N R ↔ EvS (setM i d) ρ N R := Iff.rfl
theorem evS_it0 {c d : D} {r : Rho} {f : M D} {N : Rho → Prop} {R : D → Rho → Prop} (h : Ev f (.io c :: r) fun y ρ' => ∃ c1 r1 c', ρ' = .io c1 :: r1 ∧ setL c1 y d = some c' ∧ N (.io c' :: r1)) : EvS (tgS (.it 0 f) d) (.io c :: r) N R := by
  refine evS_then.mpr ?_
  rw [ev_bnd, ev_isMu]
  refine ⟨⟨c, .inr rfl⟩, ev_bnd.mpr (h.mono ?_)⟩
  rintro y ρ' ⟨c1, r1, c', rfl, e, q⟩
  rw [ev_bnd, ev_cur0, ev_bnd, ev_opt]
  exact ⟨c', e, ev_putM0.mpr q⟩
theorem evS_only {f : MS} {N : Rho → Prop} {R : D → Rho → Prop} (h : EvS f ρ N fun _ _ => False) : EvS (fun ρ => onlyNx (f ρ)) ρ N R := by
  unfold EvS at h ⊢
  dsimp only
  generalize f ρ = o at h ⊢
  cases o <;> first | exact h | exact False.elim h
theorem evS_itAsg {t : Tg} {f : M D} {N : Rho → Prop} {R : D → Rho → Prop} (h : Ev f ρ fun d ρ' => EvS (tgS t d) ρ' N fun _ _ => False) : EvS (itAsgS t f) ρ N R := evS_then.mpr (h.mono fun d ρ' q => evS_only q)
theorem evS_unp {ts : List Tg} {f : M D} {N : Rho → Prop} {R : D → Rho → Prop} (h : Ev f ρ fun d ρ' => ∃ xs, d = .tup xs ∧ xs.length = ts.length ∧ EvS (tgsS ts xs) ρ' N fun _ _ => False) : EvS (unpS ts f) ρ N R := by
  refine evS_then.mpr (h.mono ?_)
  rintro d ρ' ⟨xs, rfl, hl, q⟩
  show EvS (if xs.length = ts.length then fun ρ => onlyNx (tgsS ts xs ρ) else fun _ => .bad) ρ' N R
  rw [if_pos hl]
  exact evS_only q
end
/-! ### comprehensions -/
section
variable {ρ : Rho}
theorem ev_lcD {j : Nat} {items : M (List D)} {test : M Bool} {elt : M D} {Q : D → Rho → Prop} (h : Ev items ρ fun is ρ1 => ρ1[j]? = some .no ∧ is.length ≤ 1000000 ∧ Ev (lcGo j test elt is []) ρ1 fun ds ρ2 => Q (.lst ds) (ρ2.set j .no)) : Ev (lcD j items test elt) ρ Q := by
  unfold lcD lcM
  rw [ev_bnd, ev_bnd]
  refine h.mono ?_
  rintro is ρ1 ⟨hn, hl, ds, ρ2, e, q⟩
  rw [ev_bnd]
  refine ⟨(), ρ1, by unfold noIo; rw [hn], ds, ρ2.set j .no, ?_, ev_ret.mpr q⟩
  show (if is.length ≤ 1000000 then _ else _) = _
  rw [if_pos hl, e]
theorem ev_lcCons {j : Nat} {test : M Bool} {elt : M D} {x : D} {r acc : List D} {Q : List D → Rho → Prop} (h : Ev test (ρ.set j (.dat x)) fun b ρ1 => if b = true then Ev elt ρ1 (fun d ρ2 => Ev (lcGo j test elt r (acc ++ [d])) ρ2 Q) else Ev (lcGo j test elt r acc) ρ1 Q) : Ev (lcGo j test elt (x :: r) acc) ρ Q := by
  obtain ⟨b, ρ1, e1, h⟩ := h
  cases b with
  | true =>
    rw [if_pos rfl] at h
    obtain ⟨d, ρ2, e2, ds, ρ3, e3, q⟩ := h
    refine ⟨ds, ρ3, ?_, q⟩
    simp only [lcGo]
    rw [e1]
    simp only
    rw [e2]
    exact e3
  | false =>
    rw [if_neg Bool.false_ne_true] at h
    obtain ⟨ds, ρ3, e3, q⟩ := h
    refine ⟨ds, ρ3, ?_, q⟩
    simp only [lcGo]
    rw [e1]
    exact e3
/-- a comprehension that reads only -/
theorem lcGo_pure {j : Nat} {test : M Bool} {elt : M D} (t : D → Bool) (f : D → D) : ∀ (is acc : List D) (s : Slot), (∀ x ∈ is, test (ρ.set j (.dat x)) = .ok (t x) (ρ.set j (.dat x))) → (∀ x ∈ is, t x = true → elt (ρ.set j (.dat x)) = .ok (f x) (ρ.set j (.dat x))) →
    ∃ s', lcGo j test elt is acc (ρ.set j s) = .ok (acc ++ (is.filter t).map f) (ρ.set j s')
  | [], acc, s, _, _ => ⟨s, by simp [lcGo, ret]⟩
  | x :: r, acc, s, ht, he => by
    have e0 : (ρ.set j s).set j (.dat x) = ρ.set j (.dat x) := List.set_set ..
    cases q : t x with
    | true =>
      obtain ⟨s', e⟩ := lcGo_pure t f r (acc ++ [f x]) (.dat x) (fun y hy => ht y (List.mem_cons_of_mem _ hy)) (fun y hy => he y (List.mem_cons_of_mem _ hy))
      refine ⟨s', ?_⟩
      simp only [lcGo]
      rw [e0, ht x List.mem_cons_self, q]
      simp only
      rw [he x List.mem_cons_self q]
      simp only
      rw [e, List.filter_cons_of_pos q]
      simp
    | false =>
      obtain ⟨s', e⟩ := lcGo_pure t f r acc (.dat x) (fun y hy => ht y (List.mem_cons_of_mem _ hy)) (fun y hy => he y (List.mem_cons_of_mem _ hy))
      refine ⟨s', ?_⟩
      simp only [lcGo]
      rw [e0, ht x List.mem_cons_self, q]
      simp only
      rw [e, List.filter_cons_of_neg (by simp [q])]
theorem ev_lcPure {j : Nat} {items : M (List D)} {test : M Bool} {elt : M D} (t : D → Bool) (f : D → D) {Q : D → Rho → Prop} (h : Ev items ρ fun is ρ1 => ρ1[j]? = some .no ∧ is.length ≤ 1000000 ∧ (∀ x ∈ is, test (ρ1.set j (.dat x)) = .ok (t x) (ρ1.set j (.dat x))) ∧ (∀ x ∈ is, t x = true → elt (ρ1.set j (.dat x)) = .ok (f x) (ρ1.set j (.dat x))) ∧ Q (.lst ((is.filter t).map f)) ρ1) : Ev (lcD j items test elt) ρ Q := by
  refine ev_lcD (h.mono ?_)
  rintro is ρ1 ⟨hn, hl, ht, he, q⟩
  refine ⟨hn, hl, ?_⟩
  obtain ⟨s', e⟩ := lcGo_pure t f is [] .no ht he
  rw [set_no hn] at e
  refine ⟨_, _, e, ?_⟩
  show Q (.lst ([] ++ (is.filter t).map f)) ((ρ1.set j s').set j .no)
  rw [List.set_set, set_no hn]
  exact q
/-- a comprehension with a word between its turns -/
theorem ev_lcInv {j : Nat} {items : M (List D)} {elt : M D} {Q : D → Rho → Prop} (P : List D → Rho → Prop) (h : Ev items ρ fun is ρ1 => ρ1[j]? = some .no ∧ is.length ≤ 1000000 ∧ P [] ρ1 ∧ (∀ x ∈ is, ∀ acc ρ', acc.length < is.length → P acc ρ' → Ev elt (ρ'.set j (.dat x)) fun d ρ2 => P (acc ++ [d]) ρ2) ∧ ∀ acc ρ', P acc ρ' → acc.length = is.length → Q (.lst acc) (ρ'.set j .no)) : Ev (lcD j items yesM elt) ρ Q := by
  refine ev_lcD (h.mono ?_)
  rintro is ρ1 ⟨hn, hl, h0, hs, hq⟩
  refine ⟨hn, hl, ?_⟩
  have go : ∀ (r acc : List D) (ρ' : Rho), (∀ x ∈ r, x ∈ is) → acc.length + r.length = is.length → P acc ρ' → Ev (lcGo j yesM elt r acc) ρ' fun ds ρ2 => Q (.lst ds) (ρ2.set j .no) := by
    intro r
    induction r with
    | nil =>
      intro acc ρ' _ hz p
      exact ⟨acc, ρ', rfl, hq acc ρ' p (by simpa using hz)⟩
    | cons x r ih =>
      intro acc ρ' hm hz p
      refine ev_lcCons (ev_ret.mpr ?_)
      rw [if_pos rfl]
      rw [List.length_cons] at hz
      refine (hs x (hm x List.mem_cons_self) acc ρ' (by omega) p).mono fun d ρ2 p2 => ih _ _ (fun y hy => hm y (List.mem_cons_of_mem _ hy)) ?_ p2
      rw [List.length_append, List.length_singleton]; omega
  exact go is [] ρ1 (fun _ h => h) (by simp) h0
end
/-! ### what is drawn -/
structure Rng (c : D) : Prop where
  ex : ∃ a b : Int, c = .lst [.int a, .int b] ∧ 0 ≤ a ∧ 0 ≤ b ∧ b < 2147483600
section
variable {ρ : Rho}
theorem evS_asg {i : Nat} {f : M D} {N : Rho → Prop} {R : D → Rho → Prop} : EvS (asgS i f) ρ N R ↔ Ev f ρ fun d ρ' => (∃ s, ρ'[i]? = some s ∧ ∀ d, s ≠ .io d) ∧ N (ρ'.set i (.dat d)) := by
  unfold asgS
  rw [evS_then]
  exact ⟨fun h => h.mono fun d ρ' q => evS_set.mp q, fun h => h.mono fun d ρ' q => evS_set.mpr q⟩
end
end PD
/-! What every law draws by. -/
namespace PD
open PySem L2
def b_L_rng : MS :=
  (seqS (asgS 2 (iteM (asB (bin2 (rdS 1) (bnd (argC (rdS 0) (ret [])) fun ds => opt (one dLen ds)) (fun x y => opt (dCmp (fun i j => decide (i < j)) x y)))) (bnd (argC (bin2 (rdS 0) (rdS 1) fun x y => opt (dIx x y)) (ret [])) fun ds => opt (dAbs ds)) (ret (.int 0))))
    (seqS (thenS (lay .lst (argC (bnd (argC (ret (.int 0)) (argC (bin2 (rdS 2) (bin2 (ret (.int 10)) (ret (.int 18)) fun x y => opt (dPow x y)) fun x y => opt (dSub x y)) (ret []))) fun ds => opt (dTwo (fun i j => if j > i then j else i) ds)) (argC (bin2 (bin2 (bin2 (bin2 (bin2 (bin2 (rdS 2) (ret (.int 2147483543)) fun x y => opt (dMod x y)) (bin2 (ret (.int 101)) (rdS 1) fun x y => opt (dMul x y)) fun x y => opt (dAdd x y)) (ret (.int 7)) fun x y => opt (dAdd x y)) (ret (.int 2)) fun x y => opt (dPow x y)) (ret (.int 2147483497)) fun x y => opt (dMod x y)) (ret (.int 1)) fun x y => opt (dAdd x y)) (ret [])))) fun d => .rn d)
    .nx))
def m_L_rng : Rho → Out D := fnMN 3 b_L_rng
def b_L_draw : MS :=
  (seqS (ifS (asB (bin2 (ixO 0 (ret (.int 0))) (ret (.int 0)) (fun x y => opt (dCmp (fun i j => decide (j < i)) x y)))) (seqS (unpS [(.it 0 (ret (.int 0))), (.nm 2)] (bnd (argC (ixO 0 (ret (.int 0))) (argC (rdS 1) (ret []))) fun ds => opt (dDm ds)))
    (seqS (thenS (rdS 2) fun d => .rt d)
    .nx)) .nx)
    (seqS (itAsgS (.it 0 (ret (.int 1))) (bin2 (bin2 (bin2 (ixO 0 (ret (.int 1))) (ret (.int 48271)) fun x y => opt (dMul x y)) (ret (.int 10007)) fun x y => opt (dAdd x y)) (ret (.int 2147483587)) fun x y => opt (dMod x y)))
    (seqS (asgS 3 (bin2 (bin2 (bin2 (ixO 0 (ret (.int 1))) (ixO 0 (ret (.int 1))) fun x y => opt (dMul x y)) (ret (.int 2147483549)) fun x y => opt (dMod x y)) (ret (.int 11)) fun x y => opt (dFdiv x y)))
    (seqS (thenS (iteM (asB (bin2 (rdS 1) (bin2 (ret (.int 2)) (ret (.int 20)) fun x y => opt (dPow x y)) (fun x y => opt (dCmp (fun i j => decide (i < j)) x y)))) (bin2 (rdS 3) (rdS 1) fun x y => opt (dMod x y)) (bin2 (bin2 (bin2 (bin2 (rdS 3) (ret (.int 2147483563)) fun x y => opt (dMul x y)) (ixO 0 (ret (.int 1))) fun x y => opt (dAdd x y)) (ret (.int 2147483563)) fun x y => opt (dMul x y)) (rdS 1) fun x y => opt (dMod x y))) fun d => .rt d)
    .nx))))
def m_L_draw : Rho → Out D := fnM 4 b_L_draw
def b_L_choice : MS :=
  (seqS (thenS (bin2 (rdS 1) (callIO 0 2 (argC (bnd (argC (rdS 1) (ret [])) fun ds => opt (one dLen ds)) (ret [])) m_L_draw) fun x y => opt (dIx x y)) fun d => .rt d)
    .nx)
def m_L_choice : Rho → Out D := fnM 2 b_L_choice
section
theorem ix2_0 (a b : D) : dIx (.lst [a, b]) (.int 0) = some a := rfl
theorem ix2_1 (a b : D) : dIx (.lst [a, b]) (.int 1) = some b := rfl
theorem ev_rngIx {a b : D} {r : Rho} {Q : D → Rho → Prop} : Ev (ixO 0 (ret (.int 0))) (.io (.lst [a, b]) :: r) Q ↔ Q a (.io (.lst [a, b]) :: r) := by
  rw [ev_ixO0, ev_ret, ev_bnd, ev_cur0, ix2_0, ev_some]
theorem ev_rngIx1 {a b : D} {r : Rho} {Q : D → Rho → Prop} : Ev (ixO 0 (ret (.int 1))) (.io (.lst [a, b]) :: r) Q ↔ Q b (.io (.lst [a, b]) :: r) := by
  rw [ev_ixO0, ev_ret, ev_bnd, ev_cur0, ix2_1, ev_some]
theorem add_int' {i j : Int} : dAdd (.int i) (.int j) = some (.int (i + j)) := rfl
theorem mul_left {i j : Int} (h1 : 0 ≤ i) (h2 : i < 2 ^ 64) : dMul (.int i) (.int j) = some (.int (i * j)) := by
  simp only [dMul]
  rw [if_pos (.inl ⟨by omega, h2⟩)]
theorem mul_right {i j : Int} (h1 : 0 ≤ j) (h2 : j < 2 ^ 64) : dMul (.int i) (.int j) = some (.int (i * j)) := by
  simp only [dMul]
  rw [if_pos (.inr ⟨by omega, h2⟩)]
theorem mod_pos {i j : Int} (h : 0 < j) : dMod (.int i) (.int j) = some (.int (i % j)) := by
  simp only [dMod]
  rw [if_pos h]
theorem fdiv_pos {i j : Int} (h : 0 < j) (h2 : j < 1073741824) : dFdiv (.int i) (.int j) = some (.int (i / j)) := by
  simp only [dFdiv]
  rw [if_pos ⟨h, h2⟩]
theorem pow_ok {i j : Int} (h : 0 ≤ j) (h1 : j ≤ 1000000) (h2 : i.natAbs < 2 ^ 64) : dPow (.int i) (.int j) = some (.int (i ^ j.toNat)) := by
  simp only [dPow]
  rw [if_pos ⟨h, h1, h2⟩]
theorem big1000 : (2 : Int) ^ 60 < 2 ^ 1000 := by decide +kernel
theorem draw_ok {c : D} {m : Int} (hc : Rng c) (h0 : 0 < m) (h1 : m < 2 ^ 60) {Q : D → Rho → Prop} (q : ∀ d c', 0 ≤ d → d < m → Rng c' → Q (.int d) [.io c', .no]) : EvF m_L_draw [.io c, .dat (.int m)] Q := by
  obtain ⟨a, b, rfl, ha, hb, hb2⟩ := hc
  unfold m_L_draw
  rw [evF_fnM]
  show EvS b_L_draw [.io (.lst [.int a, .int b]), .dat (.int m), .no, .no] _ _
  unfold b_L_draw
  simp only [evS_seq, evS_if, ev_asB, ev_bin2, ev_rngIx, ev_ret, dCmp, ev_some, D.bl.injEq, exists_eq_left']
  by_cases hp : 0 < a
  · rw [if_pos (by simpa using hp)]
    refine evS_unp ?_
    simp only [ev_bnd, ev_argC, ev_rngIx, ev_rdS, ev_ret]
    refine ⟨_, rfl, ?_⟩
    have hd : dDm [.int a, .int m] = some (.tup [.int (a / m), .int (a % m)]) := by
      simp only [dDm]
      rw [if_pos ⟨h0, Int.lt_trans h1 big1000⟩]
    rw [hd, ev_some]
    refine ⟨_, rfl, rfl, ?_⟩
    show EvS (seqS (tgS (.it 0 (ret (.int 0))) (.int (a / m))) (seqS (tgS (.nm 2) (.int (a % m))) .nx)) _ _ _
    rw [evS_seq]
    refine evS_it0 (ev_ret.mpr ⟨_, _, .lst [.int (a / m), .int b], rfl, rfl, ?_⟩)
    rw [evS_seq, evS_tgNm, evS_set]
    refine ⟨⟨_, rfl, fun _ z => nomatch z⟩, ?_⟩
    rw [evS_nx]
    simp only [evS_then, ev_rdS]
    refine ⟨_, rfl, ?_⟩
    exact q _ _ (Int.emod_nonneg _ (by omega)) (Int.emod_lt_of_pos _ h0) ⟨_, _, rfl, Int.ediv_nonneg ha (by omega), hb, hb2⟩
  · rw [if_neg (by simpa using hp)]
    rw [evS_nx]
    refine evS_itAsg ?_
    have hb1 : 0 ≤ (b * 48271 + 10007) % 2147483587 := Int.emod_nonneg _ (by decide)
    have hb3 : (b * 48271 + 10007) % 2147483587 < 2147483587 := Int.emod_lt_of_pos _ (by decide)
    simp only [ev_bin2, ev_rngIx1, ev_ret, mul_left hb (show b < 2 ^ 64 by omega), ev_some, add_int', mod_pos (show (0 : Int) < 2147483587 by decide)]
    refine evS_it0 (ev_ret.mpr ⟨_, _, .lst [.int a, .int ((b * 48271 + 10007) % 2147483587)], rfl, rfl, ?_⟩)
    generalize (b * 48271 + 10007) % 2147483587 = b1 at hb1 hb3 ⊢
    simp only [evS_asg, ev_bin2, ev_rngIx1, ev_ret, mul_left hb1 (show b1 < 2 ^ 64 by omega), ev_some, mod_pos (show (0 : Int) < 2147483549 by decide), fdiv_pos (show (0 : Int) < 11 by decide) (by decide)]
    refine ⟨⟨_, rfl, fun _ z => nomatch z⟩, ?_⟩
    have hx1 : 0 ≤ b1 * b1 % 2147483549 / 11 := Int.ediv_nonneg (Int.emod_nonneg _ (by decide)) (by decide)
    have hx2 : b1 * b1 % 2147483549 / 11 < 2147483549 := by
      have := Int.emod_lt_of_pos (b1 * b1) (show (0 : Int) < 2147483549 by decide)
      omega
    generalize b1 * b1 % 2147483549 / 11 = x at hx1 hx2 ⊢
    simp only [evS_then, ev_iteM, ev_asB, ev_bin2, ev_rdS, ev_ret, List.set_cons_succ, List.set_cons_zero]
    refine ⟨_, rfl, ?_⟩
    rw [pow_ok (by decide) (by decide) (by decide), ev_some]
    simp only [dCmp, ev_some, D.bl.injEq, exists_eq_left']
    have fin : Rng (.lst [.int a, .int b1]) := ⟨a, b1, rfl, ha, hb1, by omega⟩
    split
    · refine ⟨_, rfl, _, rfl, ?_⟩
      rw [mod_pos h0, ev_some]
      exact q _ _ (Int.emod_nonneg _ (by omega)) (Int.emod_lt_of_pos _ h0) fin
    · refine ⟨_, rfl, ?_⟩
      rw [mul_left hx1 (by omega), ev_some, ev_rngIx1]
      simp only [add_int', ev_some]
      rw [mul_right (by decide) (by decide), ev_some]
      refine ⟨_, rfl, ?_⟩
      rw [mod_pos h0, ev_some]
      exact q _ _ (Int.emod_nonneg _ (by omega)) (Int.emod_lt_of_pos _ h0) fin
/-- a draw within a body whose slot 0 is drawn from -/
theorem ev_draw {c : D} {r : Rho} {m : Int} {Q : D → Rho → Prop} (hc : Rng c) (h0 : 0 < m) (h1 : m < 2 ^ 60) (q : ∀ d c', 0 ≤ d → d < m → Rng c' → Q (.int d) (.io c' :: r)) : Ev (callIO 0 2 (argC (ret (.int m)) (ret [])) m_L_draw) (.io c :: r) Q := by
  refine ev_callIO0 ?_
  simp only [ev_argC, ev_ret]
  exact ⟨c, r, rfl, rfl, draw_ok hc h0 h1 fun d c' g1 g2 g3 => ⟨c', _, rfl, q d c' g1 g2 g3⟩⟩
/-- the same with any argument -/
theorem ev_drawG {c : D} {r : Rho} {g : M (List D)} {Q : D → Rho → Prop} (hc : Rng c) (hg : Ev g (.io c :: r) fun ds ρ' => ∃ m c1, ds = [.int m] ∧ ρ' = .io c1 :: r ∧ Rng c1 ∧ 0 < m ∧ m < 2 ^ 60 ∧ ∀ d c', 0 ≤ d → d < m → Rng c' → Q (.int d) (.io c' :: r)) : Ev (callIO 0 2 g m_L_draw) (.io c :: r) Q := by
  refine ev_callIO0 (hg.mono ?_)
  rintro ds ρ' ⟨m, c1, rfl, rfl, hc1, h0, h1, q⟩
  exact ⟨c1, r, rfl, rfl, draw_ok hc1 h0 h1 fun d c' g1 g2 g3 => ⟨c', _, rfl, q d c' g1 g2 g3⟩⟩
theorem atI_lt {α : Type} {xs : List α} {i : Int} (h0 : 0 ≤ i) (h1 : i < xs.length) : ∃ x, atI xs i = some x ∧ x ∈ xs := by
  have hi : i.toNat < xs.length := by omega
  refine ⟨xs[i.toNat], ?_, List.getElem_mem _⟩
  unfold atI ixN
  rw [if_pos h0, if_pos h1]
  simp [hi]
/-- one of a list of options -/
theorem choice_ok {c : D} {xs : List D} (hc : Rng c) (h0 : xs ≠ []) (h1 : xs.length < 1000000) {Q : D → Rho → Prop} (q : ∀ d c', d ∈ xs → Rng c' → Q d [.io c', .no]) : EvF m_L_choice [.io c, .dat (.lst xs)] Q := by
  have hl : 0 < xs.length := List.length_pos_iff.mpr h0
  unfold m_L_choice
  rw [evF_fnM]
  show EvS b_L_choice [.io c, .dat (.lst xs)] _ _
  unfold b_L_choice
  simp only [evS_seq, evS_then, ev_bin2, ev_rdS]
  refine ⟨_, rfl, ev_drawG hc ?_⟩
  simp only [ev_argC, ev_bnd, ev_rdS, ev_ret]
  refine ⟨_, rfl, ?_⟩
  show Ev (opt (some (D.int xs.length))) _ _
  rw [ev_some]
  refine ⟨xs.length, c, rfl, rfl, hc, by omega, by omega, fun d c' g1 g2 g3 => ?_⟩
  obtain ⟨x, e, hx⟩ := atI_lt g1 g2
  show Ev (opt (atI xs d)) _ _
  rw [e, ev_some]
  exact q x c' hx g3
/-- the first state -/
theorem max0 (x : Int) : 0 ≤ (if x > 0 then x else 0) := by split <;> omega
theorem rng_ok {ns : List Int} {k : Int} (h0 : 0 ≤ k) (h1 : k < 1000) : ∃ c ρ', m_L_rng [.dat (.scr ns), .dat (.int k)] = .ok c ρ' ∧ Rng c := by
  have a1 : ∃ cell : Int, ∀ N : Rho → Prop, N [.dat (.scr ns), .dat (.int k), .dat (.int cell)] → EvS (asgS 2 (iteM (asB (bin2 (rdS 1) (bnd (argC (rdS 0) (ret [])) fun ds => opt (one dLen ds)) (fun x y => opt (dCmp (fun i j => decide (i < j)) x y)))) (bnd (argC (bin2 (rdS 0) (rdS 1) fun x y => opt (dIx x y)) (ret [])) fun ds => opt (dAbs ds)) (ret (.int 0)))) [.dat (.scr ns), .dat (.int k), .no] N fun _ _ => False := by
    by_cases hk : k < ns.length
    · obtain ⟨x, ex, _⟩ := atI_lt h0 hk
      refine ⟨if x < 0 then -x else x, fun N hN => ?_⟩
      simp only [evS_asg, ev_iteM, ev_asB, ev_bin2, ev_rdS, ev_bnd, ev_argC, ev_ret]
      refine ⟨_, rfl, _, rfl, ?_⟩
      show Ev (opt (some (D.int ns.length))) _ _
      rw [ev_some]
      simp only [dCmp, ev_some, D.bl.injEq, exists_eq_left']
      rw [if_pos (by simpa using hk)]
      refine ⟨_, rfl, _, rfl, ?_⟩
      show Ev (opt ((atI ns k).map D.int)) _ _
      rw [ex]
      show Ev (opt (some (D.int x))) _ _
      rw [ev_some]
      show Ev (opt (some (D.int (if x < 0 then -x else x)))) _ _
      rw [ev_some]
      exact ⟨⟨_, rfl, fun _ z => nomatch z⟩, hN⟩
    · refine ⟨0, fun N hN => ?_⟩
      simp only [evS_asg, ev_iteM, ev_asB, ev_bin2, ev_rdS, ev_bnd, ev_argC, ev_ret]
      refine ⟨_, rfl, _, rfl, ?_⟩
      show Ev (opt (some (D.int ns.length))) _ _
      rw [ev_some]
      simp only [dCmp, ev_some, D.bl.injEq, exists_eq_left']
      rw [if_neg (by simpa using hk)]
      exact ⟨⟨_, rfl, fun _ z => nomatch z⟩, hN⟩
  obtain ⟨cell, a1⟩ := a1
  have a1 := a1 (fun ρ' => ρ' = [.dat (.scr ns), .dat (.int k), .dat (.int cell)]) rfl
  unfold EvS at a1
  have a2 : ∃ c ρ', (lay .lst (argC (bnd (argC (ret (.int 0)) (argC (bin2 (rdS 2) (bin2 (ret (.int 10)) (ret (.int 18)) fun x y => opt (dPow x y)) fun x y => opt (dSub x y)) (ret []))) fun ds => opt (dTwo (fun i j => if j > i then j else i) ds)) (argC (bin2 (bin2 (bin2 (bin2 (bin2 (bin2 (rdS 2) (ret (.int 2147483543)) fun x y => opt (dMod x y)) (bin2 (ret (.int 101)) (rdS 1) fun x y => opt (dMul x y)) fun x y => opt (dAdd x y)) (ret (.int 7)) fun x y => opt (dAdd x y)) (ret (.int 2)) fun x y => opt (dPow x y)) (ret (.int 2147483497)) fun x y => opt (dMod x y)) (ret (.int 1)) fun x y => opt (dAdd x y)) (ret []))) : M D) [.dat (.scr ns), .dat (.int k), .dat (.int cell)] = .ok c ρ' ∧ Rng c := by
    show Ev _ _ fun c _ => Rng c
    have m1 : 0 ≤ cell % 2147483543 := Int.emod_nonneg _ (by decide)
    have m2 : cell % 2147483543 < 2147483543 := Int.emod_lt_of_pos _ (by decide)
    simp only [ev_lay, ev_argC, ev_bnd, ev_bin2, ev_ret, ev_rdS]
    refine ⟨_, rfl, ?_⟩
    rw [pow_ok (by decide) (by decide) (by decide), ev_some]
    simp only [dSub, ev_some, dTwo]
    refine ⟨_, rfl, ?_⟩
    rw [mod_pos (by decide), ev_some]
    refine ⟨_, rfl, ?_⟩
    rw [mul_left (by decide) (by decide), ev_some]
    simp only [add_int', ev_some]
    rw [pow_ok (by decide) (by decide) (by omega), ev_some, mod_pos (by decide), ev_some, add_int', ev_some]
    have e1 : 0 ≤ (cell % 2147483543 + 101 * k + 7) ^ (2 : Int).toNat % 2147483497 := Int.emod_nonneg _ (by decide)
    have e2 : (cell % 2147483543 + 101 * k + 7) ^ (2 : Int).toNat % 2147483497 < 2147483497 := Int.emod_lt_of_pos _ (by decide)
    exact ⟨by show 2 ≤ sizeLine; decide, _, _, rfl, max0 _, by omega, by omega⟩
  obtain ⟨c, ρ2, e2, hc⟩ := a2
  refine ⟨c, cl [.dat (.scr ns), .dat (.int k)] ρ2, ?_, hc⟩
  unfold m_L_rng fnMN
  show (match b_L_rng [.dat (.scr ns), .dat (.int k), .no] with
    | .rn d ρ' => Out.ok d (cl [.dat (.scr ns), .dat (.int k)] ρ')
    | .exc C fs ρ' => .exc C fs (cl [.dat (.scr ns), .dat (.int k)] ρ')
    | _ => .bad) = _
  unfold b_L_rng
  unfold seqS
  generalize asgS 2 _ [.dat (.scr ns), .dat (.int k), .no] = o at a1 ⊢
  cases o with
  | nx ρ1 =>
    have a1 : ρ1 = _ := a1
    subst a1
    dsimp only
    unfold thenS
    rw [e2]
  | _ => exact a1.elim
end
end PD
/-! More of running a meaning: loops, texts, calls; values that can be shown. -/
namespace PD
open PySem L2
section
variable {ρ : Rho}
theorem ev_strM {fo : M D} {k : Str → M D} {Q : D → Rho → Prop} (h : Ev fo ρ fun x ρ' => ∃ a, x = .str a ∧ Ev (k a) ρ' Q) : Ev (strM fo k) ρ Q := by
  unfold strM
  rw [ev_bnd]
  refine h.mono ?_
  rintro x ρ' ⟨a, rfl, q⟩
  exact q
theorem ev_sl3 {fa : M D} {fl fh : M (Option Int)} {g : D → Option Int → Option Int → M D} {Q : D → Rho → Prop} : Ev (sl3 fa fl fh g) ρ Q ↔ Ev fa ρ fun x ρ1 => Ev fl ρ1 fun l ρ2 => Ev fh ρ2 fun h ρ3 => Ev (g x l h) ρ3 Q := by
  unfold sl3
  rw [ev_bnd]
  constructor
  · exact fun h => h.mono fun a ρ' q => (ev_bnd.mp q).mono fun b ρ'' q => ev_bnd.mp q
  · exact fun h => h.mono fun a ρ' q => ev_bnd.mpr (q.mono fun b ρ'' q => ev_bnd.mpr q)
theorem ev_par {f : M D} {Q : Option Int → Rho → Prop} (h : Ev f ρ fun d ρ' => ∃ i, d = .int i ∧ Q (some i) ρ') : Ev (parM (some f)) ρ Q := by
  unfold parM
  rw [ev_bnd]
  refine h.mono ?_
  rintro x ρ' ⟨a, rfl, q⟩
  exact ev_some.mpr q
theorem ev_rng {g : M (List D)} {Q : List D → Rho → Prop} (h : Ev g ρ fun ds ρ' => ∃ n : Int, ds = [.int n] ∧ 0 ≤ n ∧ n < 2 ^ 62 ∧ Q (rangeD n) ρ') : Ev (rngM g) ρ Q := by
  unfold rngM
  rw [ev_bnd]
  refine h.mono ?_
  rintro x ρ' ⟨n, rfl, h0, h1, q⟩
  refine ev_opt.mpr ⟨_, if_pos ⟨by omega, h1⟩, q⟩
theorem ev_ch {f : M D} {Q : List D → Rho → Prop} (h : Ev f ρ fun d ρ' => ∃ z, d = .str z ∧ Q (chD z) ρ') : Ev (chM f) ρ Q := by
  unfold chM
  rw [ev_bnd]
  refine h.mono ?_
  rintro x ρ' ⟨n, rfl, q⟩
  exact ev_some.mpr q
theorem ev_lst {f : M D} {Q : List D → Rho → Prop} (h : Ev f ρ fun d ρ' => ∃ z, d = .lst z ∧ Q z ρ') : Ev (lstM f) ρ Q := by
  unfold lstM
  rw [ev_bnd]
  refine h.mono ?_
  rintro x ρ' ⟨n, rfl, q⟩
  exact ev_some.mpr q
theorem ev_callT {fe : M D} {m : Rho → Out D} {Q : D → Rho → Prop} (h : Ev fe ρ fun c ρ1 => EvF m [.io c] fun d ρp => ∃ c' t, ρp = .io c' :: t ∧ Q d ρ1) : Ev (callT fe m) ρ Q := by
  obtain ⟨c, ρ1, e, d, ρp, e2, c', t, rfl, q⟩ := h
  refine ⟨d, ρ1, ?_, q⟩
  unfold callT
  rw [e]
  simp only
  rw [e2]
theorem evS_par {i j : Nat} {g : M (List D)} {N : Rho → Prop} {R : D → Rho → Prop} (h : Ev g ρ fun ds ρ' => ∃ d1 d2, ds = [d1, d2] ∧ EvS (seqS (setM i d1) (setM j d2)) ρ' N R) : EvS (parS i j g) ρ N R := by
  unfold parS
  rw [evS_then]
  refine h.mono ?_
  rintro ds ρ' ⟨d1, d2, rfl, q⟩
  exact q
theorem evS_for {j : Nat} {body : MS} {N : Rho → Prop} {R : D → Rho → Prop} (P : Rho → Prop) : ∀ (is : List D) (ρ : Rho), P ρ → (∀ x ∈ is, ∀ ρ', P ρ' → EvS (seqS (setM j x) body) ρ' P R) → (∀ ρ', P ρ' → N ρ') → EvS (forS j body is) ρ N R
  | [], ρ, h0, _, hn => hn ρ h0
  | x :: r, ρ, h0, hs, hn => by
    have h1 := hs x List.mem_cons_self ρ h0
    unfold EvS seqS at h1
    unfold EvS
    simp only [forS]
    cases e1 : setM j x ρ with
    | nx ρ1 =>
      rw [e1] at h1
      simp only at h1 ⊢
      cases e2 : body ρ1 with
      | nx ρ2 =>
        rw [e2] at h1
        exact evS_for P r ρ2 h1 (fun y hy => hs y (List.mem_cons_of_mem _ hy)) hn
      | rt d ρ2 => rw [e2] at h1; exact h1
      | _ => rw [e2] at h1; exact h1.elim
    | rt d ρ2 =>
      unfold setM at e1
      split at e1 <;> cases e1
    | _ => rw [e1] at h1; exact h1.elim
theorem evS_forR {j : Nat} {g : M (List D)} {body : MS} {N : Rho → Prop} {R : D → Rho → Prop} (h : Ev g ρ fun ds ρ' => ∃ n : Int, ds = [.int n] ∧ 0 ≤ n ∧ n < 2 ^ 62 ∧ EvS (forS j body (rangeD n)) ρ' N R) : EvS (forRS j g body) ρ N R := by
  unfold forRS
  rw [evS_then]
  refine h.mono ?_
  rintro ds ρ' ⟨n, rfl, h0, h1, q⟩
  show EvS (if -(2 ^ 62) ≤ n ∧ n < 2 ^ 62 then forS j body (rangeD n) else fun _ => .bad) ρ' N R
  rw [if_pos ⟨by omega, h1⟩]
  exact q
theorem evF_eq {m : Rho → Out D} {d : D} (h : EvF m ρ fun x _ => x = d) : ∃ ρ', m ρ = .ok d ρ' := by
  obtain ⟨a, ρ', e, rfl⟩ := h
  exact ⟨ρ', e⟩
theorem mem_rangeD {n : Int} {x : D} (h : x ∈ rangeD n) : ∃ i : Nat, x = .int i ∧ (i : Int) < n := by
  unfold rangeD at h
  obtain ⟨i, hi, rfl⟩ := List.mem_map.mp h
  exact ⟨i, rfl, by have := List.mem_range.mp hi; omega⟩
theorem rangeD_len {n : Int} : (rangeD n).length = n.toNat := by simp [rangeD]
/-- what draws, and hands back a P -/
def Drw (P : D → Prop) (m : Rho → Out D) : Prop := ∀ c, Rng c → EvF m [.io c] fun d ρ' => ∃ c', ρ' = [.io c'] ∧ Rng c' ∧ P d
theorem ev_drw {P : D → Prop} {m : Rho → Out D} {c : D} {r : Rho} {Q : D → Rho → Prop} (h : Drw P m) (hc : Rng c) (q : ∀ d c', P d → Rng c' → Q d (.io c' :: r)) : Ev (callIO 0 1 (ret []) m) (.io c :: r) Q := by
  refine ev_callIO0 (ev_ret.mpr ⟨c, r, rfl, rfl, (h c hc).mono ?_⟩)
  rintro d ρ' ⟨c', rfl, h1, h2⟩
  exact ⟨c', [], rfl, q d c' h2 h1⟩
theorem Drw.mono {P P' : D → Prop} {m : Rho → Out D} (h : Drw P m) (hp : ∀ d, P d → P' d) : Drw P' m := fun c hc => (h c hc).mono fun d ρ' ⟨c', e, h1, h2⟩ => ⟨c', e, h1, hp d h2⟩
theorem ev_choice {c : D} {r : Rho} {g : M (List D)} {Q : D → Rho → Prop} (hc : Rng c) (hg : Ev g (.io c :: r) fun ds ρ' => ∃ xs c1, ds = [.lst xs] ∧ ρ' = .io c1 :: r ∧ Rng c1 ∧ xs ≠ [] ∧ xs.length < 1000000 ∧ ∀ d c', d ∈ xs → Rng c' → Q d (.io c' :: r)) : Ev (callIO 0 2 g m_L_choice) (.io c :: r) Q := by
  refine ev_callIO0 (hg.mono ?_)
  rintro ds ρ' ⟨xs, c1, rfl, rfl, hc1, h0, h1, q⟩
  exact ⟨c1, r, rfl, rfl, choice_ok hc1 h0 h1 fun d c' g1 g2 => ⟨c', _, rfl, q d c' g1 g2⟩⟩
end
/-! ### values that can be shown -/
mutual
def txOk : PyData → Bool
  | .none => true
  | .bool _ => true
  | .int _ => true
  | .str x => x.cps.toList.all fun c => decide (c < 1114112)
  | .list xs => txOkAll xs
  | .tuple xs => txOkAll xs
  | .dict _ => true
def txOkAll : List PyData → Bool
  | [] => true
  | x :: xs => txOk x && txOkAll xs
end
def GdP (w k : Nat) (p : PyData) : Bool := (p.showable && txOk p) && (p.leavesShort 40 && (decide (p.weight ≤ w) && decide (p.depth ≤ k)))
theorem GdP_of {w k : Nat} {p : PyData} : GdP w k p = true ↔ (p.showable = true ∧ txOk p = true) ∧ p.leavesShort 40 = true ∧ p.weight ≤ w ∧ p.depth ≤ k := by
  unfold GdP; simp
def Gd (w k : Nat) (d : D) : Prop := ∃ p, d.pyR = some p ∧ GdP w k p = true
def gdB (w k : Nat) (d : D) : Bool := match d.pyR with
  | some p => GdP w k p
  | none => false
theorem Gd.of {w k : Nat} {d : D} (h : gdB w k d = true) : Gd w k d := by
  unfold gdB at h
  split at h
  · exact ⟨_, by assumption, h⟩
  · cases h
theorem Gd.mono {w k w' k' : Nat} {d : D} (h : Gd w k d) (hw : w ≤ w') (hk : k ≤ k') : Gd w' k' d := by
  obtain ⟨p, e, h⟩ := h
  rw [GdP_of] at h
  exact ⟨p, e, GdP_of.mpr ⟨h.1, h.2.1, by omega, by omega⟩⟩
theorem Gd.show {w k : Nat} {d : D} (h : Gd w k d) (hw : w ≤ 100000) (hk : k ≤ 60) : ∃ t, dShow d = some t := by
  obtain ⟨p, e, h⟩ := h
  obtain ⟨h1, h2, h3, h4⟩ := GdP_of.mp h
  refine ⟨p.shown, ?_⟩
  unfold dShow
  rw [e]
  show (if p.showable = true ∧ p.shown.length ≤ sizeLine ∧ p.depth ≤ 60 then some p.shown else none) = _
  have l1 := PyData.shown_le 40 (by decide) p h2
  have l2 : (40 + 2) * p.weight ≤ 42 * 100000 := Nat.mul_le_mul (Nat.le_refl _) (by omega)
  have l3 : p.shown.length ≤ 16777216 := by omega
  exact if_pos ⟨h1.1, l3, by omega⟩
theorem Gd.str {w k : Nat} {z : Str} (h1 : z.length ≤ w) (h2 : ∀ c ∈ z.cps.toList, c < 1114112) : Gd w k (.str z) := by
  refine ⟨.str z, rfl, GdP_of.mpr ⟨⟨rfl, ?_⟩, ?_, h1, Nat.zero_le _⟩⟩
  · show (z.cps.toList.all fun c => decide (c < 1114112)) = true
    rw [List.all_eq_true]
    exact fun c hc => decide_eq_true (h2 c hc)
  · show (z.cps.toList.all fun c => decide (c < 16 ^ 8)) = true
    rw [List.all_eq_true]
    exact fun c hc => decide_eq_true (Nat.lt_trans (h2 c hc) (by decide))
theorem Gd.str_cps {w k : Nat} {z : Str} (h : Gd w k (.str z)) : ∀ c ∈ z.cps.toList, c < 1114112 := by
  obtain ⟨p, e, h⟩ := h
  cases e
  have h1 : (z.cps.toList.all fun c => decide (c < 1114112)) = true := (GdP_of.mp h).1.2
  rw [List.all_eq_true] at h1
  exact fun c hc => of_decide_eq_true (h1 c hc)
theorem Gd.str_len {w k : Nat} {z : Str} (h : Gd w k (.str z)) : z.length ≤ w := by
  obtain ⟨p, e, h⟩ := h
  cases e
  exact (GdP_of.mp h).2.2.1
theorem Gd.all {w k : Nat} : ∀ {xs : List D}, (∀ x ∈ xs, Gd w k x) → ∃ ps, pyRAll xs = some ps ∧ (PyData.showableAll ps = true ∧ txOkAll ps = true) ∧ PyData.leavesShortAll 40 ps = true ∧ PyData.weightAll ps ≤ (w + 1) * xs.length ∧ PyData.depthAll ps ≤ k
  | [], _ => ⟨[], rfl, ⟨rfl, rfl⟩, rfl, Nat.zero_le _, Nat.zero_le _⟩
  | x :: xs, h => by
    obtain ⟨p, e, hp⟩ := h x List.mem_cons_self
    obtain ⟨h1, h2, h3, h4⟩ := GdP_of.mp hp
    obtain ⟨ps, e2, g1, g2, g3, g4⟩ := Gd.all fun y hy => h y (List.mem_cons_of_mem _ hy)
    refine ⟨p :: ps, ?_, ?_, ?_, ?_, ?_⟩
    · simp only [pyRAll]; rw [e, e2]
    · simp only [PyData.showableAll, txOkAll]; rw [h1.1, g1.1, h1.2, g1.2]; exact ⟨rfl, rfl⟩
    · simp only [PyData.leavesShortAll]; rw [h2, g2]; rfl
    · simp only [PyData.weightAll, List.length_cons, Nat.mul_succ]; omega
    · simp only [PyData.depthAll]; omega
theorem Gd.lst {w k n : Nat} {xs : List D} (h : ∀ x ∈ xs, Gd w k x) (hn : (w + 1) * xs.length ≤ n) : Gd n (k + 1) (.lst xs) := by
  obtain ⟨ps, e, g1, g2, g3, g4⟩ := Gd.all h
  refine ⟨.list ps, ?_, GdP_of.mpr ⟨g1, g2, ?_, ?_⟩⟩
  · simp only [D.pyR]; rw [e]; rfl
  · show PyData.weightAll ps ≤ n; omega
  · show PyData.depthAll ps + 1 ≤ k + 1; omega
theorem Gd.tup {w k n : Nat} {xs : List D} (h : ∀ x ∈ xs, Gd w k x) (hn : (w + 1) * xs.length ≤ n) : Gd n (k + 1) (.tup xs) := by
  obtain ⟨ps, e, g1, g2, g3, g4⟩ := Gd.all h
  refine ⟨.tuple ps, ?_, GdP_of.mpr ⟨g1, g2, ?_, ?_⟩⟩
  · simp only [D.pyR]; rw [e]; rfl
  · show PyData.weightAll ps ≤ n; omega
  · show PyData.depthAll ps + 1 ≤ k + 1; omega
theorem Gd.items' {w k : Nat} : ∀ {xs : List D} {ps : List PyData}, pyRAll xs = some ps → (PyData.showableAll ps = true ∧ txOkAll ps = true) → PyData.leavesShortAll 40 ps = true → PyData.weightAll ps ≤ w → PyData.depthAll ps + 1 ≤ k → ∀ x ∈ xs, Gd w k x
  | [], _, _, _, _, _, _ => fun x hx => nomatch hx
  | x :: xs, _, e, h1, h2, h3, h4 => by
    obtain ⟨p, ps', e1, e2, rfl⟩ := pyRAll_cons e
    simp only [PyData.showableAll, txOkAll, Bool.and_eq_true] at h1
    simp only [PyData.leavesShortAll, Bool.and_eq_true] at h2
    simp only [PyData.weightAll] at h3
    simp only [PyData.depthAll] at h4
    intro y hy
    rcases List.mem_cons.mp hy with rfl | hy
    · exact ⟨p, e1, GdP_of.mpr ⟨⟨h1.1.1, h1.2.1⟩, h2.1, by omega, by omega⟩⟩
    · exact Gd.items' e2 ⟨h1.1.2, h1.2.2⟩ h2.2 (by omega) (by omega) y hy
theorem Gd.items {w k : Nat} {xs : List D} (h : Gd w k (.tup xs)) : ∀ x ∈ xs, Gd w k x := by
  obtain ⟨p, e, h⟩ := h
  simp only [D.pyR] at e
  obtain ⟨ps, e3, rfl⟩ := Option.map_eq_some_iff.mp e
  obtain ⟨h1, h2, h3, h4⟩ := GdP_of.mp h
  exact Gd.items' e3 h1 h2 h3 h4
/-- whether a value is a text, whether it is a tuple -/
def isStr : D → Bool
  | .str _ => true
  | _ => false
def isTup : D → Bool
  | .tup _ => true
  | _ => false
theorem isi_str {w k : Nat} {d : D} (h : Gd w k d) : dIsi [d, .ty "str"] = some (.bl (isStr d)) := by
  obtain ⟨p, e, h⟩ := h
  cases d with
  | ref => cases e
  | ty => cases e
  | scr => cases e
  | _ => simp only [dIsi, D.kind, isStr, Option.map_eq_some_iff, D.bl.injEq, exists_eq_right]; decide +kernel
theorem isi_tup {w k : Nat} {d : D} (h : Gd w k d) : dIsi [d, .ty "tuple"] = some (.bl (isTup d)) := by
  obtain ⟨p, e, h⟩ := h
  cases d with
  | ref => cases e
  | ty => cases e
  | scr => cases e
  | _ => simp only [dIsi, D.kind, isTup, Option.map_eq_some_iff, D.bl.injEq, exists_eq_right]; decide +kernel
end PD
namespace K11
open PySem PySem.Spec PyProof.Rows L2 PD
/-! ### the meaning of each def, printed by gen.py -/
def b_is_name : MS :=
  (seqS (ifS (orM (notM (asB (bnd (argC (rdS 0) (argC (ret (.ty "str")) (ret []))) fun ds => opt (dIsi ds)))) (notM (asB (chn (ret (.int 1)) (bnd (argC (rdS 0) (ret [])) fun ds => opt (one dLen ds)) (ret (.int 8)) (fun x y => opt (dCmp (fun i j => decide (i ≤ j)) x y)) (fun x y => opt (dCmp (fun i j => decide (i ≤ j)) x y)))))) (seqS (thenS (ret (.bl false)) fun d => .rt d)
    .nx) .nx)
    (seqS (thenS (bnd (argC (lcD 1 (chM (rdS 0)) yesM (bin2 (rdS 1) (ret (.str "abcdefghijklmnopqrstuvwxyz")) (fun x y => opt ((dInS x y).map D.bl)))) (ret [])) fun ds => opt (one dAll ds)) fun d => .rt d)
    .nx))
def m_is_name : Rho → Out D := fnM 2 b_is_name
def b_is_node : MS :=
  (seqS (thenS (andV (callD 1 (argC (rdS 0) (ret [])) m_is_name) (bin2 (rdS 0) (ret (.str "root")) (fun x y => opt ((dEq x y).map fun k => D.bl (!k))))) fun d => .rt d)
    .nx)
def m_is_node : Rho → Out D := fnM 1 b_is_node
def b_is_place : MS :=
  (seqS (thenS (andV (bnd (argC (rdS 0) (argC (ret (.ty "tuple")) (ret []))) fun ds => opt (dIsi ds)) (andV (bin2 (bnd (argC (rdS 0) (ret [])) fun ds => opt (one dLen ds)) (ret (.int 2)) (fun x y => opt ((dEq x y).map D.bl))) (andV (callD 1 (argC (bin2 (rdS 0) (ret (.int 0)) fun x y => opt (dIx x y)) (ret [])) m_is_name) (callD 1 (argC (bin2 (rdS 0) (ret (.int 1)) fun x y => opt (dIx x y)) (ret [])) m_is_name)))) fun d => .rt d)
    .nx)
def m_is_place : Rho → Out D := fnM 1 b_is_place
def b_L_is_name : MS :=
  (seqS (ifS (orM (notM (asB (bnd (argC (rdS 0) (argC (ret (.ty "str")) (ret []))) fun ds => opt (dIsi ds)))) (notM (asB (chn (ret (.int 1)) (bnd (argC (rdS 0) (ret [])) fun ds => opt (one dLen ds)) (ret (.int 8)) (fun x y => opt (dCmp (fun i j => decide (i ≤ j)) x y)) (fun x y => opt (dCmp (fun i j => decide (i ≤ j)) x y)))))) (seqS (thenS (ret (.bl false)) fun d => .rt d)
    .nx) .nx)
    (seqS (thenS (bin2 (lcD 1 (chM (rdS 0)) (asB (bin2 (rdS 1) (ret (.str "abcdefghijklmnopqrstuvwxyz")) (fun x y => opt ((dInS x y).map fun k => D.bl (!k))))) (rdS 1)) (lay .lst (ret [])) (fun x y => opt ((dEq x y).map D.bl))) fun d => .rt d)
    .nx))
def m_L_is_name : Rho → Out D := fnM 2 b_L_is_name
def b_L_text : MS :=
  (seqS (asgS 1 (ret (.str "abcdefghijklmnopqrstuvwxyz")))
    (seqS (asgS 2 (strM (ret (.str "")) fun a => bnd (lcD 5 (rngM (argC (callIO 0 2 (argC (ret (.int 11)) (ret [])) m_L_draw) (ret []))) yesM (bin2 (rdS 1) (callIO 0 2 (argC (ret (.int 26)) (ret [])) m_L_draw) fun x y => opt (dIx x y))) fun y => opt (dJoin (.str a) y)))
    (seqS (ifS (asB (bin2 (callIO 0 2 (argC (ret (.int 6)) (ret [])) m_L_draw) (ret (.int 0)) (fun x y => opt ((dEq x y).map D.bl)))) (seqS (asgS 2 (ret (.str "root")))
    .nx) .nx)
    (seqS (ifS (asB (bin2 (callIO 0 2 (argC (ret (.int 3)) (ret [])) m_L_draw) (ret (.int 0)) (fun x y => opt (dCmp (fun i j => decide (j < i)) x y)))) (seqS (thenS (rdS 2) fun d => .rt d)
    .nx) .nx)
    (seqS (parS 3 4 (argC (callIO 0 2 (argC (bin2 (bnd (argC (rdS 2) (ret [])) fun ds => opt (one dLen ds)) (ret (.int 1)) fun x y => opt (dAdd x y)) (ret [])) m_L_draw) (argC (bin2 (ret (.str "AZ09_- .:,\n{~/")) (callIO 0 2 (argC (ret (.int 14)) (ret [])) m_L_draw) fun x y => opt (dIx x y)) (ret []))))
    (seqS (thenS (bin2 (bin2 (sl3 (rdS 2) (ret none) (parM (some (rdS 3))) fun x l h => opt (dSlS x l h)) (rdS 4) fun x y => opt (dAdd x y)) (sl3 (rdS 2) (parM (some (bin2 (rdS 3) (callIO 0 2 (argC (ret (.int 2)) (ret [])) m_L_draw) fun x y => opt (dAdd x y)))) (ret none) fun x l h => opt (dSlS x l h)) fun x y => opt (dAdd x y)) fun d => .rt d)
    .nx))))))
def m_L_text : Rho → Out D := fnM 6 b_L_text
def b_L_odd : MS :=
  (seqS (asgS 1 (lay .lst (argC (ret .non) (argC (ret (.bl true)) (argC (ret (.bl false)) (argC (ret (.str "")) (argC (lay .lst (ret [])) (argC (lay .tup (ret [])) (argC (ret (.dic [] [])) (argC (lay .lst (argC (ret (.int 0)) (ret []))) (argC (lay .tup (argC (ret (.int 0)) (ret []))) (argC (disp1 (ret (.int 0)) (ret (.int 0))) (argC (lay .lst (argC (ret (.str "a")) (ret []))) (argC (lay .tup (argC (ret (.str "a")) (ret []))) (argC (disp1 (ret (.str "a")) (ret (.int 1))) (argC (lay .lst (argC (lay .lst (ret [])) (ret []))) (argC (lay .tup (argC (lay .tup (ret [])) (ret []))) (argC (lay .lst (argC (ret .non) (ret []))) (argC (ret (.int 1)) (ret []))))))))))))))))))))
    (seqS (asgS 1 (bin2 (rdS 1) (lay .lst (argC (ret (.str "0")) (argC (ret (.str " a")) (argC (ret (.str "a ")) (argC (lay .tup (argC (ret (.str "a")) (argC (ret (.int 1)) (ret [])))) (argC (lay .lst (argC (ret (.bl true)) (ret []))) (argC (lay .tup (argC (ret .non) (ret []))) (argC (ret (.str "a\n")) (argC (ret (.str "\n")) (argC (ret (.str "ninechars")) (argC (ret (.int 0)) (argC (bnd (ret (.int 1)) fun x => opt (dNeg x)) (argC (bin2 (ret (.int 10)) (ret (.int 29)) fun x y => opt (dPow x y)) (argC (lay .tup (argC (ret (.str "a")) (argC (ret (.str "b")) (ret [])))) (ret []))))))))))))))) fun x y => opt (dAdd x y)))
    (seqS (asgS 1 (bin2 (rdS 1) (lay .lst (argC (lay .tup (argC (ret (.str "root")) (argC (ret (.str "root")) (ret [])))) (argC (lay .lst (argC (ret (.str "root")) (argC (ret (.str "a")) (ret [])))) (argC (lay .tup (argC (ret (.str "root")) (argC (ret (.str "Root")) (ret [])))) (argC (lay .tup (argC (ret (.str "a")) (argC (ret (.str "b")) (argC (ret (.str "c")) (ret []))))) (argC (ret (.str "root")) (argC (ret (.str "roots")) (ret [])))))))) fun x y => opt (dAdd x y)))
    (seqS (thenS (callIO 0 2 (argC (rdS 1) (ret [])) m_L_choice) fun d => .rt d)
    .nx))))
def m_L_odd : Rho → Out D := fnM 2 b_L_odd
def b_L_any : MS :=
  (seqS (thenS (iteM (asB (bin2 (callIO 0 2 (argC (ret (.int 4)) (ret [])) m_L_draw) (ret (.int 0)) (fun x y => opt ((dEq x y).map D.bl)))) (callIO 0 1 (ret []) m_L_odd) (callIO 0 1 (ret []) m_L_text)) fun d => .rt d)
    .nx)
def m_L_any : Rho → Out D := fnM 1 b_L_any
def b_L_some : MS :=
  (seqS (asgS 1 (lcD 2 (rngM (argC (bin2 (lay .lst (argC (ret (.int 2)) (argC (ret (.int 2)) (argC (ret (.int 2)) (argC (ret (.int 0)) (argC (ret (.int 1)) (argC (ret (.int 3)) (ret [])))))))) (callIO 0 2 (argC (ret (.int 6)) (ret [])) m_L_draw) fun x y => opt (dIx x y)) (ret []))) yesM (callIO 0 1 (ret []) m_L_any)))
    (seqS (thenS (iteM (asB (bin2 (callIO 0 2 (argC (ret (.int 4)) (ret [])) m_L_draw) (ret (.int 0)) (fun x y => opt ((dEq x y).map D.bl)))) (rdS 1) (bnd (argC (rdS 1) (ret [])) fun ds => opt (one dTup ds))) fun d => .rt d)
    .nx))
def m_L_some : Rho → Out D := fnM 3 b_L_some
def b_L_is_right : MS :=
  (seqS (parS 1 2 (argC (bnd (argC (rdS 0) (ret [])) fun ds => opt (one (fun d => (dShow d).map D.str) ds)) (argC (callD 1 (argC (rdS 0) (ret [])) m_L_is_name) (ret []))))
    (seqS (asgS 3 (andV (bnd (argC (rdS 0) (argC (ret (.ty "tuple")) (ret []))) fun ds => opt (dIsi ds)) (bin2 (bnd (argC (rdS 0) (ret [])) fun ds => opt (one dLen ds)) (ret (.int 2)) (fun x y => opt ((dEq x y).map D.bl)))))
    (seqS (asgS 4 (andV (rdS 3) (andV (callD 1 (argC (bin2 (rdS 0) (ret (.int 0)) fun x y => opt (dIx x y)) (ret [])) m_L_is_name) (callD 1 (argC (bin2 (rdS 0) (ret (.int 1)) fun x y => opt (dIx x y)) (ret [])) m_L_is_name))))
    (seqS (forRS 5 (argC (ret (.int 2)) (ret [])) (seqS (ifS (asB (bin2 (bnd (argC (lay .lst (argC (callD 1 (argC (rdS 0) (ret [])) m_is_name) (argC (callD 1 (argC (rdS 0) (ret [])) m_is_node) (argC (callD 1 (argC (rdS 0) (ret [])) m_is_place) (ret []))))) (ret [])) fun ds => opt (one (fun d => (dShow d).map D.str) ds)) (bnd (argC (lay .lst (argC (rdS 2) (argC (andV (rdS 2) (bin2 (rdS 0) (ret (.str "root")) (fun x y => opt ((dEq x y).map fun k => D.bl (!k))))) (argC (rdS 4) (ret []))))) (ret [])) fun ds => opt (one (fun d => (dShow d).map D.str) ds)) (fun x y => opt ((dEq x y).map fun k => D.bl (!k))))) (seqS (thenS (ret (.bl false)) fun d => .rt d)
    .nx) .nx)
    .nx))
    (seqS (thenS (bin2 (bnd (argC (rdS 0) (ret [])) fun ds => opt (one (fun d => (dShow d).map D.str) ds)) (rdS 1) (fun x y => opt ((dEq x y).map D.bl))) fun d => .rt d)
    .nx)))))
def m_L_is_right : Rho → Out D := fnM 6 b_L_is_right
def b_L_right : MS :=
  (seqS (forRS 1 (argC (ret (.int 3)) (ret [])) (seqS (asgS 2 (lay .lst (argC (callIO 0 1 (ret []) m_L_text) (argC (callIO 0 1 (ret []) m_L_odd) (argC (callIO 0 1 (ret []) m_L_some) (argC (callIO 0 1 (ret []) m_L_some) (argC (lay .tup (argC (callIO 0 1 (ret []) m_L_text) (argC (callIO 0 1 (ret []) m_L_text) (ret [])))) (ret []))))))))
    (seqS (ifS (notM (asB (bnd (argC (lcD 3 (lstM (rdS 2)) yesM (callD 1 (argC (rdS 3) (ret [])) m_L_is_right)) (ret [])) fun ds => opt (one dAll ds)))) (seqS (thenS (ret (.bl false)) fun d => .rt d)
    .nx) .nx)
    .nx)))
    (seqS (thenS (ret (.bl true)) fun d => .rt d)
    .nx))
def m_L_right : Rho → Out D := fnM 4 b_L_right
def b_law : MS :=
  (seqS (thenS (bnd (argC (lcD 1 (rngM (argC (bnd (argC (ret (.int 3)) (argC (bnd (argC (bnd (argC (rdS 0) (ret [])) fun ds => opt (one dLen ds)) (argC (ret (.int 10)) (ret []))) fun ds => opt (dTwo (fun i j => if j < i then j else i) ds)) (ret []))) fun ds => opt (dTwo (fun i j => if j > i then j else i) ds)) (ret []))) yesM (callT (callD 2 (argC (rdS 0) (argC (rdS 1) (ret []))) m_L_rng) m_L_right)) (ret [])) fun ds => opt (one dAll ds)) fun d => .rt d)
    .nx)
def m_law : Rho → Out D := fnM 2 b_law
end K11
namespace K11
open PySem PySem.Spec PyProof.Rows L2 PD
/-! ### the walk of each def, printed by gen.py -/
def top (i : Nat) : Stmt := PySem.Challenge.pw_movegrants_k11_names_nodes_and_places.main.body.getD i (.Pass ⟨0, 0, 0, 0⟩)
abbrev s_is_name : Stmt := top 5
abbrev s_is_node : Stmt := top 6
abbrev s_is_place : Stmt := top 7
abbrev s_L_rng : Stmt := top 9
abbrev s_L_draw : Stmt := top 10
abbrev s_L_choice : Stmt := top 11
abbrev s_L_is_name : Stmt := top 12
abbrev s_L_text : Stmt := top 13
abbrev s_L_odd : Stmt := top 14
abbrev s_L_any : Stmt := top 15
abbrev s_L_some : Stmt := top 16
abbrev s_L_is_right : Stmt := top 17
abbrev s_L_right : Stmt := top 18
abbrev s_law : Stmt := top 19
theorem bt_abs : bootBuiltins "abs" = some (.builtin "abs") := by decide +kernel
theorem bt_all : bootBuiltins "all" = some (.builtin "all") := by decide +kernel
theorem bt_divmod : bootBuiltins "divmod" = some (.builtin "divmod") := by decide +kernel
theorem bt_isinstance : bootBuiltins "isinstance" = some (.builtin "isinstance") := by decide +kernel
theorem bt_len : bootBuiltins "len" = some (.builtin "len") := by decide +kernel
theorem bt_max : bootBuiltins "max" = some (.builtin "max") := by decide +kernel
theorem bt_min : bootBuiltins "min" = some (.builtin "min") := by decide +kernel
theorem bt_range : bootBuiltins "range" = some (.type "range") := by decide +kernel
theorem bt_repr : bootBuiltins "repr" = some (.builtin "repr") := by decide +kernel
theorem bt_str : bootBuiltins "str" = some (.type "str") := by decide +kernel
theorem bt_tuple : bootBuiltins "tuple" = some (.type "tuple") := by decide +kernel
structure Txt (K : PySem.W.Frag) (mg : Str → Option Value) : Prop where
  sy : ∃ o, K.lookup sysModules = some o
  n_abs : mg "abs" = none
  n_all : mg "all" = none
  n_divmod : mg "divmod" = none
  n_isinstance : mg "isinstance" = none
  n_len : mg "len" = none
  n_max : mg "max" = none
  n_min : mg "min" = none
  n_range : mg "range" = none
  n_repr : mg "repr" = none
  n_str : mg "str" = none
  n_tuple : mg "tuple" = none
  c_LETTERS : ∃ t, mg "LETTERS" = some (.str "abcdefghijklmnopqrstuvwxyz" t)
  c_MOST_LETTERS : ∃ t, mg "MOST_LETTERS" = some (.int 8 t)
  c_PLACE_SIZE : ∃ t, mg "PLACE_SIZE" = some (.int 2 t)
  c_ROOT : ∃ t, mg "ROOT" = some (.str "root" t)
  d_is_name : Dl K mg "is_name" s_is_name
  d_is_node : Dl K mg "is_node" s_is_node
  d_is_place : Dl K mg "is_place" s_is_place
  d_L_rng : Dl K mg "_law_rng" s_L_rng
  d_L_draw : Dl K mg "_law_draw" s_L_draw
  d_L_choice : Dl K mg "_law_choice" s_L_choice
  d_L_is_name : Dl K mg "_law_is_name" s_L_is_name
  d_L_text : Dl K mg "_law_text" s_L_text
  d_L_odd : Dl K mg "_law_odd" s_L_odd
  d_L_any : Dl K mg "_law_any" s_L_any
  d_L_some : Dl K mg "_law_some" s_L_some
  d_L_is_right : Dl K mg "_law_is_right" s_L_is_right
  d_L_right : Dl K mg "_law_right" s_L_right
  d_law : Dl K mg "law" s_law
section
variable {P : Program} {w : World} {K : PySem.W.Frag} {mg : Str → Option Value} {base : Heap}
abbrev n_is_name : List Str := ["value", "letter"]
theorem sc_is_name : FnScope n_is_name ["value"] (defScope s_is_name) := ⟨rfl, rfl, rfl, by decide +kernel, rfl, by decide +kernel, by decide +kernel⟩
theorem fg_is_name (T : Txt K mg) {f : Addr} {fd : FuncData} (F : FnP K "is_name" s_is_name f fd) : FnG P w K mg base CX0 1 f fd ["value"] (spM0 K 1 m_is_name) := by
  refine fn0 (N := n_is_name) (ps := ["value"]) (body := b_is_name) F sc_is_name (by decide) ?_
  intro cdv A outer s H E Fr hg hr
  exact (sCons (sIf (PW.pt (tOr (tNot (tVal (eCB call_isi kIsi rfl T.n_isinstance bt_isinstance (aCons (var 0 (pv 0)) (aCons (gTy T.n_str bt_str) aNil))))) (tOr1 (tNot (tChn op_le op_le (oCmp (p := fun i j => decide (i ≤ j))) (oCmp (p := fun i j => decide (i ≤ j))) cInt (eCB call_ln kLen rfl T.n_len bt_len (aCons (var 0 (pv 0)) aNil)) (gInt T.c_MOST_LETTERS)))))) (sCons (sRet cBl)
    sNil) sNil)
    (sCons (sRet (eCB (cr_all rfl) kAll rfl T.n_all bt_all (aCons (eLc 1 (iStr (var 0 (pv 0))) (blkOk_by (own := [("letter", 1)]) (N := n_is_name) (sc := defScope s_is_name) (by decide +kernel)) (fun _ _ _ _ _ => pg_name (i := 1) sc_is_name.nd rfl (Or.inl rfl)) (fun _ _ _ _ _ => (eCmp op_inS oInS (var 1 (pv 1)) (gStr T.c_LETTERS) (by rfl))) sc_is_name.nd) aNil)))
    sNil))
theorem df_is_name (T : Txt K mg) : Df P w K mg base 1 "is_name" 1 m_is_name := by
  obtain ⟨f, fd, F, g⟩ := T.d_is_name
  have bi : Binds K fd ["value"] [] := F.bindsN (ps := ["value"]) fun _ _ _ _ _ _ us hl => match us, hl with | [_], _ => rfl
  exact ⟨f, fd, ["value"], fg_is_name T F, g, F.kp, bi⟩
abbrev n_is_node : List Str := ["value"]
theorem sc_is_node : FnScope n_is_node ["value"] (defScope s_is_node) := ⟨rfl, rfl, rfl, by decide +kernel, rfl, by decide +kernel, by decide +kernel⟩
theorem fg_is_node (T : Txt K mg) {f : Addr} {fd : FuncData} (F : FnP K "is_node" s_is_node f fd) : FnG P w K mg base CX0 2 f fd ["value"] (spM0 K 1 m_is_node) := by
  refine fn0 (N := n_is_node) (ps := ["value"]) (body := b_is_node) F sc_is_node (by decide) ?_
  intro cdv A outer s H E Fr hg hr
  exact (sCons (sRet (eAnd (eCall0 (df_is_name T) hg (hr.mono (by decide)) (aCons (var 0 (pv 0)) aNil)) (eOne (eCmp (opNeA (hu64 hr)) oNe (var 0 (pv 0)) (gStr T.c_ROOT) (by rfl)))))
    sNil)
theorem df_is_node (T : Txt K mg) : Df P w K mg base 2 "is_node" 1 m_is_node := by
  obtain ⟨f, fd, F, g⟩ := T.d_is_node
  have bi : Binds K fd ["value"] [] := F.bindsN (ps := ["value"]) fun _ _ _ _ _ _ us hl => match us, hl with | [_], _ => rfl
  exact ⟨f, fd, ["value"], fg_is_node T F, g, F.kp, bi⟩
abbrev n_is_place : List Str := ["value"]
theorem sc_is_place : FnScope n_is_place ["value"] (defScope s_is_place) := ⟨rfl, rfl, rfl, by decide +kernel, rfl, by decide +kernel, by decide +kernel⟩
theorem fg_is_place (T : Txt K mg) {f : Addr} {fd : FuncData} (F : FnP K "is_place" s_is_place f fd) : FnG P w K mg base CX0 2 f fd ["value"] (spM0 K 1 m_is_place) := by
  refine fn0 (N := n_is_place) (ps := ["value"]) (body := b_is_place) F sc_is_place (by decide) ?_
  intro cdv A outer s H E Fr hg hr
  exact (sCons (sRet (eAnd (eCB call_isi kIsi rfl T.n_isinstance bt_isinstance (aCons (var 0 (pv 0)) (aCons (gTy T.n_tuple bt_tuple) aNil))) (eAnd (eCmp (opEqA (hu64 hr)) oEq (eCB call_ln kLen rfl T.n_len bt_len (aCons (var 0 (pv 0)) aNil)) (gInt T.c_PLACE_SIZE) (by rfl)) (eAnd (eCall0 (df_is_name T) hg (hr.mono (by decide)) (aCons (eIx (var 0 (pv 0)) cInt) aNil)) (eOne (eCall0 (df_is_name T) hg (hr.mono (by decide)) (aCons (eIx (var 0 (pv 0)) cInt) aNil)))))))
    sNil)
theorem df_is_place (T : Txt K mg) : Df P w K mg base 2 "is_place" 1 m_is_place := by
  obtain ⟨f, fd, F, g⟩ := T.d_is_place
  have bi : Binds K fd ["value"] [] := F.bindsN (ps := ["value"]) fun _ _ _ _ _ _ us hl => match us, hl with | [_], _ => rfl
  exact ⟨f, fd, ["value"], fg_is_place T F, g, F.kp, bi⟩
abbrev n_L_rng : List Str := ["_law_script", "_law_k", "_law_cell"]
theorem sc_L_rng : FnScope n_L_rng ["_law_script", "_law_k"] (defScope s_L_rng) := ⟨rfl, rfl, rfl, by decide +kernel, rfl, by decide +kernel, by decide +kernel⟩
theorem fg_L_rng (T : Txt K mg) {f : Addr} {fd : FuncData} (F : FnP K "_law_rng" s_L_rng f fd) : FnG P w K mg base CX0 1 f fd ["_law_script", "_law_k"] (spN0 K 2 m_L_rng) := by
  refine fnN0 (N := n_L_rng) (ps := ["_law_script", "_law_k"]) (body := b_L_rng) F sc_L_rng (by decide) ?_
  intro cdv A outer s H E Fr hg hr
  exact (sCons (sAsg 2 (eIf (tCmp op_lt (oCmp (p := fun i j => decide (i < j))) (var 1 (pv 1)) (eCB call_ln kLen rfl T.n_len bt_len (aCons (var 0 (pv 0)) aNil)) (by rfl)) (eCB call_abs kAbs rfl T.n_abs bt_abs (aCons (eIx (var 0 (pv 0)) (var 1 (pv 1))) aNil)) cInt) sc_L_rng.nd)
    (sCons (sRetN (nLst (aCons (eCB (call_max2 rfl) kTwo rfl T.n_max bt_max (aCons cInt (aCons (eOp op_sub oSub (var 2 (pv 2)) (eOp op_pow oPow cInt cInt)) aNil))) (aCons (eOp opAdd oAdd (eOp op_mod oMod (eOp op_pow oPow (eOp opAdd oAdd (eOp opAdd oAdd (eOp op_mod oMod (var 2 (pv 2)) cInt) (eOp op_mul oMul cInt (var 1 (pv 1)))) cInt) cInt) cInt) cInt) aNil))))
    sNil))
theorem df_L_rng (T : Txt K mg) : DfN P w K mg base 1 "_law_rng" 2 m_L_rng := by
  obtain ⟨f, fd, F, g⟩ := T.d_L_rng
  have bi : Binds K fd ["_law_script", "_law_k"] [] := F.bindsN (ps := ["_law_script", "_law_k"]) fun _ _ _ _ _ _ us hl => match us, hl with | [_, _], _ => rfl
  exact ⟨f, fd, ["_law_script", "_law_k"], fg_L_rng T F, g, F.kp, bi⟩
abbrev n_L_draw : List Str := ["_law_rng_here", "_law_many", "_law_digit", "_law_mixed"]
theorem sc_L_draw : FnScope n_L_draw ["_law_rng_here", "_law_many"] (defScope s_L_draw) := ⟨rfl, rfl, rfl, by decide +kernel, rfl, by decide +kernel, by decide +kernel⟩
theorem fg_L_draw (T : Txt K mg) {f : Addr} {fd : FuncData} (F : FnP K "_law_draw" s_L_draw f fd) : FnG P w K mg base CX0 1 f fd ["_law_rng_here", "_law_many"] (spM0 K 2 m_L_draw) := by
  refine fn0 (N := n_L_draw) (ps := ["_law_rng_here", "_law_many"]) (body := b_L_draw) F sc_L_draw (by decide) ?_
  intro cdv A outer s H E Fr hg hr
  exact (sCons (sIf (tCmp op_gt (oCmp (p := fun i j => decide (j < i))) (eIxO 0 (pv 0) cInt) cInt (by rfl)) (sCons (sUnp (eCB call_divmodW kDm rfl T.n_divmod bt_divmod (aCons (eIxO 0 (pv 0) cInt) (aCons (var 1 (pv 1)) aNil))) (gsCons (gIt 0 (pv 0) cInt) (gsCons (gNm 2 sc_L_draw.nd) gsNil)))
    (sCons (sRet (var 2 (pv 2)))
    sNil)) sNil)
    (sCons (sIt (eOp op_mod oMod (eOp opAdd oAdd (eOp op_mul oMul (eIxO 0 (pv 0) cInt) cInt) cInt) cInt) (gIt 0 (pv 0) cInt))
    (sCons (sAsg 3 (eOp op_fdiv oFdiv (eOp op_mod oMod (eOp op_mul oMul (eIxO 0 (pv 0) cInt) (eIxO 0 (pv 0) cInt)) cInt) cInt) sc_L_draw.nd)
    (sCons (sRet (eIf (tCmp op_lt (oCmp (p := fun i j => decide (i < j))) (var 1 (pv 1)) (eOp op_pow oPow cInt cInt) (by rfl)) (eOp op_mod oMod (var 3 (pv 3)) (var 1 (pv 1))) (eOp op_mod oMod (eOp op_mul oMul (eOp opAdd oAdd (eOp op_mul oMul (var 3 (pv 3)) cInt) (eIxO 0 (pv 0) cInt)) cInt) (var 1 (pv 1)))))
    sNil))))
theorem df_L_draw (T : Txt K mg) : Df P w K mg base 1 "_law_draw" 2 m_L_draw := by
  obtain ⟨f, fd, F, g⟩ := T.d_L_draw
  have bi : Binds K fd ["_law_rng_here", "_law_many"] [] := F.bindsN (ps := ["_law_rng_here", "_law_many"]) fun _ _ _ _ _ _ us hl => match us, hl with | [_, _], _ => rfl
  exact ⟨f, fd, ["_law_rng_here", "_law_many"], fg_L_draw T F, g, F.kp, bi⟩
abbrev n_L_choice : List Str := ["_law_rng_here", "_law_options"]
theorem sc_L_choice : FnScope n_L_choice ["_law_rng_here", "_law_options"] (defScope s_L_choice) := ⟨rfl, rfl, rfl, by decide +kernel, rfl, by decide +kernel, by decide +kernel⟩
theorem fg_L_choice (T : Txt K mg) {f : Addr} {fd : FuncData} (F : FnP K "_law_choice" s_L_choice f fd) : FnG P w K mg base CX0 2 f fd ["_law_rng_here", "_law_options"] (spM0 K 2 m_L_choice) := by
  refine fn0 (N := n_L_choice) (ps := ["_law_rng_here", "_law_options"]) (body := b_L_choice) F sc_L_choice (by decide) ?_
  intro cdv A outer s H E Fr hg hr
  exact (sCons (sRet (eIx (var 1 (pv 1)) (eCallIO0 0 (df_L_draw T) hg (hr.mono (by decide)) (pv 0) (aCons (eCB call_ln kLen rfl T.n_len bt_len (aCons (var 1 (pv 1)) aNil)) aNil))))
    sNil)
theorem df_L_choice (T : Txt K mg) : Df P w K mg base 2 "_law_choice" 2 m_L_choice := by
  obtain ⟨f, fd, F, g⟩ := T.d_L_choice
  have bi : Binds K fd ["_law_rng_here", "_law_options"] [] := F.bindsN (ps := ["_law_rng_here", "_law_options"]) fun _ _ _ _ _ _ us hl => match us, hl with | [_, _], _ => rfl
  exact ⟨f, fd, ["_law_rng_here", "_law_options"], fg_L_choice T F, g, F.kp, bi⟩
abbrev n_L_is_name : List Str := ["_law_value", "_law_letter"]
theorem sc_L_is_name : FnScope n_L_is_name ["_law_value"] (defScope s_L_is_name) := ⟨rfl, rfl, rfl, by decide +kernel, rfl, by decide +kernel, by decide +kernel⟩
theorem fg_L_is_name (T : Txt K mg) {f : Addr} {fd : FuncData} (F : FnP K "_law_is_name" s_L_is_name f fd) : FnG P w K mg base CX0 1 f fd ["_law_value"] (spM0 K 1 m_L_is_name) := by
  refine fn0 (N := n_L_is_name) (ps := ["_law_value"]) (body := b_L_is_name) F sc_L_is_name (by decide) ?_
  intro cdv A outer s H E Fr hg hr
  exact (sCons (sIf (PW.pt (tOr (tNot (tVal (eCB call_isi kIsi rfl T.n_isinstance bt_isinstance (aCons (var 0 (pv 0)) (aCons (gTy T.n_str bt_str) aNil))))) (tOr1 (tNot (tChn op_le op_le (oCmp (p := fun i j => decide (i ≤ j))) (oCmp (p := fun i j => decide (i ≤ j))) cInt (eCB call_ln kLen rfl T.n_len bt_len (aCons (var 0 (pv 0)) aNil)) cInt))))) (sCons (sRet cBl)
    sNil) sNil)
    (sCons (sRet (eCmp (opEqA (hu64 hr)) oEq (eLcIf 1 (iStr (var 0 (pv 0))) (blkOk_by (own := [("_law_letter", 1)]) (N := n_L_is_name) (sc := defScope s_L_is_name) (by decide +kernel)) (fun _ _ _ _ _ => pg_name (i := 1) sc_L_is_name.nd rfl (Or.inl rfl)) (fun _ _ _ _ _ => (tCmp op_notInS oNotInS (var 1 (pv 1)) cStr (by rfl))) (fun _ _ _ _ _ => (var 1 (pv 1))) sc_L_is_name.nd) (eLst aNil) (by rfl)))
    sNil))
theorem df_L_is_name (T : Txt K mg) : Df P w K mg base 1 "_law_is_name" 1 m_L_is_name := by
  obtain ⟨f, fd, F, g⟩ := T.d_L_is_name
  have bi : Binds K fd ["_law_value"] [] := F.bindsN (ps := ["_law_value"]) fun _ _ _ _ _ _ us hl => match us, hl with | [_], _ => rfl
  exact ⟨f, fd, ["_law_value"], fg_L_is_name T F, g, F.kp, bi⟩
abbrev n_L_text : List Str := ["_law_rng_here", "_law_letters", "_law_found", "_law_at", "_law_sign", "_law_k"]
theorem sc_L_text : FnScope n_L_text ["_law_rng_here"] (defScope s_L_text) := ⟨rfl, rfl, rfl, by decide +kernel, rfl, by decide +kernel, by decide +kernel⟩
theorem fg_L_text (T : Txt K mg) {f : Addr} {fd : FuncData} (F : FnP K "_law_text" s_L_text f fd) : FnG P w K mg base CX0 2 f fd ["_law_rng_here"] (spM0 K 1 m_L_text) := by
  refine fn0 (N := n_L_text) (ps := ["_law_rng_here"]) (body := b_L_text) F sc_L_text (by decide) ?_
  intro cdv A outer s H E Fr hg hr
  exact (sCons (sAsg 1 cStr sc_L_text.nd)
    (sCons (sAsg 2 (eJoin cStr (eLc 5 (iRng (aCons (eCallIO0 0 (df_L_draw T) hg (hr.mono (by decide)) (pv 0) (aCons cInt aNil)) aNil) T.n_range) (blkOk_by (own := [("_law_k", 5)]) (N := n_L_text) (sc := defScope s_L_text) (by decide +kernel)) (fun _ _ _ _ _ => pg_name (i := 5) sc_L_text.nd rfl (Or.inl rfl)) (fun _ _ _ _ _ => (eIx (var 1 (pv 1)) (eCallIO0 0 (df_L_draw T) hg (hr.mono (by decide)) (pv 0) (aCons cInt aNil)))) sc_L_text.nd)) sc_L_text.nd)
    (sCons (sIf (tCmp (opEqA (hu64 hr)) oEq (eCallIO0 0 (df_L_draw T) hg (hr.mono (by decide)) (pv 0) (aCons cInt aNil)) cInt (by rfl)) (sCons (sAsg 2 cStr sc_L_text.nd)
    sNil) sNil)
    (sCons (sIf (tCmp op_gt (oCmp (p := fun i j => decide (j < i))) (eCallIO0 0 (df_L_draw T) hg (hr.mono (by decide)) (pv 0) (aCons cInt aNil)) cInt (by rfl)) (sCons (sRet (var 2 (pv 2)))
    sNil) sNil)
    (sCons (sPar 3 4 (aCons (eCallIO0 0 (df_L_draw T) hg (hr.mono (by decide)) (pv 0) (aCons (eOp opAdd oAdd (eCB call_ln kLen rfl T.n_len bt_len (aCons (var 2 (pv 2)) aNil)) cInt) aNil)) (aCons (eIx cStr (eCallIO0 0 (df_L_draw T) hg (hr.mono (by decide)) (pv 0) (aCons cInt aNil))) aNil)) sc_L_text.nd)
    (sCons (sRet (eOp opAdd oAdd (eOp opAdd oAdd (eSlS (var 2 (pv 2)) oNone (oSome (var 3 (pv 3)))) (var 4 (pv 4))) (eSlS (var 2 (pv 2)) (oSome (eOp opAdd oAdd (var 3 (pv 3)) (eCallIO0 0 (df_L_draw T) hg (hr.mono (by decide)) (pv 0) (aCons cInt aNil)))) oNone)))
    sNil))))))
theorem df_L_text (T : Txt K mg) : Df P w K mg base 2 "_law_text" 1 m_L_text := by
  obtain ⟨f, fd, F, g⟩ := T.d_L_text
  have bi : Binds K fd ["_law_rng_here"] [] := F.bindsN (ps := ["_law_rng_here"]) fun _ _ _ _ _ _ us hl => match us, hl with | [_], _ => rfl
  exact ⟨f, fd, ["_law_rng_here"], fg_L_text T F, g, F.kp, bi⟩
abbrev n_L_odd : List Str := ["_law_rng_here", "_law_some_here"]
theorem sc_L_odd : FnScope n_L_odd ["_law_rng_here"] (defScope s_L_odd) := ⟨rfl, rfl, rfl, by decide +kernel, rfl, by decide +kernel, by decide +kernel⟩
theorem fg_L_odd (T : Txt K mg) {f : Addr} {fd : FuncData} (F : FnP K "_law_odd" s_L_odd f fd) : FnG P w K mg base CX0 3 f fd ["_law_rng_here"] (spM0 K 1 m_L_odd) := by
  refine fn0 (N := n_L_odd) (ps := ["_law_rng_here"]) (body := b_L_odd) F sc_L_odd (by decide) ?_
  intro cdv A outer s H E Fr hg hr
  exact (sCons (sAsg 1 (eLst (aCons cNon (aCons cBl (aCons cBl (aCons cStr (aCons (eLst aNil) (aCons (eTup aNil) (aCons eD0 (aCons (eLst (aCons cInt aNil)) (aCons (eTup (aCons cInt aNil)) (aCons (eDisp1 cInt cInt) (aCons (eLst (aCons cStr aNil)) (aCons (eTup (aCons cStr aNil)) (aCons (eDisp1 cStr cInt) (aCons (eLst (aCons (eLst aNil) aNil)) (aCons (eTup (aCons (eTup aNil) aNil)) (aCons (eLst (aCons cNon aNil)) (aCons cInt aNil)))))))))))))))))) sc_L_odd.nd)
    (sCons (sAsg 1 (eOp opAdd oAdd (var 1 (pv 1)) (eLst (aCons cStr (aCons cStr (aCons cStr (aCons (eTup (aCons cStr (aCons cInt aNil))) (aCons (eLst (aCons cBl aNil)) (aCons (eTup (aCons cNon aNil)) (aCons cStr (aCons cStr (aCons cStr (aCons cInt (aCons (eUn un_neg oNeg cInt) (aCons (eOp op_pow oPow cInt cInt) (aCons (eTup (aCons cStr (aCons cStr aNil))) aNil))))))))))))))) sc_L_odd.nd)
    (sCons (sAsg 1 (eOp opAdd oAdd (var 1 (pv 1)) (eLst (aCons (eTup (aCons cStr (aCons cStr aNil))) (aCons (eLst (aCons cStr (aCons cStr aNil))) (aCons (eTup (aCons cStr (aCons cStr aNil))) (aCons (eTup (aCons cStr (aCons cStr (aCons cStr aNil)))) (aCons cStr (aCons cStr aNil)))))))) sc_L_odd.nd)
    (sCons (sRet (eCallIO0 0 (df_L_choice T) hg (hr.mono (by decide)) (pv 0) (aCons (var 1 (pv 1)) aNil)))
    sNil))))
theorem df_L_odd (T : Txt K mg) : Df P w K mg base 3 "_law_odd" 1 m_L_odd := by
  obtain ⟨f, fd, F, g⟩ := T.d_L_odd
  have bi : Binds K fd ["_law_rng_here"] [] := F.bindsN (ps := ["_law_rng_here"]) fun _ _ _ _ _ _ us hl => match us, hl with | [_], _ => rfl
  exact ⟨f, fd, ["_law_rng_here"], fg_L_odd T F, g, F.kp, bi⟩
abbrev n_L_any : List Str := ["_law_rng_here"]
theorem sc_L_any : FnScope n_L_any ["_law_rng_here"] (defScope s_L_any) := ⟨rfl, rfl, rfl, by decide +kernel, rfl, by decide +kernel, by decide +kernel⟩
theorem fg_L_any (T : Txt K mg) {f : Addr} {fd : FuncData} (F : FnP K "_law_any" s_L_any f fd) : FnG P w K mg base CX0 4 f fd ["_law_rng_here"] (spM0 K 1 m_L_any) := by
  refine fn0 (N := n_L_any) (ps := ["_law_rng_here"]) (body := b_L_any) F sc_L_any (by decide) ?_
  intro cdv A outer s H E Fr hg hr
  exact (sCons (sRet (eIf (tCmp (opEqA (hu64 hr)) oEq (eCallIO0 0 (df_L_draw T) hg (hr.mono (by decide)) (pv 0) (aCons cInt aNil)) cInt (by rfl)) (eCallIO0 0 (df_L_odd T) hg (hr.mono (by decide)) (pv 0) aNil) (eCallIO0 0 (df_L_text T) hg (hr.mono (by decide)) (pv 0) aNil)))
    sNil)
theorem df_L_any (T : Txt K mg) : Df P w K mg base 4 "_law_any" 1 m_L_any := by
  obtain ⟨f, fd, F, g⟩ := T.d_L_any
  have bi : Binds K fd ["_law_rng_here"] [] := F.bindsN (ps := ["_law_rng_here"]) fun _ _ _ _ _ _ us hl => match us, hl with | [_], _ => rfl
  exact ⟨f, fd, ["_law_rng_here"], fg_L_any T F, g, F.kp, bi⟩
abbrev n_L_some : List Str := ["_law_rng_here", "_law_found", "_law_k"]
theorem sc_L_some : FnScope n_L_some ["_law_rng_here"] (defScope s_L_some) := ⟨rfl, rfl, rfl, by decide +kernel, rfl, by decide +kernel, by decide +kernel⟩
theorem fg_L_some (T : Txt K mg) {f : Addr} {fd : FuncData} (F : FnP K "_law_some" s_L_some f fd) : FnG P w K mg base CX0 5 f fd ["_law_rng_here"] (spM0 K 1 m_L_some) := by
  refine fn0 (N := n_L_some) (ps := ["_law_rng_here"]) (body := b_L_some) F sc_L_some (by decide) ?_
  intro cdv A outer s H E Fr hg hr
  exact (sCons (sLc 1 2 (iRng (aCons (eIx (eLst (aCons cInt (aCons cInt (aCons cInt (aCons cInt (aCons cInt (aCons cInt aNil))))))) (eCallIO0 0 (df_L_draw T) hg (hr.mono (by decide)) (pv 0) (aCons cInt aNil))) aNil) T.n_range) (blkOk_by (own := [("_law_k", 2)]) (N := n_L_some) (sc := defScope s_L_some) (by decide +kernel)) (fun _ _ _ _ _ => pg_name (i := 2) sc_L_some.nd rfl (Or.inl rfl)) (fun _ _ _ _ _ => (eCallIO0 0 (df_L_any T) hg (hr.mono (by decide)) (pv 0) aNil)) (sw_true rfl rfl rfl (by decide +kernel)) sc_L_some.nd)
    (sCons (sRet (eIf (tCmp (opEqA (hu64 hr)) oEq (eCallIO0 0 (df_L_draw T) hg (hr.mono (by decide)) (pv 0) (aCons cInt aNil)) cInt (by rfl)) (var 1 (pv 1)) (eCT call_tuple_of kTup rfl T.n_tuple bt_tuple (aCons (var 1 (pv 1)) aNil))))
    sNil))
theorem df_L_some (T : Txt K mg) : Df P w K mg base 5 "_law_some" 1 m_L_some := by
  obtain ⟨f, fd, F, g⟩ := T.d_L_some
  have bi : Binds K fd ["_law_rng_here"] [] := F.bindsN (ps := ["_law_rng_here"]) fun _ _ _ _ _ _ us hl => match us, hl with | [_], _ => rfl
  exact ⟨f, fd, ["_law_rng_here"], fg_L_some T F, g, F.kp, bi⟩
abbrev n_L_is_right : List Str := ["_law_value", "_law_shown", "_law_name", "_law_is_pair", "_law_place", "_law_turn"]
theorem sc_L_is_right : FnScope n_L_is_right ["_law_value"] (defScope s_L_is_right) := ⟨rfl, rfl, rfl, by decide +kernel, rfl, by decide +kernel, by decide +kernel⟩
theorem fg_L_is_right (T : Txt K mg) {f : Addr} {fd : FuncData} (F : FnP K "_law_is_right" s_L_is_right f fd) : FnG P w K mg base CX0 3 f fd ["_law_value"] (spM0 K 1 m_L_is_right) := by
  refine fn0 (N := n_L_is_right) (ps := ["_law_value"]) (body := b_L_is_right) F sc_L_is_right (by decide) ?_
  intro cdv A outer s H E Fr hg hr
  exact (sCons (sPar 1 2 (aCons (eCB (call_repr hg (hu64 hr) T.sy) kRepr rfl T.n_repr bt_repr (aCons (var 0 (pv 0)) aNil)) (aCons (eCall0 (df_L_is_name T) hg (hr.mono (by decide)) (aCons (var 0 (pv 0)) aNil)) aNil)) sc_L_is_right.nd)
    (sCons (sAsg 3 (eAnd (eCB call_isi kIsi rfl T.n_isinstance bt_isinstance (aCons (var 0 (pv 0)) (aCons (gTy T.n_tuple bt_tuple) aNil))) (eOne (eCmp (opEqA (hu64 hr)) oEq (eCB call_ln kLen rfl T.n_len bt_len (aCons (var 0 (pv 0)) aNil)) cInt (by rfl)))) sc_L_is_right.nd)
    (sCons (sAsg 4 (eAnd (var 3 (pv 3)) (eAnd (eCall0 (df_L_is_name T) hg (hr.mono (by decide)) (aCons (eIx (var 0 (pv 0)) cInt) aNil)) (eOne (eCall0 (df_L_is_name T) hg (hr.mono (by decide)) (aCons (eIx (var 0 (pv 0)) cInt) aNil))))) sc_L_is_right.nd)
    (sCons (sForR 5 (aCons cInt aNil) (sCons (sIf (tCmp (opNeA (hu64 hr)) oNe (eCB (call_repr hg (hu64 hr) T.sy) kRepr rfl T.n_repr bt_repr (aCons (eLst (aCons (eCall0 (df_is_name T) hg (hr.mono (by decide)) (aCons (var 0 (pv 0)) aNil)) (aCons (eCall0 (df_is_node T) hg (hr.mono (by decide)) (aCons (var 0 (pv 0)) aNil)) (aCons (eCall0 (df_is_place T) hg (hr.mono (by decide)) (aCons (var 0 (pv 0)) aNil)) aNil)))) aNil)) (eCB (call_repr hg (hu64 hr) T.sy) kRepr rfl T.n_repr bt_repr (aCons (eLst (aCons (var 2 (pv 2)) (aCons (eAnd (var 2 (pv 2)) (eOne (eCmp (opNeA (hu64 hr)) oNe (var 0 (pv 0)) cStr (by rfl)))) (aCons (var 4 (pv 4)) aNil)))) aNil)) (by rfl)) (sCons (sRet cBl)
    sNil) sNil)
    sNil) PassesOwn.never T.n_range sc_L_is_right.nd)
    (sCons (sRet (eCmp (opEqA (hu64 hr)) oEq (eCB (call_repr hg (hu64 hr) T.sy) kRepr rfl T.n_repr bt_repr (aCons (var 0 (pv 0)) aNil)) (var 1 (pv 1)) (by rfl)))
    sNil)))))
theorem df_L_is_right (T : Txt K mg) : Df P w K mg base 3 "_law_is_right" 1 m_L_is_right := by
  obtain ⟨f, fd, F, g⟩ := T.d_L_is_right
  have bi : Binds K fd ["_law_value"] [] := F.bindsN (ps := ["_law_value"]) fun _ _ _ _ _ _ us hl => match us, hl with | [_], _ => rfl
  exact ⟨f, fd, ["_law_value"], fg_L_is_right T F, g, F.kp, bi⟩
abbrev n_L_right : List Str := ["_law_rng_here", "_law_turn", "_law_some_here", "_law_value"]
theorem sc_L_right : FnScope n_L_right ["_law_rng_here"] (defScope s_L_right) := ⟨rfl, rfl, rfl, by decide +kernel, rfl, by decide +kernel, by decide +kernel⟩
theorem fg_L_right (T : Txt K mg) {f : Addr} {fd : FuncData} (F : FnP K "_law_right" s_L_right f fd) : FnG P w K mg base CX0 6 f fd ["_law_rng_here"] (spM0 K 1 m_L_right) := by
  refine fn0 (N := n_L_right) (ps := ["_law_rng_here"]) (body := b_L_right) F sc_L_right (by decide) ?_
  intro cdv A outer s H E Fr hg hr
  exact (sCons (sForR 1 (aCons cInt aNil) (sCons (sAsg 2 (eLst (aCons (eCallIO0 0 (df_L_text T) hg (hr.mono (by decide)) (pv 0) aNil) (aCons (eCallIO0 0 (df_L_odd T) hg (hr.mono (by decide)) (pv 0) aNil) (aCons (eCallIO0 0 (df_L_some T) hg (hr.mono (by decide)) (pv 0) aNil) (aCons (eCallIO0 0 (df_L_some T) hg (hr.mono (by decide)) (pv 0) aNil) (aCons (eTup (aCons (eCallIO0 0 (df_L_text T) hg (hr.mono (by decide)) (pv 0) aNil) (aCons (eCallIO0 0 (df_L_text T) hg (hr.mono (by decide)) (pv 0) aNil) aNil))) aNil)))))) sc_L_right.nd)
    (sCons (sIf (tNot (tVal (eCB (cr_all rfl) kAll rfl T.n_all bt_all (aCons (eLc 3 (iLst (var 2 (pv 2))) (blkOk_by (own := [("_law_value", 3)]) (N := n_L_right) (sc := defScope s_L_right) (by decide +kernel)) (fun _ _ _ _ _ => pg_name (i := 3) sc_L_right.nd rfl (Or.inl rfl)) (fun _ _ _ _ _ => (eCall0 (df_L_is_right T) hg (hr.mono (by decide)) (aCons (var 3 (pv 3)) aNil))) sc_L_right.nd) aNil)))) (sCons (sRet cBl)
    sNil) sNil)
    sNil)) PassesOwn.never T.n_range sc_L_right.nd)
    (sCons (sRet cBl)
    sNil))
theorem df_L_right (T : Txt K mg) : Df P w K mg base 6 "_law_right" 1 m_L_right := by
  obtain ⟨f, fd, F, g⟩ := T.d_L_right
  have bi : Binds K fd ["_law_rng_here"] [] := F.bindsN (ps := ["_law_rng_here"]) fun _ _ _ _ _ _ us hl => match us, hl with | [_], _ => rfl
  exact ⟨f, fd, ["_law_rng_here"], fg_L_right T F, g, F.kp, bi⟩
abbrev n_law : List Str := ["_law_script", "_law_k"]
theorem sc_law : FnScope n_law ["_law_script"] (defScope s_law) := ⟨rfl, rfl, rfl, by decide +kernel, rfl, by decide +kernel, by decide +kernel⟩
theorem fg_law (T : Txt K mg) {f : Addr} {fd : FuncData} (F : FnP K "law" s_law f fd) : FnG P w K mg base CX0 7 f fd ["_law_script"] (spM0 K 1 m_law) := by
  refine fn0 (N := n_law) (ps := ["_law_script"]) (body := b_law) F sc_law (by decide) ?_
  intro cdv A outer s H E Fr hg hr
  exact (sCons (sRet (eCB (cr_all rfl) kAll rfl T.n_all bt_all (aCons (eLc 1 (iRng (aCons (eCB (call_max2 rfl) kTwo rfl T.n_max bt_max (aCons cInt (aCons (eCB (call_min2 rfl) kTwo rfl T.n_min bt_min (aCons (eCB call_ln kLen rfl T.n_len bt_len (aCons (var 0 (pv 0)) aNil)) (aCons cInt aNil))) aNil))) aNil) T.n_range) (blkOk_by (own := [("_law_k", 1)]) (N := n_law) (sc := defScope s_law) (by decide +kernel)) (fun _ _ _ _ _ => pg_name (i := 1) sc_law.nd rfl (Or.inl rfl)) (fun _ _ _ _ _ => (eCallT0 (df_L_right T) hg (hr.mono (by decide)) (eCallN0 (df_L_rng T) hg (hr.mono (by decide)) (aCons (var 0 (pv 0)) (aCons (var 1 (pv 1)) aNil))))) sc_law.nd) aNil)))
    sNil)
theorem df_law (T : Txt K mg) : Df P w K mg base 7 "law" 1 m_law := by
  obtain ⟨f, fd, F, g⟩ := T.d_law
  have bi : Binds K fd ["_law_script"] [] := F.bindsN (ps := ["_law_script"]) fun _ _ _ _ _ _ us hl => match us, hl with | [_], _ => rfl
  exact ⟨f, fd, ["_law_script"], fg_law T F, g, F.kp, bi⟩
end
end K11
namespace K11
open PySem PySem.Spec PyProof.Rows L2 PD
/-! ### the head, printed by gen.py -/
def dd_is_name : He.DefD := ⟨("is_name", none), "is_name", "is_name", defArgs s_is_name, defBody s_is_name, defScope s_is_name, [], []⟩
def dd_is_node : He.DefD := ⟨("is_node", none), "is_node", "is_node", defArgs s_is_node, defBody s_is_node, defScope s_is_node, [], []⟩
def dd_is_place : He.DefD := ⟨("is_place", none), "is_place", "is_place", defArgs s_is_place, defBody s_is_place, defScope s_is_place, [], []⟩
def dd_L_rng : He.DefD := ⟨("_law_rng", none), "_law_rng", "_law_rng", defArgs s_L_rng, defBody s_L_rng, defScope s_L_rng, [], []⟩
def dd_L_draw : He.DefD := ⟨("_law_draw", none), "_law_draw", "_law_draw", defArgs s_L_draw, defBody s_L_draw, defScope s_L_draw, [], []⟩
def dd_L_choice : He.DefD := ⟨("_law_choice", none), "_law_choice", "_law_choice", defArgs s_L_choice, defBody s_L_choice, defScope s_L_choice, [], []⟩
def dd_L_is_name : He.DefD := ⟨("_law_is_name", none), "_law_is_name", "_law_is_name", defArgs s_L_is_name, defBody s_L_is_name, defScope s_L_is_name, [], []⟩
def dd_L_text : He.DefD := ⟨("_law_text", none), "_law_text", "_law_text", defArgs s_L_text, defBody s_L_text, defScope s_L_text, [], []⟩
def dd_L_odd : He.DefD := ⟨("_law_odd", none), "_law_odd", "_law_odd", defArgs s_L_odd, defBody s_L_odd, defScope s_L_odd, [], []⟩
def dd_L_any : He.DefD := ⟨("_law_any", none), "_law_any", "_law_any", defArgs s_L_any, defBody s_L_any, defScope s_L_any, [], []⟩
def dd_L_some : He.DefD := ⟨("_law_some", none), "_law_some", "_law_some", defArgs s_L_some, defBody s_L_some, defScope s_L_some, [], []⟩
def dd_L_is_right : He.DefD := ⟨("_law_is_right", none), "_law_is_right", "_law_is_right", defArgs s_L_is_right, defBody s_L_is_right, defScope s_L_is_right, [], []⟩
def dd_L_right : He.DefD := ⟨("_law_right", none), "_law_right", "_law_right", defArgs s_L_right, defBody s_L_right, defScope s_L_right, [], []⟩
def dd_law : He.DefD := ⟨("law", none), "law", "law", defArgs s_law, defBody s_law, defScope s_law, [], []⟩
def fn : List He.DefD := [dd_is_name, dd_is_node, dd_is_place, dd_L_rng, dd_L_draw, dd_L_choice, dd_L_is_name, dd_L_text, dd_L_odd, dd_L_any, dd_L_some, dd_L_is_right, dd_L_right, dd_law]
def fa : List He.Fa := [.glo "is_name", .glo "is_node", .glo "is_place", .glo "_law_rng", .glo "_law_draw", .glo "_law_choice", .glo "_law_is_name", .glo "_law_text", .glo "_law_odd", .glo "_law_any", .glo "_law_some", .glo "_law_is_right", .glo "_law_right", .glo "law", .free "abs", .free "all", .free "divmod", .free "isinstance", .free "len", .free "max", .free "min", .free "range", .free "repr", .free "str", .free "tuple", .str "LETTERS" "abcdefghijklmnopqrstuvwxyz", .int "MOST_LETTERS" 8, .int "PLACE_SIZE" 2, .str "ROOT" "root"]
abbrev R0 : PySem.W.OpenRow := PySem.W.OpenLaw.row PySem.Challenge.rw_movegrants_k11_names_nodes_and_places
abbrev hk : PySem.W.Hook := hookS 4 fa fn
theorem txt_of {K : PySem.W.Frag} {h : Heap} {mg : Str → Option Value} (X : K.In h) (G : h.Ns mainGlobals mg) (c : He.SaysD fa fn K) (sy : ∃ o, K.lookup sysModules = some o) : Txt K mg where
  sy := sy
  n_abs := He.free_ok X G (c.fact 14 (f := .free "abs") rfl)
  n_all := He.free_ok X G (c.fact 15 (f := .free "all") rfl)
  n_divmod := He.free_ok X G (c.fact 16 (f := .free "divmod") rfl)
  n_isinstance := He.free_ok X G (c.fact 17 (f := .free "isinstance") rfl)
  n_len := He.free_ok X G (c.fact 18 (f := .free "len") rfl)
  n_max := He.free_ok X G (c.fact 19 (f := .free "max") rfl)
  n_min := He.free_ok X G (c.fact 20 (f := .free "min") rfl)
  n_range := He.free_ok X G (c.fact 21 (f := .free "range") rfl)
  n_repr := He.free_ok X G (c.fact 22 (f := .free "repr") rfl)
  n_str := He.free_ok X G (c.fact 23 (f := .free "str") rfl)
  n_tuple := He.free_ok X G (c.fact 24 (f := .free "tuple") rfl)
  c_LETTERS := He.str_ok X G (c.fact 25 (f := .str "LETTERS" "abcdefghijklmnopqrstuvwxyz") rfl)
  c_MOST_LETTERS := He.int_ok X G (c.fact 26 (f := .int "MOST_LETTERS" 8) rfl)
  c_PLACE_SIZE := He.int_ok X G (c.fact 27 (f := .int "PLACE_SIZE" 2) rfl)
  c_ROOT := He.str_ok X G (c.fact 28 (f := .str "ROOT" "root") rfl)
  d_is_name := let ⟨fd, F⟩ := c.def_ 0 (d := dd_is_name) rfl; ⟨_, fd, F, He.glo_ok X G (c.fact 0 (f := .glo "is_name") rfl)⟩
  d_is_node := let ⟨fd, F⟩ := c.def_ 1 (d := dd_is_node) rfl; ⟨_, fd, F, He.glo_ok X G (c.fact 1 (f := .glo "is_node") rfl)⟩
  d_is_place := let ⟨fd, F⟩ := c.def_ 2 (d := dd_is_place) rfl; ⟨_, fd, F, He.glo_ok X G (c.fact 2 (f := .glo "is_place") rfl)⟩
  d_L_rng := let ⟨fd, F⟩ := c.def_ 3 (d := dd_L_rng) rfl; ⟨_, fd, F, He.glo_ok X G (c.fact 3 (f := .glo "_law_rng") rfl)⟩
  d_L_draw := let ⟨fd, F⟩ := c.def_ 4 (d := dd_L_draw) rfl; ⟨_, fd, F, He.glo_ok X G (c.fact 4 (f := .glo "_law_draw") rfl)⟩
  d_L_choice := let ⟨fd, F⟩ := c.def_ 5 (d := dd_L_choice) rfl; ⟨_, fd, F, He.glo_ok X G (c.fact 5 (f := .glo "_law_choice") rfl)⟩
  d_L_is_name := let ⟨fd, F⟩ := c.def_ 6 (d := dd_L_is_name) rfl; ⟨_, fd, F, He.glo_ok X G (c.fact 6 (f := .glo "_law_is_name") rfl)⟩
  d_L_text := let ⟨fd, F⟩ := c.def_ 7 (d := dd_L_text) rfl; ⟨_, fd, F, He.glo_ok X G (c.fact 7 (f := .glo "_law_text") rfl)⟩
  d_L_odd := let ⟨fd, F⟩ := c.def_ 8 (d := dd_L_odd) rfl; ⟨_, fd, F, He.glo_ok X G (c.fact 8 (f := .glo "_law_odd") rfl)⟩
  d_L_any := let ⟨fd, F⟩ := c.def_ 9 (d := dd_L_any) rfl; ⟨_, fd, F, He.glo_ok X G (c.fact 9 (f := .glo "_law_any") rfl)⟩
  d_L_some := let ⟨fd, F⟩ := c.def_ 10 (d := dd_L_some) rfl; ⟨_, fd, F, He.glo_ok X G (c.fact 10 (f := .glo "_law_some") rfl)⟩
  d_L_is_right := let ⟨fd, F⟩ := c.def_ 11 (d := dd_L_is_right) rfl; ⟨_, fd, F, He.glo_ok X G (c.fact 11 (f := .glo "_law_is_right") rfl)⟩
  d_L_right := let ⟨fd, F⟩ := c.def_ 12 (d := dd_L_right) rfl; ⟨_, fd, F, He.glo_ok X G (c.fact 12 (f := .glo "_law_right") rfl)⟩
  d_law := let ⟨fd, F⟩ := c.def_ 13 (d := dd_law) rfl; ⟨_, fd, F, He.glo_ok X G (c.fact 13 (f := .glo "law") rfl)⟩
def loose : List Str := ["is_name", "is_node", "is_place", "_law_rng", "_law_draw", "_law_choice", "_law_is_name", "_law_text", "_law_odd", "_law_any", "_law_some", "_law_is_right", "_law_right", "LETTERS", "MOST_LETTERS", "PLACE_SIZE", "ROOT"]
def lawi : Nat := 19
theorem run (w : World) : HandSHeadRun.RunEq R0 (PySem.W.view R0.prog [lawi]) hk (obS 4 fa fn) 900 loose w := by
  intro os
  kernel_rfl
end K11
/-! k11: the plain law. -/
namespace K11
open PySem PySem.Spec PyProof.Rows L2 PD
def az : Str := "abcdefghijklmnopqrstuvwxyz"
def nm : D → Bool
  | .str z => decide (1 ≤ z.length ∧ z.length ≤ 8) && z.cps.toList.all fun c => decide (c ∈ az.cps.toList)
  | _ => false
theorem nm_s {z : Str} : nm (.str z) = (decide (1 ≤ z.length ∧ z.length ≤ 8) && z.cps.toList.all fun c => decide (c ∈ az.cps.toList)) := rfl
theorem chD_len (z : Str) : (chD z).length = z.length := by unfold chD; rw [List.length_map]; rfl
theorem bools_map {α : Type} (p : α → Bool) : ∀ l : List α, bools (l.map fun c => D.bl (p c)) = some (l.map p)
  | [] => rfl
  | c :: l => by
    show (bools (l.map fun c => D.bl (p c))).map (p c :: ·) = _
    rw [bools_map p l]; rfl
theorem py_chars : ∀ l : List Nat, pyAll (l.map fun c => D.str ⟨#[c]⟩) = some (l.map fun c => PyData.str ⟨#[c]⟩)
  | [] => rfl
  | c :: l => by
    simp only [List.map_cons, pyAll]
    rw [py_chars l]
    rfl
theorem lay_chars : ∀ l : List Nat, (∀ c ∈ l, c < 1114112) → PyData.canLayAll0 (l.map fun c => PyData.str ⟨#[c]⟩) = true ∧ PyData.depthAll (l.map fun c => PyData.str ⟨#[c]⟩) = 0
  | [], _ => ⟨rfl, rfl⟩
  | c :: l, h => by
    obtain ⟨h1, h2⟩ := lay_chars l fun x hx => h x (List.mem_cons_of_mem _ hx)
    have h3 := h c List.mem_cons_self
    simp only [List.map_cons, PyData.canLayAll0, PyData.depthAll, PyData.canLay0, PyData.depth]
    rw [h1, h2]
    refine ⟨?_, by simp⟩
    unfold PyData.strOk
    simpa using h3
theorem eq_nil {l : List Nat} (h : ∀ c ∈ l, c < 1114112) : dEq (.lst (l.map fun c => D.str ⟨#[c]⟩)) (.lst []) = some l.isEmpty := by
  show dEqD _ _ = _
  unfold dEqD
  obtain ⟨h1, h2⟩ := lay_chars l h
  simp only [D.py, py_chars, pyAll, Option.map_some]
  have s1 : SeqAt.shaped (.list (l.map fun c => PyData.str ⟨#[c]⟩)) = true := Bool.and_eq_true_iff.mpr ⟨h1, decide_eq_true (by show PyData.depthAll _ + 1 ≤ 64; omega)⟩
  rw [s1]
  show (if (true && SeqAt.shaped (.list [])) = true then some (PyData.eqv (.list (l.map fun c => PyData.str ⟨#[c]⟩)) (.list [])) else none) = _
  rw [if_pos (by decide)]
  cases l with
  | nil => rfl
  | cons c l => rfl
theorem name_len {w k : Nat} {z : Str} (h : Gd w k (.str z)) (hw : w ≤ 10000) : one dLen [.str z] = some (.int z.length) := by
  have := h.str_len
  have e : sizeLine = 16777216 := rfl
  exact if_pos (by omega)
theorem is_name_ok {w k : Nat} {d : D} (h : Gd w k d) (hw : w ≤ 10000) {Q : D → Rho → Prop} (q : ∀ ρ, Q (.bl (nm d)) ρ) : EvF m_is_name [.dat d] Q := by
  unfold m_is_name
  rw [evF_fnM]
  show EvS b_is_name [.dat d, .no] _ _
  unfold b_is_name
  simp only [evS_seq, evS_if, ev_orM, ev_notM, ev_asB, ev_bnd, ev_argC, ev_rdS, ev_ret, ev_chn, evS_then, List.getElem?_cons_zero, List.getElem?_cons_succ, Option.some.injEq, Slot.dat.injEq, exists_eq_left', isi_str h, ev_some, D.bl.injEq]
  cases d with
  | str z =>
    have hl := h.str_len
    simp only [isStr, Bool.not_true, Bool.not_false, Bool.false_eq_true, if_false, if_true, name_len h hw, ev_some, dCmp, exists_eq_left', ev_ret, D.bl.injEq, evS_rt, evS_nx]
    have no : ∀ (b : Bool), b = nm (.str z) → Q (.bl b) (cl [Slot.dat (D.str z)] [Slot.dat (D.str z), Slot.no]) := fun b e => e ▸ q _
    by_cases h1 : 1 ≤ z.length
    · rw [if_pos (decide_eq_true (show (1 : Int) ≤ z.length by omega))]
      by_cases h8 : z.length ≤ 8
      · rw [if_neg (by rw [Bool.not_eq_true, Bool.not_eq_false']; exact decide_eq_true (by omega))]
        refine ev_lcPure (fun _ => true) (fun x => ((dInS x (.str az)).map D.bl).getD .non) ?_
        refine ev_ch (ev_rdS.mpr ⟨_, rfl, _, rfl, rfl, ?_, fun x hx => rfl, fun x hx _ => ?_, ?_⟩)
        · have := chD_len z; omega
        · obtain ⟨c, hc, rfl⟩ := List.mem_map.mp hx
          rfl
        · have e : ((chD z).filter fun _ => true).map (fun x => ((dInS x (.str az)).map D.bl).getD .non) = z.cps.toList.map fun c => D.bl (decide (c ∈ az.cps.toList)) := by
            rw [List.filter_eq_self.mpr fun _ _ => rfl]
            unfold chD
            rw [List.map_map]
            rfl
          rw [e]
          show Ev (opt ((bools _).map fun bs => D.bl (bs.all id))) _ _
          rw [bools_map, Option.map_some, ev_some]
          refine no _ ?_
          rw [nm_s, decide_eq_true (⟨h1, h8⟩ : 1 ≤ z.length ∧ z.length ≤ 8), Bool.true_and, List.all_map]
          rfl
      · rw [if_pos (by rw [Bool.not_eq_true']; exact decide_eq_false (by omega))]
        refine no _ ?_
        rw [nm_s, decide_eq_false (by omega), Bool.false_and]
    · rw [if_neg (by rw [decide_eq_true_eq]; omega)]
      refine no _ ?_
      rw [nm_s, decide_eq_false (by omega), Bool.false_and]
  | _ => simp only [isStr, Bool.not_false, if_true, evS_rt]; exact q _
theorem L_is_name_ok {w k : Nat} {d : D} (h : Gd w k d) (hw : w ≤ 10000) {Q : D → Rho → Prop} (q : ∀ ρ, Q (.bl (nm d)) ρ) : EvF m_L_is_name [.dat d] Q := by
  unfold m_L_is_name
  rw [evF_fnM]
  show EvS b_L_is_name [.dat d, .no] _ _
  unfold b_L_is_name
  simp only [evS_seq, evS_if, ev_orM, ev_notM, ev_asB, ev_bnd, ev_argC, ev_rdS, ev_ret, ev_chn, evS_then, List.getElem?_cons_zero, List.getElem?_cons_succ, Option.some.injEq, Slot.dat.injEq, exists_eq_left', isi_str h, ev_some, D.bl.injEq]
  cases d with
  | str z =>
    have hl := h.str_len
    simp only [isStr, Bool.not_true, Bool.not_false, Bool.false_eq_true, if_false, if_true, name_len h hw, ev_some, dCmp, exists_eq_left', ev_ret, D.bl.injEq, evS_rt, evS_nx, ev_bin2]
    have no : ∀ (b : Bool), b = nm (.str z) → Q (.bl b) (cl [Slot.dat (D.str z)] [Slot.dat (D.str z), Slot.no]) := fun b e => e ▸ q _
    by_cases h1 : 1 ≤ z.length
    · rw [if_pos (decide_eq_true (show (1 : Int) ≤ z.length by omega))]
      by_cases h8 : z.length ≤ 8
      · rw [if_neg (by rw [Bool.not_eq_true, Bool.not_eq_false']; exact decide_eq_true (by omega))]
        refine ev_lcPure (fun x => !((dInS x (.str az)).getD true)) (fun x => x) ?_
        refine ev_ch (ev_rdS.mpr ⟨_, rfl, _, rfl, rfl, ?_, fun x hx => ?_, fun x hx _ => rfl, ?_⟩)
        · have := chD_len z; omega
        · obtain ⟨c, hc, rfl⟩ := List.mem_map.mp hx
          rfl
        · have e : ((chD z).filter fun x => !((dInS x (.str az)).getD true)).map (fun x => x) = (z.cps.toList.filter fun c => !decide (c ∈ az.cps.toList)).map fun c => D.str ⟨#[c]⟩ := by
            rw [List.map_id']
            unfold chD
            rw [List.filter_map]
            rfl
          rw [e, ev_lay, ev_ret]
          refine ⟨Nat.zero_le _, ?_⟩
          rw [eq_nil fun c hc => h.str_cps c (List.mem_filter.mp hc).1, Option.map_some, ev_some]
          refine no _ ?_
          rw [nm_s, decide_eq_true (⟨h1, h8⟩ : 1 ≤ z.length ∧ z.length ≤ 8), Bool.true_and, Bool.eq_iff_iff, List.isEmpty_iff, List.filter_eq_nil_iff, List.all_eq_true]
          simp
      · rw [if_pos (by rw [Bool.not_eq_true']; exact decide_eq_false (by omega))]
        refine no _ ?_
        rw [nm_s, decide_eq_false (by omega), Bool.false_and]
    · rw [if_neg (by rw [decide_eq_true_eq]; omega)]
      refine no _ ?_
      rw [nm_s, decide_eq_false (by omega), Bool.false_and]
  | _ => simp only [isStr, Bool.not_false, if_true, evS_rt]; exact q _
/-- what is a name is a text -/
theorem nm_str {d : D} (h : nm d = true) : ∃ z, d = .str z := by
  cases d with
  | str z => exact ⟨z, rfl⟩
  | _ => cases h
def nd : D → Bool
  | .str z => nm (.str z) && !decide (z = "root")
  | _ => false
def pl : D → Bool
  | .tup [x, y] => nm x && nm y
  | _ => false
def pr : D → Bool
  | .tup [_, _] => true
  | _ => false
theorem ev_name0 {w k : Nat} {d : D} {r : Rho} (h : Gd w k d) (hw : w ≤ 10000) {Q : D → Rho → Prop} (q : Q (.bl (nm d)) (.dat d :: r)) : Ev (callD 1 (argC (rdS 0) (PD.ret [])) m_is_name) (.dat d :: r) Q :=
  ev_callD.mpr (ev_argC.mpr (ev_rdS.mpr ⟨_, rfl, ev_ret.mpr ⟨rfl, is_name_ok h hw fun _ => q⟩⟩))
theorem ev_Lname0 {w k : Nat} {d : D} {r : Rho} (h : Gd w k d) (hw : w ≤ 10000) {Q : D → Rho → Prop} (q : Q (.bl (nm d)) (.dat d :: r)) : Ev (callD 1 (argC (rdS 0) (PD.ret [])) m_L_is_name) (.dat d :: r) Q :=
  ev_callD.mpr (ev_argC.mpr (ev_rdS.mpr ⟨_, rfl, ev_ret.mpr ⟨rfl, L_is_name_ok h hw fun _ => q⟩⟩))
/-- the second half of is_node, of a value that is a name or not -/
theorem ev_node {d : D} {r : Rho} {Q : D → Rho → Prop} (q : Q (.bl (nd d)) (.dat d :: r)) :
    if nm d = true then Ev (bin2 (rdS 0) (PD.ret (.str "root")) (fun x y => opt ((dEq x y).map fun k => D.bl (!k)))) (.dat d :: r) Q else Q (.bl false) (.dat d :: r) := by
  split
  · rename_i hn
    obtain ⟨z, rfl⟩ := nm_str hn
    refine ev_bin2.mpr (ev_rdS.mpr ⟨_, rfl, ev_ret.mpr ?_⟩)
    show Ev (opt (some (D.bl (!decide (z = "root"))))) _ _
    rw [ev_some]
    have e : nd (.str z) = !decide (z = "root") := by show (nm (.str z) && _) = _; rw [hn]; rfl
    rw [e] at q
    exact q
  · rename_i hn
    have e : nd d = false := by
      unfold nd
      split
      · rw [Bool.not_eq_true] at hn; rw [hn]; rfl
      · rfl
    rw [e] at q
    exact q
theorem is_node_ok {w k : Nat} {d : D} (h : Gd w k d) (hw : w ≤ 10000) {Q : D → Rho → Prop} (q : ∀ ρ, Q (.bl (nd d)) ρ) : EvF m_is_node [.dat d] Q := by
  unfold m_is_node
  rw [evF_fnM]
  show EvS b_is_node [.dat d] _ _
  unfold b_is_node
  simp only [evS_seq, evS_then, evS_rt, ev_andV, ev_asB]
  refine ev_name0 h hw ⟨_, rfl, ev_node ?_⟩
  exact q _
theorem ev_assoc {f g h : M D} {ρ : Rho} {Q : D → Rho → Prop} : Ev (andV (andV f g) h) ρ Q ↔ Ev (andV f (andV g h)) ρ Q := by
  simp only [ev_andV, ev_asB, D.bl.injEq, exists_eq_left', Bool.false_eq_true, if_false]
/-- a pair of names -/
theorem ev_pl {m : Rho → Out D} (hm : ∀ {w k : Nat} {d : D}, Gd w k d → w ≤ 10000 → ∀ {Q : D → Rho → Prop}, (∀ ρ, Q (.bl (nm d)) ρ) → EvF m [.dat d] Q) {w k : Nat} {d : D} {r : Rho} (h : Gd w k d) (hw : w ≤ 10000) {Q : D → Rho → Prop} (q : Q (.bl (pl d)) (.dat d :: r)) :
    if pr d = true then Ev (andV (callD 1 (argC (bin2 (rdS 0) (PD.ret (.int 0)) fun x y => opt (dIx x y)) (PD.ret [])) m) (callD 1 (argC (bin2 (rdS 0) (PD.ret (.int 1)) fun x y => opt (dIx x y)) (PD.ret [])) m)) (.dat d :: r) Q else Q (.bl false) (.dat d :: r) := by
  split
  · rename_i hp
    have e : ∃ x y, d = .tup [x, y] := by
      unfold pr at hp
      split at hp
      · exact ⟨_, _, rfl⟩
      · cases hp
    obtain ⟨x, y, rfl⟩ := e
    have hx := h.items x (by simp)
    have hy := h.items y (by simp)
    simp only [ev_andV, ev_asB, ev_callD, ev_argC, ev_bin2, ev_rdS, ev_ret]
    refine ⟨_, rfl, ?_⟩
    show Ev (opt (some x)) _ _
    rw [ev_some]
    refine ⟨rfl, hm hx hw fun _ => ⟨_, rfl, ?_⟩⟩
    have e : pl (.tup [x, y]) = (nm x && nm y) := rfl
    rw [e] at q
    split
    · rename_i hn
      refine ⟨_, rfl, ?_⟩
      show Ev (opt (some y)) _ _
      rw [ev_some]
      rw [hn, Bool.true_and] at q
      exact ⟨rfl, hm hy hw fun _ => q⟩
    · rename_i hn
      rw [Bool.not_eq_true] at hn
      rw [hn] at q
      exact q
  · rename_i hp
    have e : pl d = false := by
      unfold pl
      split
      · exact absurd rfl hp
      · rfl
    rw [e] at q
    exact q
theorem pr_eq {xs : List D} : pr (.tup xs) = decide ((xs.length : Int) = 2) := by
  match xs with
  | [] => rfl
  | [_] => rfl
  | [_, _] => rfl
  | a :: b :: c :: r =>
    have e : pr (.tup (a :: b :: c :: r)) = false := rfl
    rw [e]
    refine (decide_eq_false ?_).symm
    simp only [List.length_cons]
    omega
theorem ev_pair {w k : Nat} {d : D} {r : Rho} (h : Gd w k d) {Q : D → Rho → Prop} (q : Q (.bl (pr d)) (.dat d :: r)) : Ev (andV (bnd (argC (rdS 0) (argC (PD.ret (.ty "tuple")) (PD.ret []))) fun ds => opt (dIsi ds)) (bin2 (bnd (argC (rdS 0) (PD.ret [])) fun ds => opt (one dLen ds)) (PD.ret (.int 2)) (fun x y => opt ((dEq x y).map D.bl)))) (.dat d :: r) Q := by
  simp only [ev_andV, ev_asB, ev_bnd, ev_argC, ev_ret, ev_rdS, ev_bin2, List.getElem?_cons_zero, Option.some.injEq, Slot.dat.injEq, exists_eq_left', isi_tup h, ev_some, D.bl.injEq]
  cases d with
  | tup xs =>
    simp only [isTup, if_true]
    show Ev (opt (some (D.int xs.length))) _ _
    rw [ev_some]
    show Ev (opt (some (D.bl (decide ((xs.length : Int) = 2))))) _ _
    rw [ev_some, ← pr_eq]
    exact q
  | _ => simp only [isTup, Bool.false_eq_true, if_false]; exact q
theorem is_place_ok {w k : Nat} {d : D} (h : Gd w k d) (hw : w ≤ 10000) {Q : D → Rho → Prop} (q : ∀ ρ, Q (.bl (pl d)) ρ) : EvF m_is_place [.dat d] Q := by
  unfold m_is_place
  rw [evF_fnM]
  show EvS b_is_place [.dat d] _ _
  unfold b_is_place
  simp only [evS_seq, evS_then, evS_rt]
  rw [← ev_assoc, ev_andV, ev_asB]
  exact ev_pair h ⟨_, rfl, ev_pl (fun h hw _ q => is_name_ok h hw q) h hw (q _)⟩
theorem show3 (a b c : Bool) : ∃ t, dShow (.lst [.bl a, .bl b, .bl c]) = some t := Gd.show (w := 10) (k := 2) (Gd.of (by cases a <;> cases b <;> cases c <;> decide +kernel)) (by decide) (by decide)
theorem L_is_right_ok {w k : Nat} {d : D} (h : Gd w k d) (hw : w ≤ 10000) (hk : k ≤ 60) {Q : D → Rho → Prop} (q : ∀ ρ, Q (.bl true) ρ) : EvF m_L_is_right [.dat d] Q := by
  obtain ⟨t, ht⟩ := h.show (by omega) hk
  obtain ⟨t3, ht3⟩ := show3 (nm d) (nd d) (pl d)
  have e1 : one (fun d => (dShow d).map D.str) [d] = some (.str t) := by show (dShow d).map D.str = _; rw [ht]; rfl
  have e3 : one (fun d => (dShow d).map D.str) [.lst [.bl (nm d), .bl (nd d), .bl (pl d)]] = some (.str t3) := by show (dShow (.lst [.bl (nm d), .bl (nd d), .bl (pl d)])).map D.str = _; rw [ht3]; rfl
  unfold m_L_is_right
  rw [evF_fnM]
  show EvS b_L_is_right [.dat d, .no, .no, .no, .no, .no] _ _
  unfold b_L_is_right
  rw [evS_seq]
  refine evS_par ?_
  rw [ev_argC, ev_bnd, ev_argC, ev_rdS]
  refine ⟨_, rfl, ev_ret.mpr ?_⟩
  rw [e1, ev_some, ev_argC]
  refine ev_Lname0 h hw (ev_ret.mpr ⟨_, _, rfl, ?_⟩)
  rw [evS_seq, evS_set]
  refine ⟨⟨_, rfl, fun _ z => nomatch z⟩, ?_⟩
  rw [evS_set]
  refine ⟨⟨_, rfl, fun _ z => nomatch z⟩, ?_⟩
  rw [evS_seq, evS_asg]
  refine ev_pair h ⟨⟨_, rfl, fun _ z => nomatch z⟩, ?_⟩
  rw [evS_seq, evS_asg, ev_andV, ev_asB, ev_rdS]
  refine ⟨_, rfl, _, rfl, ?_⟩
  refine ev_pl (fun h hw _ q => L_is_name_ok h hw q) h hw ⟨⟨_, rfl, fun _ z => nomatch z⟩, ?_⟩
  rw [evS_seq]
  refine evS_forR (ev_argC.mpr (ev_ret.mpr (ev_ret.mpr ⟨2, rfl, by decide, by decide, ?_⟩)))
  refine evS_for (fun ρ => ∃ s, (∀ c, s ≠ Slot.io c) ∧ ρ = [.dat d, .dat (.str t), .dat (.bl (nm d)), .dat (.bl (pr d)), .dat (.bl (pl d)), s]) _ _ ⟨.no, (fun _ z => nomatch z), rfl⟩ ?_ ?_
  · rintro x _ _ ⟨s, hs, rfl⟩
    rw [evS_seq, evS_set]
    refine ⟨⟨_, rfl, hs⟩, ?_⟩
    rw [evS_seq, evS_if, ev_asB, ev_bin2, ev_bnd, ev_argC, ev_lay, ev_argC]
    refine ev_name0 h hw ?_
    rw [ev_argC]
    refine ev_callD.mpr (ev_argC.mpr (ev_rdS.mpr ⟨_, rfl, ev_ret.mpr ⟨rfl, is_node_ok h hw fun _ => ?_⟩⟩))
    rw [ev_argC]
    refine ev_callD.mpr (ev_argC.mpr (ev_rdS.mpr ⟨_, rfl, ev_ret.mpr ⟨rfl, is_place_ok h hw fun _ => ?_⟩⟩))
    rw [ev_ret]
    refine ⟨by show 3 ≤ sizeLine; decide, ?_⟩
    rw [ev_ret, e3, ev_some, ev_bnd, ev_argC, ev_lay, ev_argC, ev_rdS]
    refine ⟨_, rfl, ?_⟩
    rw [ev_argC, ev_andV, ev_asB, ev_rdS]
    refine ⟨_, rfl, _, rfl, ev_node ?_⟩
    rw [ev_argC, ev_rdS]
    refine ⟨_, rfl, ?_⟩
    rw [ev_ret]
    refine ⟨by show 3 ≤ sizeLine; decide, ?_⟩
    rw [ev_ret, e3, ev_some]
    show Ev (opt (some (D.bl (!decide (t3 = t3))))) _ _
    rw [ev_some, decide_eq_true rfl]
    refine ⟨_, rfl, ?_⟩
    rw [if_neg (by decide), evS_nx, evS_nx]
    exact ⟨.dat x, (fun _ z => nomatch z), rfl⟩
  · rintro _ ⟨s, hs, rfl⟩
    rw [evS_seq, evS_then, ev_bin2, ev_bnd, ev_argC, ev_rdS]
    refine ⟨_, rfl, ev_ret.mpr ?_⟩
    rw [e1, ev_some, ev_rdS]
    refine ⟨_, rfl, ?_⟩
    show Ev (opt (some (D.bl (decide (t = t))))) _ _
    rw [ev_some, decide_eq_true rfl]
    exact q _
/-! ### the values drawn -/
def Tx (n : Nat) (d : D) : Prop := ∃ z : Str, d = .str z ∧ z.length ≤ n ∧ ∀ c ∈ z.cps.toList, c < 128
theorem Tx.gd {n k : Nat} {d : D} (h : Tx n d) : Gd n k d := by
  obtain ⟨z, rfl, h1, h2⟩ := h
  exact Gd.str h1 fun c hc => Nat.lt_trans (h2 c hc) (by decide)
theorem cps_app (x y : Str) : (x ++ y).cps.toList = x.cps.toList ++ y.cps.toList := by
  show (x.cps ++ y.cps).toList = _
  simp
theorem len_cps (x : Str) : x.length = x.cps.toList.length := rfl
theorem join_chars : ∀ ys : List Str, (∀ y ∈ ys, ∃ c, y = ⟨#[c]⟩ ∧ c < 128) → (Str.join "" ys).length = ys.length ∧ ∀ c ∈ (Str.join "" ys).cps.toList, c < 128
  | [], _ => ⟨rfl, fun c hc => nomatch hc⟩
  | [y], h => by
    obtain ⟨c, rfl, hc⟩ := h y List.mem_cons_self
    refine ⟨rfl, fun c' hc' => ?_⟩
    have : c' ∈ [c] := hc'
    rw [List.mem_singleton] at this
    omega
  | y :: y2 :: r, h => by
    obtain ⟨h1, h2⟩ := join_chars (y2 :: r) fun x hx => h x (List.mem_cons_of_mem _ hx)
    obtain ⟨c, rfl, hc⟩ := h y List.mem_cons_self
    have e : Str.join "" (⟨#[c]⟩ :: y2 :: r) = ⟨#[c]⟩ ++ ("" : Str) ++ Str.join "" (y2 :: r) := rfl
    rw [e, len_cps, cps_app, cps_app]
    rw [len_cps] at h1
    constructor
    · simp only [List.length_append, h1]
      show 1 + 0 + _ = _
      simp only [List.length_cons]; omega
    · intro c' hc'
      rcases List.mem_append.mp hc' with hc' | hc'
      · have : c' ∈ [c] ++ [] := hc'
        simp at this
        omega
      · exact h2 c' hc'
theorem strs_of : ∀ {acc : List D}, (∀ x ∈ acc, ∃ c, x = .str ⟨#[c]⟩ ∧ c < 128) → ∃ ys, strs' acc = some ys ∧ ys.length = acc.length ∧ ∀ y ∈ ys, ∃ c, y = (⟨#[c]⟩ : Str) ∧ c < 128
  | [], _ => ⟨[], rfl, rfl, fun y hy => nomatch hy⟩
  | x :: r, h => by
    obtain ⟨ys, e, h1, h2⟩ := strs_of fun y hy => h y (List.mem_cons_of_mem _ hy)
    obtain ⟨c, rfl, hc⟩ := h x List.mem_cons_self
    refine ⟨⟨#[c]⟩ :: ys, ?_, by simp [h1], fun y hy => ?_⟩
    · simp only [strs']; rw [e]; rfl
    · rcases List.mem_cons.mp hy with rfl | hy
      · exact ⟨c, rfl, hc⟩
      · exact h2 y hy
theorem join_ok {acc : List D} (h : ∀ x ∈ acc, ∃ c, x = .str ⟨#[c]⟩ ∧ c < 128) (hl : acc.length ≤ 100) : ∃ z : Str, dJoin (.str "") (.lst acc) = some (.str z) ∧ z.length = acc.length ∧ ∀ c ∈ z.cps.toList, c < 128 := by
  obtain ⟨ys, e, h1, h2⟩ := strs_of h
  obtain ⟨g1, g2⟩ := join_chars ys h2
  have hs : (ys.map (·.length)).sum = ys.length := by
    clear e h1 g1 g2
    induction ys with
    | nil => rfl
    | cons y r ih =>
      obtain ⟨c, rfl, _⟩ := h2 y List.mem_cons_self
      rw [List.map_cons, List.sum_cons, ih fun x hx => h2 x (List.mem_cons_of_mem _ hx), List.length_cons]
      show 1 + _ = _
      omega
  refine ⟨Str.join "" ys, ?_, by omega, g2⟩
  simp only [dJoin]
  rw [e]
  have e2 : Txt.join "" ys = Str.join "" ys := StrLaws.glued_eq_join "" ys
  have e3 : ("" : Str).length = 0 := rfl
  show (if (ys.map (·.length)).sum + ys.length * ("" : Str).length ≤ 16777216 then some (D.str (Txt.join "" ys)) else none) = _
  rw [e2, e3, hs, if_pos (by omega)]
theorem cut_ok {z : Str} {lo hi : Option Int} {n : Nat} (h1 : z.length ≤ n) (h2 : ∀ c ∈ z.cps.toList, c < 128) : (cutS z lo hi).length ≤ n ∧ ∀ c ∈ (cutS z lo hi).cps.toList, c < 128 := by
  have e : (cutS z lo hi).cps.toList = (z.cps.toList.drop (HT.sIx z.length 0 lo)).take (HT.sIx z.length z.length hi - HT.sIx z.length 0 lo) := rfl
  rw [len_cps] at h1 ⊢
  rw [e]
  refine ⟨?_, fun c hc => h2 c (List.mem_of_mem_drop (List.mem_of_mem_take hc))⟩
  rw [List.length_take, List.length_drop]
  omega
theorem add_ok {x y : Str} {n m : Nat} (h1 : x.length ≤ n) (h2 : ∀ c ∈ x.cps.toList, c < 128) (h3 : y.length ≤ m) (h4 : ∀ c ∈ y.cps.toList, c < 128) (hn : n + m ≤ 1000) : dAdd (.str x) (.str y) = some (.str (x ++ y)) ∧ (x ++ y).length ≤ n + m ∧ ∀ c ∈ (x ++ y).cps.toList, c < 128 := by
  have e : sizeLine = 16777216 := rfl
  refine ⟨if_pos (by omega), ?_, ?_⟩
  · rw [len_cps] at h1 h3 ⊢
    rw [cps_app, List.length_append]
    omega
  · rw [cps_app]
    exact fun c hc => (List.mem_append.mp hc).elim (h2 c) (h4 c)
/-- one sign of a text of plain signs -/
theorem sign_ok {z : Str} {i : Int} (h0 : 0 ≤ i) (h1 : i < z.length) (hz : z.length ≤ 1000) (h2 : z.cps.toList.all (fun c => decide (c < 128)) = true) : ∃ c, dIx (.str z) (.int i) = some (.str ⟨#[c]⟩) ∧ c < 128 := by
  obtain ⟨c, e, hc⟩ := atI_lt (xs := z.cps.toList) h0 h1
  have e2 : sizeLine = 16777216 := rfl
  refine ⟨c, ?_, of_decide_eq_true (List.all_eq_true.mp h2 c hc)⟩
  show (if z.length ≤ sizeLine then (atI z.cps.toList i).map fun c => D.str ⟨#[c]⟩ else none) = _
  rw [if_pos (by omega), e]; rfl
theorem found_ok {c : D} (hc : Rng c) {N : Rho → Prop} {R : D → Rho → Prop} (q : ∀ (z : Str) c', z.length ≤ 10 → (∀ c ∈ z.cps.toList, c < 128) → Rng c' → N [.io c', .dat (.str az), .dat (.str z), .no, .no, .no]) :
    EvS (asgS 2 (strM (PD.ret (.str "")) fun a => bnd (lcD 5 (rngM (argC (callIO 0 2 (argC (PD.ret (.int 11)) (PD.ret [])) m_L_draw) (PD.ret []))) yesM (bin2 (rdS 1) (callIO 0 2 (argC (PD.ret (.int 26)) (PD.ret [])) m_L_draw) fun x y => opt (dIx x y))) fun y => opt (dJoin (.str a) y))) [.io c, .dat (.str az), .no, .no, .no, .no] N R := by
  rw [evS_asg]
  refine ev_strM (ev_ret.mpr ⟨_, rfl, ?_⟩)
  rw [ev_bnd]
  refine ev_lcInv (fun acc ρ => ∃ c s, ρ = [.io c, .dat (.str az), .no, .no, .no, s] ∧ Rng c ∧ ∀ x ∈ acc, ∃ n, x = .str ⟨#[n]⟩ ∧ n < 128) ?_
  refine ev_rng (ev_argC.mpr (ev_draw hc (by decide) (by decide) fun m c' h0 h1 hc' => ?_))
  refine ev_ret.mpr ⟨m, rfl, h0, by omega, rfl, ?_, ⟨c', _, rfl, hc', fun x hx => nomatch hx⟩, ?_, ?_⟩
  · rw [rangeD_len]; omega
  · rintro x _ acc _ _ ⟨c, s, rfl, hc, hacc⟩
    rw [ev_bin2, ev_rdS]
    refine ⟨_, rfl, ?_⟩
    refine ev_draw hc (by decide) (by decide) fun i c2 g0 g1 hc2 => ?_
    have l26 : (az.length : Int) = 26 := by decide +kernel
    obtain ⟨n, e, hn⟩ := sign_ok (z := az) g0 (by omega) (by decide +kernel) (by decide +kernel)
    rw [e, ev_some]
    refine ⟨c2, _, rfl, hc2, fun y hy => ?_⟩
    rcases List.mem_append.mp hy with hy | hy
    · exact hacc y hy
    · rw [List.mem_singleton] at hy
      exact ⟨n, hy, hn⟩
  · rintro acc _ ⟨c, s, rfl, hc, hacc⟩ hl
    rw [rangeD_len] at hl
    obtain ⟨z, e, g1, g2⟩ := join_ok hacc (by omega)
    rw [e, ev_some]
    exact ⟨⟨_, rfl, fun _ z => nomatch z⟩, q z c (by omega) g2 hc⟩
theorem L_text_ok : Drw (Tx 30) m_L_text := by
  intro c hc
  unfold m_L_text
  rw [evF_fnM]
  show EvS b_L_text [.io c, .no, .no, .no, .no, .no] _ _
  unfold b_L_text
  rw [evS_seq, evS_asg, ev_ret]
  refine ⟨⟨_, rfl, fun _ z => nomatch z⟩, ?_⟩
  rw [evS_seq]
  refine found_ok hc fun z c hz1 hz2 hc => ?_
  rw [evS_seq, evS_if, ev_asB, ev_bin2]
  refine ev_draw hc (by decide) (by decide) fun i c h0 h1 hc => ?_
  rw [ev_ret]
  show Ev (opt (some (D.bl (decide (i = 0))))) _ _
  rw [ev_some]
  refine ⟨_, rfl, ?_⟩
  suffices h : ∀ (z : Str), z.length ≤ 10 → (∀ c ∈ z.cps.toList, c < 128) → EvS _ [.io c, .dat (.str az), .dat (.str z), .no, .no, .no] _ _ by
    split
    · rw [evS_seq, evS_asg, ev_ret]
      refine ⟨⟨_, rfl, fun _ z => nomatch z⟩, ?_⟩
      rw [evS_nx]
      exact h "root" (by decide +kernel) (by decide +kernel)
    · rw [evS_nx]
      exact h z hz1 hz2
  intro z hz1 hz2
  rw [evS_seq, evS_if, ev_asB, ev_bin2]
  refine ev_draw hc (by decide) (by decide) fun j c g0 g1 hc => ?_
  rw [ev_ret]
  show Ev (opt (some (D.bl (decide (0 < j))))) _ _
  rw [ev_some]
  refine ⟨_, rfl, ?_⟩
  split
  · rw [evS_seq, evS_then, ev_rdS]
    exact ⟨_, rfl, c, rfl, hc, z, rfl, by omega, hz2⟩
  · have e0 : sizeLine = 16777216 := rfl
    have el : one dLen [.str z] = some (.int z.length) := if_pos (by omega)
    rw [evS_nx, evS_seq]
    refine evS_par ?_
    rw [ev_argC]
    refine ev_drawG hc ?_
    rw [ev_argC, ev_bin2, ev_bnd, ev_argC, ev_rdS]
    refine ⟨_, rfl, ?_⟩
    rw [ev_ret, el, ev_some, ev_ret, add_int', ev_some, ev_ret]
    refine ⟨_, c, rfl, rfl, hc, by omega, by omega, fun at_ c f0 f1 hc => ?_⟩
    rw [ev_argC, ev_bin2, ev_ret]
    refine ev_draw hc (by decide) (by decide) fun i2 c k0 k1 hc => ?_
    have l14 : ((("AZ09_- .:,\n{~/" : Str)).length : Int) = 14 := by decide +kernel
    obtain ⟨n, e, hn⟩ := sign_ok (z := "AZ09_- .:,\n{~/") k0 (by omega) (by decide +kernel) (by decide +kernel)
    rw [e, ev_some, ev_ret]
    refine ⟨_, _, rfl, ?_⟩
    rw [evS_seq, evS_set]
    refine ⟨⟨_, rfl, fun _ z => nomatch z⟩, ?_⟩
    rw [evS_set]
    refine ⟨⟨_, rfl, fun _ z => nomatch z⟩, ?_⟩
    rw [evS_seq, evS_then, ev_bin2, ev_bin2, ev_sl3, ev_rdS]
    refine ⟨_, rfl, ?_⟩
    rw [ev_ret]
    refine ev_par (ev_rdS.mpr ⟨_, rfl, _, rfl, ?_⟩)
    show Ev (opt (if z.length ≤ sizeLine then some (D.str (cutS z none (some at_))) else none)) _ _
    rw [if_pos (by omega), ev_some, ev_rdS]
    refine ⟨_, rfl, ?_⟩
    obtain ⟨c1, c2⟩ := cut_ok (lo := none) (hi := some at_) hz1 hz2
    have one_ : ∀ c ∈ (⟨#[n]⟩ : Str).cps.toList, c < 128 := fun c hc => by
      have : c ∈ [n] := hc
      rw [List.mem_singleton] at this
      omega
    obtain ⟨a1, a2, a3⟩ := add_ok (y := ⟨#[n]⟩) (m := 1) c1 c2 (Nat.le_refl 1) one_ (by decide)
    rw [a1, ev_some, ev_sl3, ev_rdS]
    refine ⟨_, rfl, ?_⟩
    refine ev_par ?_
    rw [ev_bin2, ev_rdS]
    refine ⟨_, rfl, ?_⟩
    refine ev_draw hc (by decide) (by decide) fun i3 c m0 m1 hc => ?_
    rw [add_int', ev_some]
    refine ⟨_, rfl, ?_⟩
    rw [ev_ret]
    show Ev (opt (if z.length ≤ sizeLine then some (D.str (cutS z (some (at_ + i3)) none)) else none)) _ _
    rw [if_pos (by omega), ev_some]
    obtain ⟨c3, c4⟩ := cut_ok (lo := some (at_ + i3)) (hi := none) hz1 hz2
    obtain ⟨b1, b2, b3⟩ := add_ok a2 a3 c3 c4 (by decide)
    rw [b1, ev_some]
    exact ⟨c, rfl, hc, _, rfl, by omega, b3⟩
end K11
namespace K11
open PySem PySem.Spec PyProof.Rows L2 PD
def odd1 : List D := [.non, .bl true, .bl false, .str "", .lst [], .tup [], .dic [] [], .lst [.int 0], .tup [.int 0], .dic [.int 0] [.int 0], .lst [.str "a"], .tup [.str "a"], .dic [.str "a"] [.int 1], .lst [.lst []], .tup [.tup []], .lst [.non], .int 1]
def odd2 : List D := [.str "0", .str " a", .str "a ", .tup [.str "a", .int 1], .lst [.bl true], .tup [.non], .str "a\n", .str "\n", .str "ninechars", .int 0, .int (-1), .int (10 ^ 29), .tup [.str "a", .str "b"]]
def odd3 : List D := [.tup [.str "root", .str "root"], .lst [.str "root", .str "a"], .tup [.str "root", .str "Root"], .tup [.str "a", .str "b", .str "c"], .str "root", .str "roots"]
theorem odd_ok : ((odd1 ++ odd2 ++ odd3).all (gdB 200 5)) = true := by decide +kernel
theorem ev_disp1 {k v : D} {ρ : Rho} {Q : D → Rho → Prop} (h : (dKey k).isSome = true) : Ev (disp1 (PD.ret k) (PD.ret v)) ρ Q ↔ Q (.dic [k] [v]) ρ := by
  unfold disp1
  rw [ev_bnd, ev_ret, ev_bnd, ev_ret]
  obtain ⟨x, e⟩ := Option.isSome_iff_exists.mp h
  rw [e, Option.map_some, ev_some]
theorem szl : sizeLine = 16777216 := rfl
theorem neg1 : dNeg (.int 1) = some (.int (-1)) := rfl
theorem pow29 : dPow (.int 10) (.int 29) = some (.int (10 ^ 29)) := pow_ok (by decide) (by decide) (by decide)
theorem add_lst {x y : List D} (h : x.length + y.length ≤ 1000) : dAdd (.lst x) (.lst y) = some (.lst (x ++ y)) := if_pos (by rw [szl]; omega)
theorem L_odd_ok : Drw (Gd 200 5) m_L_odd := by
  intro c hc
  unfold m_L_odd
  rw [evF_fnM]
  show EvS b_L_odd [.io c, .no] _ _
  unfold b_L_odd
  rw [evS_seq, evS_asg]
  simp only [ev_lay, ev_argC, ev_ret, ev_disp1 (k := .int 0) rfl, ev_disp1 (k := .str "a") rfl, List.length_cons, List.length_nil, szl, Nat.zero_add, Nat.reduceAdd, Nat.reduceLeDiff, Nat.zero_le, true_and]
  refine ⟨⟨_, rfl, fun _ z => nomatch z⟩, ?_⟩
  show EvS _ [.io c, .dat (.lst odd1)] _ _
  rw [evS_seq, evS_asg, ev_bin2, ev_rdS]
  refine ⟨_, rfl, ?_⟩
  simp only [ev_lay, ev_argC, ev_ret, ev_bnd, ev_bin2, neg1, pow29, ev_some, List.length_cons, List.length_nil, szl, Nat.zero_add, Nat.reduceAdd, Nat.reduceLeDiff, Nat.zero_le, true_and]
  show Ev (opt (dAdd (.lst odd1) (.lst odd2))) _ _
  rw [add_lst (by decide), ev_some]
  refine ⟨⟨_, rfl, fun _ z => nomatch z⟩, ?_⟩
  show EvS _ [.io c, .dat (.lst (odd1 ++ odd2))] _ _
  rw [evS_seq, evS_asg, ev_bin2, ev_rdS]
  refine ⟨_, rfl, ?_⟩
  simp only [ev_lay, ev_argC, ev_ret, List.length_cons, List.length_nil, szl, Nat.zero_add, Nat.reduceAdd, Nat.reduceLeDiff, Nat.zero_le, true_and]
  show Ev (opt (dAdd (.lst (odd1 ++ odd2)) (.lst odd3))) _ _
  rw [add_lst (by decide), ev_some]
  refine ⟨⟨_, rfl, fun _ z => nomatch z⟩, ?_⟩
  show EvS _ [.io c, .dat (.lst (odd1 ++ odd2 ++ odd3))] _ _
  rw [evS_seq, evS_then]
  refine ev_choice hc ?_
  rw [ev_argC, ev_rdS]
  refine ⟨_, rfl, ?_⟩
  rw [ev_ret]
  refine ⟨_, c, rfl, rfl, hc, by unfold odd1; simp, by decide, fun d c' hd hc' => ?_⟩
  exact ⟨c', rfl, hc', Gd.of (List.all_eq_true.mp odd_ok d hd)⟩
theorem L_any_ok : Drw (Gd 200 5) m_L_any := by
  intro c hc
  unfold m_L_any
  rw [evF_fnM]
  show EvS b_L_any [.io c] _ _
  unfold b_L_any
  rw [evS_seq, evS_then, ev_iteM, ev_asB, ev_bin2]
  refine ev_draw hc (by decide) (by decide) fun i c h0 h1 hc => ?_
  rw [ev_ret]
  show Ev (opt (some (D.bl (decide (i = 0))))) _ _
  rw [ev_some]
  refine ⟨_, rfl, ?_⟩
  split
  · exact ev_drw L_odd_ok hc fun d c hd hc => ⟨c, rfl, hc, hd⟩
  · exact ev_drw L_text_ok hc fun d c hd hc => ⟨c, rfl, hc, hd.gd.mono (by decide) (Nat.le_refl _)⟩
theorem L_some_ok : Drw (Gd 700 6) m_L_some := by
  intro c hc
  unfold m_L_some
  rw [evF_fnM]
  show EvS b_L_some [.io c, .no, .no] _ _
  unfold b_L_some
  rw [evS_seq, evS_asg]
  refine ev_lcInv (fun acc ρ => ∃ c s, ρ = [.io c, .no, s] ∧ Rng c ∧ ∀ x ∈ acc, Gd 200 5 x) ?_
  refine ev_rng (ev_argC.mpr ?_)
  rw [ev_bin2]
  simp only [ev_lay, ev_argC, ev_ret, List.length_cons, List.length_nil, szl, Nat.zero_add, Nat.reduceAdd, Nat.reduceLeDiff, Nat.zero_le, true_and]
  refine ev_draw hc (by decide) (by decide) fun i c h0 h1 hc => ?_
  have hi : ∃ n : Int, dIx (.lst [.int 2, .int 2, .int 2, .int 0, .int 1, .int 3]) (.int i) = some (.int n) ∧ 0 ≤ n ∧ n ≤ 3 := by
    obtain ⟨x, e, hx⟩ := atI_lt (xs := [D.int 2, .int 2, .int 2, .int 0, .int 1, .int 3]) h0 h1
    simp only [List.mem_cons, List.not_mem_nil, or_false] at hx
    rcases hx with rfl | rfl | rfl | rfl | rfl | rfl <;> exact ⟨_, e, by decide, by decide⟩
  obtain ⟨n, e, n0, n3⟩ := hi
  rw [e, ev_some]
  refine ⟨n, rfl, n0, by omega, rfl, ?_, ⟨c, _, rfl, hc, fun x hx => nomatch hx⟩, ?_, ?_⟩
  · rw [rangeD_len]; omega
  · rintro x _ acc _ _ ⟨c, s, rfl, hc, hacc⟩
    refine ev_drw L_any_ok hc fun d c hd hc => ⟨c, _, rfl, hc, fun y hy => ?_⟩
    rcases List.mem_append.mp hy with hy | hy
    · exact hacc y hy
    · rw [List.mem_singleton] at hy
      exact hy ▸ hd
  · rintro acc _ ⟨c, s, rfl, hc, hacc⟩ hl
    rw [rangeD_len] at hl
    have hl3 : acc.length ≤ 3 := by omega
    refine ⟨⟨_, rfl, fun _ z => nomatch z⟩, ?_⟩
    rw [evS_seq, evS_then, ev_iteM, ev_asB, ev_bin2]
    refine ev_draw hc (by decide) (by decide) fun i c h0 h1 hc => ?_
    rw [ev_ret]
    show Ev (opt (some (D.bl (decide (i = 0))))) _ _
    rw [ev_some]
    refine ⟨_, rfl, ?_⟩
    have hb : (200 + 1) * acc.length ≤ 700 := by omega
    split
    · rw [ev_rdS]
      exact ⟨_, rfl, c, rfl, hc, Gd.lst hacc hb⟩
    · rw [ev_bnd, ev_argC, ev_rdS]
      refine ⟨_, rfl, ?_⟩
      rw [ev_ret]
      show Ev (opt (some (D.tup acc))) _ _
      rw [ev_some]
      exact ⟨c, rfl, hc, Gd.tup hacc hb⟩
theorem all_true : ∀ {xs : List D}, (∀ x ∈ xs, x = .bl true) → dAll (.lst xs) = some (.bl true) := by
  intro xs h
  have e : xs = (List.replicate xs.length ()).map fun _ => D.bl true := by
    rw [List.map_replicate]
    exact List.eq_replicate_iff.mpr ⟨rfl, h⟩
  show (bools xs).map (fun bs => D.bl (bs.all id)) = _
  rw [e, bools_map fun _ => true, Option.map_some]
  simp
theorem L_right_ok : Drw (fun d => d = .bl true) m_L_right := by
  intro c hc
  unfold m_L_right
  rw [evF_fnM]
  show EvS b_L_right [.io c, .no, .no, .no] _ _
  unfold b_L_right
  rw [evS_seq]
  refine evS_forR (ev_argC.mpr (ev_ret.mpr (ev_ret.mpr ⟨3, rfl, by decide, by decide, ?_⟩)))
  refine evS_for (fun ρ => ∃ c s1 s2, ρ = [.io c, s1, s2, .no] ∧ Rng c ∧ (∀ d, s1 ≠ .io d) ∧ ∀ d, s2 ≠ .io d) _ _ ⟨c, .no, .no, rfl, hc, (fun _ z => nomatch z), (fun _ z => nomatch z)⟩ ?_ ?_
  · rintro x _ _ ⟨c, s1, s2, rfl, hc, h1, h2⟩
    rw [evS_seq, evS_set]
    refine ⟨⟨_, rfl, h1⟩, ?_⟩
    rw [evS_seq, evS_asg, ev_lay, ev_argC]
    refine ev_drw L_text_ok hc fun d1 c g1 hc => ?_
    rw [ev_argC]
    refine ev_drw L_odd_ok hc fun d2 c g2 hc => ?_
    rw [ev_argC]
    refine ev_drw L_some_ok hc fun d3 c g3 hc => ?_
    rw [ev_argC]
    refine ev_drw L_some_ok hc fun d4 c g4 hc => ?_
    rw [ev_argC, ev_lay, ev_argC]
    refine ev_drw L_text_ok hc fun d5 c g5 hc => ?_
    rw [ev_argC]
    refine ev_drw L_text_ok hc fun d6 c g6 hc => ?_
    rw [ev_ret]
    refine ⟨by show 2 ≤ sizeLine; decide, ?_⟩
    rw [ev_ret]
    refine ⟨by show 5 ≤ sizeLine; decide, ⟨s2, rfl, h2⟩, ?_⟩
    have ga : ∀ y ∈ [d1, d2, d3, d4, .tup [d5, d6]], Gd 1000 10 y := by
      intro y hy
      simp only [List.mem_cons, List.not_mem_nil, or_false] at hy
      rcases hy with rfl | rfl | rfl | rfl | rfl
      · exact g1.gd.mono (by decide) (Nat.le_refl _)
      · exact g2.mono (by decide) (by decide)
      · exact g3.mono (by decide) (by decide)
      · exact g4.mono (by decide) (by decide)
      · refine Gd.tup (w := 30) (k := 9) (fun z hz => ?_) (by show 31 * 2 ≤ 1000; decide)
        simp only [List.mem_cons, List.not_mem_nil, or_false] at hz
        rcases hz with rfl | rfl
        · exact g5.gd
        · exact g6.gd
    rw [evS_seq, evS_if, ev_notM, ev_asB, ev_bnd, ev_argC]
    refine ev_lcInv (fun acc ρ => ∃ s, ρ = [.io c, .dat x, .dat (.lst [d1, d2, d3, d4, .tup [d5, d6]]), s] ∧ ∀ y ∈ acc, y = .bl true) ?_
    refine ev_lst (ev_rdS.mpr ⟨_, rfl, _, rfl, rfl, by show 5 ≤ 1000000; decide, ⟨_, rfl, fun x hx => nomatch hx⟩, ?_, ?_⟩)
    · rintro y hy acc _ _ ⟨s, rfl, hacc⟩
      refine ev_callD.mpr (ev_argC.mpr (ev_rdS.mpr ⟨y, rfl, ev_ret.mpr ⟨rfl, L_is_right_ok (ga y hy) (by decide) (by decide) fun _ => ⟨_, rfl, fun z hz => ?_⟩⟩⟩))
      rcases List.mem_append.mp hz with hz | hz
      · exact hacc z hz
      · exact List.mem_singleton.mp hz
    · rintro acc _ ⟨s, rfl, hacc⟩ hl
      rw [ev_ret]
      show Ev (opt (dAll (.lst acc))) _ _
      rw [all_true hacc, ev_some]
      refine ⟨_, rfl, ?_⟩
      rw [if_neg (by decide), evS_nx, evS_nx]
      exact ⟨c, _, _, rfl, hc, (fun _ z => nomatch z), (fun _ z => nomatch z)⟩
  · rintro _ ⟨c, s1, s2, rfl, hc, h1, h2⟩
    rw [evS_seq, evS_then, ev_ret]
    exact ⟨c, rfl, hc, rfl⟩
theorem the_law (ns : List Int) (hn : ns.length ≤ 63) : ∃ ρ', m_law [.dat (.scr ns)] = .ok (.bl true) ρ' := by
  refine evF_eq ?_
  unfold m_law
  rw [evF_fnM]
  show EvS b_law [.dat (.scr ns), .no] _ _
  unfold b_law
  rw [evS_seq, evS_then, ev_bnd, ev_argC]
  refine ev_lcInv (fun acc ρ => ∃ s, ρ = [.dat (.scr ns), s] ∧ ∀ y ∈ acc, y = .bl true) ?_
  refine ev_rng ?_
  simp only [ev_argC, ev_bnd, ev_ret, ev_rdS, List.getElem?_cons_zero, Option.some.injEq, Slot.dat.injEq, exists_eq_left']
  show Ev (opt (some (D.int ns.length))) _ _
  rw [ev_some]
  simp only [dTwo, ev_some]
  refine ⟨_, rfl, ?_, ?_, rfl, ?_, ⟨_, rfl, fun x hx => nomatch hx⟩, ?_, ?_⟩
  · split <;> split <;> omega
  · split <;> split <;> omega
  · rw [rangeD_len]; split <;> split <;> omega
  · rintro x hx acc _ _ ⟨s, rfl, hacc⟩
    obtain ⟨i, rfl, hi⟩ := mem_rangeD hx
    obtain ⟨c, ρ2, e, hc⟩ := rng_ok (ns := ns) (k := i) (by omega) (by revert hi; split <;> split <;> omega)
    refine ev_callT (ev_callD.mpr ?_)
    simp only [ev_argC, ev_ret, ev_rdS]
    refine ⟨_, rfl, _, rfl, rfl, c, ρ2, e, (L_right_ok c hc).mono ?_⟩
    rintro d _ ⟨c', rfl, _, rfl⟩
    refine ⟨c', [], rfl, _, rfl, fun y hy => ?_⟩
    rcases List.mem_append.mp hy with hy | hy
    · exact hacc y hy
    · exact List.mem_singleton.mp hy
  · rintro acc _ ⟨s, rfl, hacc⟩ hl
    show Ev (opt (dAll (.lst acc))) _ _
    rw [all_true hacc, ev_some]
    rfl
end K11
open PySem PySem.W PySem.Calls PyProof.Rows
theorem PySem.Challenge.cw_movegrants_k11_names_nodes_and_places_holds : PySem.Challenge.rw_movegrants_k11_names_nodes_and_places.Holds := by
  w_on; o_law
  refine HandSHeadRun.head_any (r := K11.R0) (q := view K11.R0.prog [K11.lawi]) (H := K11.hk) (ob := PD.obS 4 K11.fa K11.fn) (M := 900) (loose := K11.loose) (d := HandSHeadRun.topDef K11.R0.prog K11.lawi) (kwd := []) PD.obS_eq
    (by kernel_rfl) (fun s => by kernel_rfl) K11.run (by kernel_rfl) (by kernel_rfl) (by kernel_rfl) (by rfl) (by first | assumption | decide +kernel) (by decide +kernel) ⟨rfl, rfl, rfl, rfl, rfl, by decide +kernel⟩ ?hw ?hc
  case hw => w_witness2
  case hc =>
    refine PD.law_end (l := PySem.Challenge.rw_movegrants_k11_names_nodes_and_places) (n := 63) (k := 7) (x := "_law_script") (m := K11.m_law) rfl (by decide) (by kernel_rfl) ⟨rfl, by decide, by decide⟩ ?F K11.the_law
    intro w mg fa h Y G hmg0
    obtain ⟨K, KX, c, sy⟩ := Y
    have hmg : mg ("law" : PySem.Str) = some (.ref fa) := by
      have e : (HandSHeadRun.topDef K11.R0.prog K11.lawi).name = ("law" : PySem.Str) := by kernel_rfl
      rw [← e]
      exact hmg0
    have T := K11.txt_of KX G c sy
    obtain ⟨f, fd, F, g⟩ := T.d_law
    rw [hmg] at g
    cases g
    refine ⟨K, fd, KX, fun s u => ?_, fun base _ _ => ?_⟩
    · exact L2.FunD.bindsA (ps := ["_law_script"]) F (fun _ _ _ _ _ _ us hl => match us, hl with | [_], _ => rfl) s [u] rfl
    · exact K11.fg_law T F
