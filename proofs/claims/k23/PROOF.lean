import PyProof.Rows.All
import Wide.All
import OpenK.AllK
import Wide.FinOn
import HandS.ForMost
import HandS.TupAny
import HandS.Flow
import HandS.IsInst
import HandS.Style
import HandS.Wide
import HandS.Deep
import PyProof.ReprRoads
import KE.KUnpackStar
import PyProof.NeKinds
import HandS.SortInts
import PyProof.ReprBulk
import PySem.Challenge.RW_jamtally_k23_what_is_a_demand
set_option Elab.async false
set_option linter.all false
set_option maxRecDepth 100000
set_option maxHeartbeats 4000000
namespace En
open PySem L2
/-! ## data -/
inductive D where
  | non | bl (b : Bool) | int (i : Int) | str (x : Str)
  | lst (ds : List D) | tup (ds : List D) | dct (kvs : List (Key × D)) | obj (c : Str) (fs : List (Str × D)) | scr (ns : List Int)
structure Cg where
  K : PySem.W.Frag
  cls : Str → Option Addr
mutual
inductive Rp (G : Cg) (F : Hp) : V → D → Prop
  | non : Rp G F .non .non
  | bl (b : Bool) : Rp G F (.bl b) (.bl b)
  | int (i : Int) : Rp G F (.int i) (.int i)
  | str (x : Str) : Rp G F (.str x) (.str x)
  | lst {a : Addr} {vs : List V} {ds : List D} : F a = some (.lst vs) → Rps G F vs ds → Rp G F (.ref a) (.lst ds)
  | tup {a : Addr} {vs : List V} {ds : List D} : SqT G.K F a vs → Rps G F vs ds → Rp G F (.ref a) (.tup ds)
  | dct {a : Addr} {kvs : List (Key × V)} {ds : List (Key × D)} : F a = some (.dK kvs) → Rpk G F kvs ds → Rp G F (.ref a) (.dct ds)
  | obj {a C dx : Addr} {fs : List (Str × V)} {c : Str} {ds : List (Str × D)} : F a = some (.ins C dx fs) → G.cls c = some C → Rpf G F fs ds → Rp G F (.ref a) (.obj c ds)
  | scr {a : Addr} {ns : List Int} : SqL G.K F a (ns.map V.int) → Rp G F (.ref a) (.scr ns)
inductive Rps (G : Cg) (F : Hp) : List V → List D → Prop
  | nil : Rps G F [] []
  | cons {v : V} {vs : List V} {d : D} {ds : List D} : Rp G F v d → Rps G F vs ds → Rps G F (v :: vs) (d :: ds)
inductive Rpk (G : Cg) (F : Hp) : List (Key × V) → List (Key × D) → Prop
  | nil : Rpk G F [] []
  | cons {k : Key} {v : V} {vs : List (Key × V)} {d : D} {ds : List (Key × D)} : Rp G F v d → Rpk G F vs ds → Rpk G F ((k, v) :: vs) ((k, d) :: ds)
inductive Rpf (G : Cg) (F : Hp) : List (Str × V) → List (Str × D) → Prop
  | nil : Rpf G F [] []
  | cons {k : Str} {v : V} {vs : List (Str × V)} {d : D} {ds : List (Str × D)} : Rp G F v d → Rpf G F vs ds → Rpf G F ((k, v) :: vs) ((k, d) :: ds)
end
def Ex (H H' : Hp) : Prop := ∀ a o, H a = some o → H' a = some o
theorem Ex.refl (H : Hp) : Ex H H := fun _ _ h => h
theorem Ex.trans {H H1 H2 : Hp} (a : Ex H H1) (b : Ex H1 H2) : Ex H H2 := fun x o h => b x o (a x o h)
theorem Ex.new {H : Hp} {p : Addr} {o : HO} (h : H p = none) : Ex H (upd H p o) := fun a u e => by
  rw [upd_ne (ne_of_none e h)]; exact e
theorem Ex.free {H H' : Hp} {p : Addr} (e : Ex H H') (h : H' p = none) : H p = none := by
  cases h1 : H p with
  | none => rfl
  | some o => rw [e p o h1] at h; cases h
theorem Ex.upd {H H' : Hp} {p : Addr} {o : HO} (e : Ex H H') : Ex (upd H p o) (upd H' p o) := fun a u h => by
  by_cases q : a = p
  · subst q; rw [upd_same] at h ⊢; exact h
  · rw [upd_ne q] at h ⊢; exact e a u h
theorem ex_rd {H H' : Hp} {a : Addr} {u : HO} (e : Ex H H') (h : Rd H a u) : Rd H' a u := by
  rcases h with h | ⟨o, h⟩
  · exact Or.inl (e a _ h)
  · exact Or.inr ⟨o, e a _ h⟩
theorem ex_l {K : PySem.W.Frag} {H H' : Hp} {a : Addr} {xs : List V} (e : Ex H H') (h : SqL K H a xs) : SqL K H' a xs := by
  rcases h with h | h
  · exact Or.inl (ex_rd e h)
  · exact Or.inr h
theorem ex_t {K : PySem.W.Frag} {H H' : Hp} {a : Addr} {xs : List V} (e : Ex H H') (h : SqT K H a xs) : SqT K H' a xs := by
  rcases h with h | h
  · exact Or.inl (ex_rd e h)
  · exact Or.inr h
mutual
theorem Rp.mono {G : Cg} {F F' : Hp} (e : Ex F F') : ∀ {v : V} {d : D}, Rp G F v d → Rp G F' v d
  | _, _, .non => .non
  | _, _, .bl b => .bl b
  | _, _, .int i => .int i
  | _, _, .str x => .str x
  | _, _, .lst h r => .lst (e _ _ h) (Rps.mono e r)
  | _, _, .tup h r => .tup (ex_t e h) (Rps.mono e r)
  | _, _, .dct h r => .dct (e _ _ h) (Rpk.mono e r)
  | _, _, .obj h c r => .obj (e _ _ h) c (Rpf.mono e r)
  | _, _, .scr h => .scr (ex_l e h)
theorem Rps.mono {G : Cg} {F F' : Hp} (e : Ex F F') : ∀ {v : List V} {d : List D}, Rps G F v d → Rps G F' v d
  | _, _, .nil => .nil
  | _, _, .cons h r => .cons (Rp.mono e h) (Rps.mono e r)
theorem Rpk.mono {G : Cg} {F F' : Hp} (e : Ex F F') : ∀ {v : List (Key × V)} {d : List (Key × D)}, Rpk G F v d → Rpk G F' v d
  | _, _, .nil => .nil
  | _, _, .cons h r => .cons (Rp.mono e h) (Rpk.mono e r)
theorem Rpf.mono {G : Cg} {F F' : Hp} (e : Ex F F') : ∀ {v : List (Str × V)} {d : List (Str × D)}, Rpf G F v d → Rpf G F' v d
  | _, _, .nil => .nil
  | _, _, .cons h r => .cons (Rp.mono e h) (Rpf.mono e r)
end
theorem Rps.length {G : Cg} {F : Hp} : ∀ {vs : List V} {ds : List D}, Rps G F vs ds → vs.length = ds.length
  | _, _, .nil => rfl
  | _, _, .cons _ r => by simp [Rps.length r]
theorem Rps.append {G : Cg} {F : Hp} : ∀ {vs ws : List V} {ds es : List D}, Rps G F vs ds → Rps G F ws es → Rps G F (vs ++ ws) (ds ++ es)
  | _, _, _, _, .nil, s => s
  | _, _, _, _, .cons h r, s => .cons h (Rps.append r s)
theorem Rps.get {G : Cg} {F : Hp} : ∀ {vs : List V} {ds : List D} {i : Nat} {d : D}, Rps G F vs ds → ds[i]? = some d → ∃ v, vs[i]? = some v ∧ Rp G F v d
  | _, _, _, _, .nil, e => by simp at e
  | _, _, 0, _, .cons r _, e => by simp at e; subst e; exact ⟨_, rfl, r⟩
  | _, _, i + 1, d, .cons _ t, e => by
    obtain ⟨u, h1, h2⟩ := Rps.get (i := i) (d := d) t (by simpa using e)
    exact ⟨u, by simpa using h1, h2⟩
theorem Rps.getV {G : Cg} {F : Hp} : ∀ {vs : List V} {ds : List D} {i : Nat} {v : V}, Rps G F vs ds → vs[i]? = some v → ∃ d, ds[i]? = some d ∧ Rp G F v d
  | _, _, _, _, .nil, e => by simp at e
  | _, _, 0, _, .cons r _, e => by simp at e; subst e; exact ⟨_, rfl, r⟩
  | _, _, i + 1, d, .cons _ t, e => by
    obtain ⟨u, h1, h2⟩ := Rps.getV (i := i) (v := d) t (by simpa using e)
    exact ⟨u, by simpa using h1, h2⟩
theorem Rps.set {G : Cg} {F : Hp} {v : V} {d : D} (h : Rp G F v d) : ∀ {vs : List V} {ds : List D} (i : Nat), Rps G F vs ds → Rps G F (vs.set i v) (ds.set i d)
  | _, _, _, .nil => .nil
  | _, _, 0, .cons _ t => .cons h t
  | _, _, i + 1, .cons q t => .cons q (Rps.set h i t)
theorem Rps.take {G : Cg} {F : Hp} : ∀ {vs : List V} {ds : List D} (n : Nat), Rps G F vs ds → Rps G F (vs.take n) (ds.take n)
  | _, _, 0, _ => by simpa using Rps.nil
  | _, _, _ + 1, .nil => .nil
  | _, _, n + 1, .cons h t => .cons h (Rps.take n t)
theorem Rps.drop {G : Cg} {F : Hp} : ∀ {vs : List V} {ds : List D} (n : Nat), Rps G F vs ds → Rps G F (vs.drop n) (ds.drop n)
  | _, _, 0, r => r
  | _, _, _ + 1, .nil => .nil
  | _, _, n + 1, .cons _ t => Rps.drop n t
/-! ## slots, the world of a body -/
/-- what a slot holds: nothing known; data; a list of this body's own; the list that the caller lent -/
inductive Sl where
  | emp | dat (d : D) | own (ds : List D) | io (ds : List D)
abbrev Env := List Sl
/-- the background of a body: the constants, the frozen heap and the heap at its entry, the lent lists by slot; X: what else must stay -/
structure Bg where
  G : Cg
  F0 : Hp
  H0 : Hp
  X : Hp
  par : List (Nat × Addr)
def SlOk (B : Bg) (F H : Hp) (i : Nat) : Option V → Sl → Prop
  | _, .emp => True
  | some v, .dat d => Rp B.G F v d
  | some v, .own ds => ∃ a vs, v = .ref a ∧ F a = none ∧ H a = some (.lst vs) ∧ Rps B.G F vs ds ∧ B.H0 a = none ∧ B.X a = none
  | some v, .io ds => ∃ a vs, v = .ref a ∧ F a = none ∧ H a = some (.lst vs) ∧ Rps B.G F vs ds ∧ (i, a) ∈ B.par ∧ B.X a = none
  | none, _ => False
def Sl.mine : Sl → Bool
  | .own _ => true
  | .io _ => true
  | _ => false
structure Wd (B : Bg) (F H : Hp) : Prop where
  sub : Ex F H
  old : ∀ a, B.H0 a ≠ none → F a = B.F0 a
  keep : ∀ a o, (∀ i, (i, a) ∉ B.par) → B.H0 a = some o → H a = some o
  pin : ∀ i a, (i, a) ∈ B.par → H a ≠ none
  ext : ∀ a o, B.X a = some o → H a = some o ∧ F a = none
structure Sta (B : Bg) (F H : Hp) (σ : L2.St) (ρ : Env) : Prop extends Wd B F H where
  ok : ∀ (i : Nat) (s : Sl), ρ[i]? = some s → SlOk B F H i (σ[i]?).join s
  dist : ∀ (i j : Nat) (s t : Sl) (a : Addr), i ≠ j → ρ[i]? = some s → ρ[j]? = some t → s.mine = true → t.mine = true → σ[i]? = some (some (V.ref a)) → σ[j]? ≠ some (some (V.ref a))
  len : σ.length = ρ.length
theorem SlOk.step {B : Bg} {F H F' H' : Hp} {i : Nat} {o : Option V} {s : Sl} (e : Ex F F') (hh : ∀ a vs, H a = some (.lst vs) → F a = none → s.mine = true → o = some (.ref a) → H' a = some (.lst vs) ∧ F' a = none) (h : SlOk B F H i o s) : SlOk B F' H' i o s := by
  cases s with
  | emp => trivial
  | dat d =>
    cases o with
    | none => exact h
    | some v => exact Rp.mono e h
  | own ds =>
    cases o with
    | none => exact h
    | some v =>
      obtain ⟨a, vs, rfl, h1, h2, h3, h4⟩ := h
      obtain ⟨q1, q2⟩ := hh a vs h2 h1 rfl rfl
      exact ⟨a, vs, rfl, q2, q1, h3.mono e, h4⟩
  | io ds =>
    cases o with
    | none => exact h
    | some v =>
      obtain ⟨a, vs, rfl, h1, h2, h3, h4⟩ := h
      obtain ⟨q1, q2⟩ := hh a vs h2 h1 rfl rfl
      exact ⟨a, vs, rfl, q2, q1, h3.mono e, h4⟩
theorem Wd.fresh {B : Bg} {F H : Hp} (W : Wd B F H) {p : Addr} (hp : H p = none) : B.H0 p = none := by
  cases h : B.H0 p with
  | none => rfl
  | some o =>
    have q : ∀ i, (i, p) ∉ B.par := fun i m => W.pin i p m hp
    rw [W.keep p o q h] at hp; cases hp
theorem Wd.new {B : Bg} {F H : Hp} {p : Addr} {o : HO} (S : Wd B F H) (hp : H p = none) : Wd B (upd F p o) (upd H p o) where
  sub := S.sub.upd
  old := fun a h => by
    have n : a ≠ p := fun q => h (by rw [q]; exact S.fresh hp)
    rw [upd_ne n]; exact S.old a h
  keep := fun a u hm h => by
    have n : a ≠ p := fun q => by rw [q, S.fresh hp] at h; cases h
    rw [upd_ne n]; exact S.keep a u hm h
  pin := fun i a m => by
    by_cases n : a = p
    · rw [n, upd_same]; exact fun z => nomatch z
    · rw [upd_ne n]; exact S.pin i a m
  ext := fun a u h => by
    have q := S.ext a u h
    have n : a ≠ p := ne_of_none q.1 hp
    rw [upd_ne n, upd_ne n]; exact q
/-- a new frozen object -/
theorem Sta.new {B : Bg} {F H : Hp} {σ : L2.St} {ρ : Env} {p : Addr} {o : HO} (S : Sta B F H σ ρ) (hp : H p = none) : Sta B (upd F p o) (upd H p o) σ ρ where
  toWd := S.toWd.new hp
  ok := fun i s h => (S.ok i s h).step (Ex.new (S.sub.free hp)) (fun a vs h1 h2 _ _ => by
    have n : a ≠ p := ne_of_none h1 hp
    rw [upd_ne n, upd_ne n]; exact ⟨h1, h2⟩)
  dist := S.dist
  len := S.len
/-! ## outcomes -/
inductive R (α : Type) where
  | ok (a : α) (ρ : Env) | err (c : Str) (fs : List (Str × D)) (ρ : Env) | bad
def R.bind {α β : Type} (r : R α) (k : α → Env → R β) : R β :=
  match r with
  | .ok a ρ => k a ρ
  | .err c fs ρ => .err c fs ρ
  | .bad => .bad
inductive O where
  | nx (ρ : Env) | rt (d : D) (ρ : Env) | bk (ρ : Env) | ct (ρ : Env) | err (c : Str) (fs : List (Str × D)) (ρ : Env) | bad
/-- what is wanted of an exception that leaves: its class, its dict, the slots, the heap -/
abbrev Wx := Value → Option Addr → L2.St → Hp → Prop
def Errs (B : Bg) (W : Wx) (F : Hp) (σ : L2.St) (c : Str) (fs : List (Str × D)) (ρ : Env) : Prop :=
  ∀ F' H' C dd vfs, Ex F F' → Sta B F' H' σ ρ → B.G.cls c = some C → F' dd = some (.xd vfs) → Rpf B.G F' vfs fs → W (.ref C) (some dd) σ H'
def Fits {α β : Type} (B : Bg) (W : Wx) (rel : Hp → β → α → Prop) (σ : L2.St) (F : Hp) (Q : β → Hp → Prop) : R α → Prop
  | .ok a ρ => ∀ v F' H', Ex F F' → Sta B F' H' σ ρ → rel F' v a → Q v H'
  | .err c fs ρ => Errs B W F σ c fs ρ
  | .bad => False
theorem Errs.mono {B : Bg} {W : Wx} {F F1 : Hp} {σ : L2.St} {c : Str} {fs : List (Str × D)} {ρ : Env} (e : Ex F F1) (h : Errs B W F σ c fs ρ) : Errs B W F1 σ c fs ρ :=
  fun F' H' C dd vfs e' => h F' H' C dd vfs (e.trans e')
theorem Fits.mono {α β : Type} {B : Bg} {W : Wx} {rel : Hp → β → α → Prop} {σ : L2.St} {F F1 : Hp} {Q : β → Hp → Prop} (e : Ex F F1) : ∀ {r : R α}, Fits B W rel σ F Q r → Fits B W rel σ F1 Q r
  | .ok _ _, h => fun v F' H' e' => h v F' H' (e.trans e')
  | .err _ _ _, h => Errs.mono e h
  | .bad, h => h
/-- the first part of two -/
theorem Fits.fst {α β α1 β1 : Type} {B : Bg} {W : Wx} {rel : Hp → β → α → Prop} {rel1 : Hp → β1 → α1 → Prop} {σ : L2.St} {F : Hp} {Q : β → Hp → Prop} {Q1 : β1 → Hp → Prop} {k : α1 → Env → R α} :
    ∀ {r : R α1}, Fits B W rel σ F Q (r.bind k) → (∀ v a ρ' F' H', Ex F F' → Sta B F' H' σ ρ' → rel1 F' v a → Fits B W rel σ F' Q (k a ρ') → Q1 v H') → Fits B W rel1 σ F Q1 r
  | .ok a ρ', h, q => fun v F' H' e S r => q v a ρ' F' H' e S r (Fits.mono e h)
  | .err _ _ _, h, _ => h
  | .bad, h, _ => h
/-- what a reading does, told on data -/
def Ev {α β : Type} (G : Cg) (W : Wx) (rel : Hp → β → α → Prop) (t : L2.St → Hp → (β → Hp → Prop) → Prop) (m : Env → R α) : Prop :=
  ∀ (B : Bg) (F H : Hp) (σ : L2.St) (ρ : Env) (Q : β → Hp → Prop), B.G = G → Sta B F H σ ρ → Fits B W rel σ F Q (m ρ) → t σ H Q
abbrev ME := Env → R D
abbrev MT := Env → R Bool
abbrev MA := Env → R (List D)
abbrev MS := Env → O
abbrev EvE (G : Cg) (W : Wx) (t : TE) (m : ME) : Prop := Ev G W (Rp G) t m
def Req (_ : Hp) (a b : Bool) : Prop := a = b
abbrev EvT (G : Cg) (W : Wx) (t : TT) (m : MT) : Prop := Ev G W Req t m
abbrev EvA (G : Cg) (W : Wx) (t : TA) (m : MA) : Prop := Ev G W (Rps G) t m
end En
namespace En
open PySem L2
/-! ## expressions -/
def lift {α : Type} (o : Option α) (ρ : Env) : R α := match o with
  | some d => .ok d ρ
  | none => .bad
theorem lift_fits {α β : Type} {B : Bg} {W : Wx} {rel : Hp → β → α → Prop} {σ : L2.St} {F H : Hp} {ρ : Env} {Q : β → Hp → Prop} (S : Sta B F H σ ρ) {o : Option α} (h : Fits B W rel σ F Q (lift o ρ)) :
    ∃ d, o = some d ∧ (∀ v, rel F v d → Q v H) ∧ (∀ p u v, H p = none → rel (upd F p u) v d → Q v (upd H p u)) := by
  cases o with
  | none => exact h.elim
  | some d => exact ⟨d, rfl, fun v r => h v F H (Ex.refl F) S r, fun p u v hp r => h v _ _ (Ex.new (S.sub.free hp)) (S.new hp) r⟩
def mVar (i : Nat) : ME := fun ρ => match ρ[i]? with
  | some (.dat d) => .ok d ρ
  | _ => .bad
def mC {α : Type} (d : α) : Env → R α := fun ρ => .ok d ρ
section
variable {G : Cg} {W : Wx}
theorem Sta.dat {B : Bg} {F H : Hp} {σ : L2.St} {ρ : Env} (S : Sta B F H σ ρ) {i : Nat} {d : D} (h : ρ[i]? = some (.dat d)) : ∃ v, σ[i]? = some (some v) ∧ Rp B.G F v d := by
  have q := S.ok i _ h
  cases e : σ[i]? with
  | none => rw [e] at q; exact q.elim
  | some o =>
    rw [e] at q
    cases o with
    | none => exact q.elim
    | some v => exact ⟨v, rfl, q⟩
theorem ev_var (i : Nat) : EvE G W (tVar i) (mVar i) := fun B F H σ ρ Q g S h => by
  unfold mVar at h
  split at h
  · rename_i d e
    obtain ⟨v, h1, h2⟩ := S.dat e
    exact ⟨v, h1, h v F H (Ex.refl F) S (g ▸ h2)⟩
  · exact h.elim
theorem ev_c {v : V} {d : D} (r : ∀ F, Rp G F v d) : EvE G W (tC v) (mC d) := fun B F H σ ρ Q g S h => h v F H (Ex.refl F) S (r F)
theorem ev_int (i : Int) : EvE G W (tC (.int i)) (mC (.int i)) := ev_c fun _ => .int i
theorem ev_str (i : Str) : EvE G W (tC (.str i)) (mC (.str i)) := ev_c fun _ => .str i
theorem ev_bl (i : Bool) : EvE G W (tC (.bl i)) (mC (.bl i)) := ev_c fun _ => .bl i
theorem ev_non : EvE G W (tC .non) (mC .non) := ev_c fun _ => .non
/-- a tuple of the module -/
theorem ev_kt {a : Addr} {vs : List V} {ds : List D} (h : SqT G.K (fun _ => none) a vs) (r : Rps G (fun _ => none) vs ds) : EvE G W (tC (.ref a)) (mC (.tup ds)) :=
  ev_c fun F => .tup (ex_t (fun _ _ e => by cases e) h) (r.mono (fun _ _ e => by cases e))
/-! two-place operations -/
def Opd (G : Cg) (W : Wx) (r : R2) (op : D → D → Env → R D) : Prop :=
  ∀ (B : Bg) (F H : Hp) (σ : L2.St) (ρ : Env) (x y : V) (dx dy : D) (Q : VK), B.G = G → Sta B F H σ ρ → Rp G F x dx → Rp G F y dy → Fits B W (Rp G) σ F Q (op dx dy ρ) → r x y H Q
def mOp (op : D → D → Env → R D) (ma mb : ME) : ME := fun ρ => (ma ρ).bind fun a ρ1 => (mb ρ1).bind fun b ρ2 => op a b ρ2
theorem ev_op {r : R2} {op : D → D → Env → R D} {ta tb : TE} {ma mb : ME} (ho : Opd G W r op) (ha : EvE G W ta ma) (hb : EvE G W tb mb) : EvE G W (tOp r ta tb) (mOp op ma mb) :=
  fun B F H σ ρ Q g S h => ha B F H σ ρ _ g S (h.fst fun v a ρ1 F1 H1 e1 S1 r1 h1 => hb B F1 H1 σ ρ1 _ g S1 (h1.fst fun u b ρ2 F2 H2 e2 S2 r2 h2 => ho B F2 H2 σ ρ2 v u a b Q g S2 (r1.mono e2) r2 h2))
/-- operations that make nothing or one new thing -/
def pur (f : D → D → Option D) (a b : D) (ρ : Env) : R D := lift (f a b) ρ
theorem Opd.or {r1 r2 : R2} {op : D → D → Env → R D} (h : ∀ (B : Bg) (F H : Hp) (σ : L2.St) (ρ : Env) (x y : V) (dx dy : D) (Q : VK), B.G = G → Sta B F H σ ρ → Rp G F x dx → Rp G F y dy → Fits B W (Rp G) σ F Q (op dx dy ρ) → r1 x y H Q ∨ r2 x y H Q) :
    Opd G W (fun x y H Q => r1 x y H Q ∨ r2 x y H Q) op := h
def rOr (r1 r2 : R2) : R2 := fun x y H Q => r1 x y H Q ∨ r2 x y H Q
theorem op_or2 {X : Cx} {f : Value → Value → Sem Value} {r1 r2 : R2} (h1 : OpR X f r1) (h2 : OpR X f r2) : OpR X f (rOr r1 r2) := by
  intro pins s σ H x y v u Q I rx ry h
  rcases h with h | h
  · exact h1 pins s σ H x y v u Q I rx ry h
  · exact h2 pins s σ H x y v u Q I rx ry h
theorem Rp.int_inv {F : Hp} {v : V} {i : Int} (h : Rp G F v (.int i)) : v = .int i := by cases h; rfl
theorem Rp.str_inv {F : Hp} {v : V} {i : Str} (h : Rp G F v (.str i)) : v = .str i := by cases h; rfl
theorem Rp.bl_inv {F : Hp} {v : V} {i : Bool} (h : Rp G F v (.bl i)) : v = .bl i := by cases h; rfl
theorem Rp.non_inv {F : Hp} {v : V} (h : Rp G F v .non) : v = .non := by cases h; rfl
theorem Rp.lst_inv {F : Hp} {v : V} {ds : List D} (h : Rp G F v (.lst ds)) : ∃ a vs, v = .ref a ∧ F a = some (.lst vs) ∧ Rps G F vs ds := by cases h; exact ⟨_, _, rfl, by assumption, by assumption⟩
theorem Rp.tup_inv {F : Hp} {v : V} {ds : List D} (h : Rp G F v (.tup ds)) : ∃ a vs, v = .ref a ∧ SqT G.K F a vs ∧ Rps G F vs ds := by cases h; exact ⟨_, _, rfl, by assumption, by assumption⟩
/-- integers -/
def dI (C : Int → Int → Bool) (g : Int → Int → D) (a b : D) : Option D := match a, b with
  | .int i, .int j => if C i j then some (g i j) else none
  | _, _ => none
theorem opd_I {C : Int → Int → Prop} {c : Int → Int → Bool} {g : Int → Int → V} {gd : Int → Int → D} (hc : ∀ i j, c i j = true → C i j) (hg : ∀ F i j, Rp G F (g i j) (gd i j)) : Opd G W (rI C g) (pur (dI c gd)) :=
  fun B F H σ ρ x y dx dy Q gg S rx ry h => by
    unfold pur at h
    obtain ⟨d, e, q, _⟩ := lift_fits S h
    unfold dI at e
    split at e
    · rename_i i j
      split at e
      · rename_i hh
        cases e
        exact ⟨i, j, rx.int_inv, ry.int_inv, hc i j hh, q _ (hg F i j)⟩
      · cases e
    · cases e
theorem opd_I0 {g : Int → Int → V} {gd : Int → Int → D} (hg : ∀ F i j, Rp G F (g i j) (gd i j)) : Opd G W (rI0 g) (pur (dI (fun _ _ => true) gd)) :=
  fun B F H σ ρ x y dx dy Q gg S rx ry h => by
    obtain ⟨i, j, e1, e2, _, q⟩ := opd_I (C := fun _ _ => True) (c := fun _ _ => true) (fun _ _ _ => trivial) hg B F H σ ρ x y dx dy Q gg S rx ry h
    exact ⟨i, j, e1, e2, q⟩
def dSub := dI (fun _ _ => true) fun i j => .int (i - j)
def smallB (i : Int) : Bool := decide (-(2 ^ 64) < i) && decide (i < 2 ^ 64)
def dMul := dI (fun i j => smallB i || smallB j) fun i j => .int (i * j)
def dFdiv := dI (fun _ j => decide (j ≠ 0) && decide (j.natAbs < 1073741824)) fun i j => .int (i.fdiv j)
def dMod := dI (fun _ j => decide (j ≠ 0)) fun i j => .int (i.fmod j)
def dPow := dI (fun i j => decide (0 ≤ j) && decide (j ≤ 1000000) && decide (i.natAbs < 2 ^ 64)) fun i j => .int (i ^ j.toNat)
theorem od_sub : Opd G W (rI0 fun i j => .int (i - j)) (pur dSub) := opd_I0 fun _ _ _ => .int _
theorem od_mul : Opd G W (rI CMul fun i j => .int (i * j)) (pur dMul) := opd_I (fun i j h => by
  unfold CMul; unfold smallB at h; simpa using h) fun _ _ _ => .int _
theorem od_fdiv : Opd G W (rI CDivN fun i j => .int (i.fdiv j)) (pur dFdiv) := opd_I (fun i j h => by unfold CDivN; simpa using h) fun _ _ _ => .int _
theorem od_mod : Opd G W (rI (fun _ j => j ≠ 0) fun i j => .int (i.fmod j)) (pur dMod) := opd_I (fun i j h => by simpa using h) fun _ _ _ => .int _
theorem od_pow : Opd G W (rI CPow fun i j => .int (i ^ j.toNat)) (pur dPow) := opd_I (fun i j h => by unfold CPow; simpa [and_assoc] using h) fun _ _ _ => .int _
/-- + -/
def rAddS : R2 := fun x y H Q => ∃ i j, x = .str i ∧ y = .str j ∧ i.length + j.length ≤ sizeLine ∧ Q (.str (i ++ j)) H
def rAddAny (K : PySem.W.Frag) : R2 := rOr (rI0 fun i j => .int (i + j)) (rOr rAddS (rOr rCat (rCatA K)))
def dAdd (a b : D) : Option D := match a, b with
  | .int i, .int j => some (.int (i + j))
  | .str i, .str j => if i.length + j.length ≤ sizeLine then some (.str (i ++ j)) else none
  | .lst i, .lst j => if i.length + j.length ≤ sizeLine then some (.lst (i ++ j)) else none
  | .tup i, .tup j => if i.length + j.length ≤ sizeLine then some (.tup (i ++ j)) else none
  | _, _ => none
theorem od_add : Opd G W (rAddAny G.K) (pur dAdd) := fun B F H σ ρ x y dx dy Q gg S rx ry h => by
  unfold pur at h
  obtain ⟨d, e, q, qn⟩ := lift_fits S h
  unfold dAdd at e
  split at e
  · cases e
    exact .inl ⟨_, _, rx.int_inv, ry.int_inv, q _ (.int _)⟩
  · split at e
    · cases e
      exact .inr (.inl ⟨_, _, rx.str_inv, ry.str_inv, by assumption, q _ (.str _)⟩)
    · cases e
  · split at e
    · rename_i hl
      cases e
      obtain ⟨a, vs, rfl, ha, ra⟩ := rx.lst_inv
      obtain ⟨b, ws, rfl, hb, rb⟩ := ry.lst_inv
      refine .inr (.inr (.inl ⟨a, b, vs, ws, rfl, rfl, S.sub _ _ ha, S.sub _ _ hb, by rw [ra.length, rb.length]; exact hl, fun p hp => qn p _ _ hp ?_⟩))
      exact .lst upd_same ((ra.append rb).mono (Ex.new (S.sub.free hp)))
    · cases e
  · split at e
    · rename_i hl
      cases e
      obtain ⟨a, vs, rfl, ha, ra⟩ := rx.tup_inv
      obtain ⟨b, ws, rfl, hb, rb⟩ := ry.tup_inv
      refine .inr (.inr (.inr ⟨a, b, vs, ws, rfl, rfl, ex_t S.sub ha, ex_t S.sub hb, by rw [ra.length, rb.length]; exact hl, fun z => ?_, fun z1 z2 => ?_, fun z1 z2 p hp => qn p _ _ hp ?_⟩))
      · subst z
        cases ra
        exact q _ (.tup hb rb)
      · subst z2
        cases rb
        rw [List.append_nil] at q
        exact q _ (.tup ha ra)
      · exact .tup (SqT.of upd_same) ((ra.append rb).mono (Ex.new (S.sub.free hp)))
    · cases e
  · cases e
theorem op_addAny {X : Cx} : OpR X (binaryOp .Add) (rAddAny X.K) := op_or2 op_add (op_or2 op_add_str (op_or2 op_cat op_catA))
/-- -a -/
def mUn (f : D → Option D) (ma : ME) : ME := fun ρ => (ma ρ).bind fun a ρ1 => lift (f a) ρ1
def dNeg : D → Option D
  | .int i => some (.int (-i))
  | _ => none
theorem ev_neg {ta : TE} {ma : ME} (ha : EvE G W ta ma) : EvE G W (tUn (rU fun i => .int (-i)) ta) (mUn dNeg ma) := fun B F H σ ρ Q g S h =>
  ha B F H σ ρ _ g S (h.fst fun v a ρ1 F1 H1 e1 S1 r1 h1 => by
    obtain ⟨d, e, q, _⟩ := lift_fits S1 h1
    unfold dNeg at e
    split at e
    · cases e
      exact ⟨_, r1.int_inv, q _ (.int _)⟩
    · cases e)
/-! ## comparisons -/
mutual
def toPy : D → Option PyData
  | .non => some .none
  | .bl b => some (.bool b)
  | .int i => some (.int i)
  | .str x => some (.str x)
  | .lst ds => (toPys ds).map .list
  | .tup ds => (toPys ds).map .tuple
  | .dct _ => none
  | .obj _ _ => none
  | .scr _ => none
def toPys : List D → Option (List PyData)
  | [] => some []
  | d :: ds => match toPy d, toPys ds with
    | some p, some ps => some (p :: ps)
    | _, _ => none
end
mutual
theorem Rp.dp {F H : Hp} (e : Ex F H) : ∀ {v : V} {d : D} {p : PyData}, Rp G F v d → toPy d = some p → Dp G.K H v p
  | _, _, _, .non, h => by simp only [toPy, Option.some.injEq] at h; subst h; exact .non
  | _, _, _, .bl b, h => by simp only [toPy, Option.some.injEq] at h; subst h; exact .bl b
  | _, _, _, .int b, h => by simp only [toPy, Option.some.injEq] at h; subst h; exact .int b
  | _, _, _, .str b, h => by simp only [toPy, Option.some.injEq] at h; subst h; exact .str b
  | _, _, _, .lst (ds := ds) h1 r, h => by
    simp only [toPy, Option.map_eq_some_iff] at h
    obtain ⟨ps, h2, rfl⟩ := h
    exact .lst (SqL.of (e _ _ h1)) (Rps.dp e r h2)
  | _, _, _, .tup (ds := ds) h1 r, h => by
    simp only [toPy, Option.map_eq_some_iff] at h
    obtain ⟨ps, h2, rfl⟩ := h
    exact .tup (ex_t e h1) (Rps.dp e r h2)
  | _, _, _, .dct _ _, h => by simp [toPy] at h
  | _, _, _, .obj _ _ _, h => by simp [toPy] at h
  | _, _, _, .scr _, h => by simp [toPy] at h
theorem Rps.dp {F H : Hp} (e : Ex F H) : ∀ {v : List V} {d : List D} {p : List PyData}, Rps G F v d → toPys d = some p → DpAll G.K H v p
  | _, _, _, .nil, h => by simp only [toPys, Option.some.injEq] at h; subst h; exact .nil
  | _, _, _, .cons (d := d) (ds := ds) r rs, h => by
    simp only [toPys] at h
    split at h
    · rename_i p ps h1 h2
      cases h
      exact .cons (Rp.dp e r h1) (Rps.dp e rs h2)
    · cases h
end
def dEqB (a b : D) : Option Bool := match toPy a, toPy b with
  | some p, some q => if SeqAt.shaped p && SeqAt.shaped q then some (PyData.eqv p q) else none
  | _, _ => none
def dEq (a b : D) : Option D := (dEqB a b).map .bl
def dNe (a b : D) : Option D := (dEqB a b).map fun c => .bl (!c)
theorem dEqB_inv {a b : D} {c : Bool} (h : dEqB a b = some c) : ∃ p q, toPy a = some p ∧ toPy b = some q ∧ SeqAt.shaped p = true ∧ SeqAt.shaped q = true ∧ c = PyData.eqv p q := by
  unfold dEqB at h
  split at h
  · rename_i p q h1 h2
    split at h
    · rename_i h3
      rw [Bool.and_eq_true] at h3
      cases h
      exact ⟨p, q, h1, h2, h3.1, h3.2, rfl⟩
    · cases h
  · cases h
theorem od_eq : Opd G W (rEqD G.K) (pur dEq) := fun B F H σ ρ x y dx dy Q gg S rx ry h => by
  unfold pur at h
  obtain ⟨d, e, q, qn⟩ := lift_fits S h
  unfold dEq at e
  rw [Option.map_eq_some_iff] at e
  obtain ⟨c, e, rfl⟩ := e
  obtain ⟨p, p', h1, h2, h3, h4, rfl⟩ := dEqB_inv e
  exact ⟨p, p', rx.dp S.sub h1, ry.dp S.sub h2, h3, h4, q _ (.bl _)⟩
theorem od_ne : Opd G W (rNeD G.K) (pur dNe) := fun B F H σ ρ x y dx dy Q gg S rx ry h => by
  unfold pur at h
  obtain ⟨d, e, q, qn⟩ := lift_fits S h
  unfold dNe at e
  rw [Option.map_eq_some_iff] at e
  obtain ⟨c, e, rfl⟩ := e
  obtain ⟨p, p', h1, h2, h3, h4, rfl⟩ := dEqB_inv e
  exact ⟨p, p', rx.dp S.sub h1, ry.dp S.sub h2, h3, h4, q _ (.bl _)⟩
end
end En
namespace En
open PySem L2
section
variable {G : Cg} {W : Wx}
/-! order -/
def rS (g : Str → Str → V) : R2 := fun x y H Q => ∃ i j, x = .str i ∧ y = .str j ∧ Q (g i j) H
def dOrd (gi : Int → Int → Bool) (gs : Str → Str → Bool) (a b : D) : Option D := match a, b with
  | .int i, .int j => some (.bl (gi i j))
  | .str i, .str j => some (.bl (gs i j))
  | _, _ => none
theorem od_ord {gi : Int → Int → Bool} {gs : Str → Str → Bool} : Opd G W (rOr (rI0 fun i j => .bl (gi i j)) (rS fun i j => .bl (gs i j))) (pur (dOrd gi gs)) := fun B F H σ ρ x y dx dy Q gg S rx ry h => by
  unfold pur at h
  obtain ⟨d, e, q, qn⟩ := lift_fits S h
  unfold dOrd at e
  split at e
  · cases e
    exact .inl ⟨_, _, rx.int_inv, ry.int_inv, q _ (.bl _)⟩
  · cases e
    exact .inr ⟨_, _, rx.str_inv, ry.str_inv, q _ (.bl _)⟩
  · cases e
def ltS (i j : Str) : Bool := decide (i.cps.toList < j.cps.toList)
def rLt : R2 := rOr (rI0 fun i j => .bl (decide (i < j))) (rS fun i j => .bl (ltS i j))
def rLe : R2 := rOr (rI0 fun i j => .bl (decide (i ≤ j))) (rS fun i j => .bl (!ltS j i))
def rGt : R2 := rOr (rI0 fun i j => .bl (decide (j < i))) (rS fun i j => .bl (ltS j i))
def rGe : R2 := rOr (rI0 fun i j => .bl (decide (j ≤ i))) (rS fun i j => .bl (!ltS i j))
def dLt := dOrd (fun i j => decide (i < j)) ltS
def dLe := dOrd (fun i j => decide (i ≤ j)) fun i j => !ltS j i
def dGt := dOrd (fun i j => decide (j < i)) fun i j => ltS j i
def dGe := dOrd (fun i j => decide (j ≤ i)) fun i j => !ltS i j
theorem od_lt : Opd G W rLt (pur dLt) := od_ord
theorem od_le : Opd G W rLe (pur dLe) := od_ord
theorem od_gt : Opd G W rGt (pur dGt) := od_ord
theorem od_ge : Opd G W rGe (pur dGe) := od_ord
theorem op_ltA {X : Cx} : OpR X (compareOp .Lt) rLt := op_or2 op_lt op_lt_str
theorem op_leA {X : Cx} : OpR X (compareOp .LtE) rLe := op_or2 op_le op_le_str
theorem op_gtA {X : Cx} : OpR X (compareOp .Gt) rGt := op_or2 op_gt op_gt_str
theorem op_geA {X : Cx} : OpR X (compareOp .GtE) rGe := op_or2 op_ge op_ge_str
/-! is -/
def D.isNon : D → Bool
  | .non => true
  | _ => false
def dIsN (a b : D) : Option D := match b with
  | .non => some (.bl a.isNon)
  | .bl j => match a with
    | .bl i => some (.bl (decide (i = j)))
    | _ => none
  | _ => none
def dIsNot (a b : D) : Option D := match b with
  | .non => some (.bl (!a.isNon))
  | .bl j => match a with
    | .bl i => some (.bl (!decide (i = j)))
    | _ => none
  | _ => none
def rIs : R2 := rOr (fun x y H Q => y = .non ∧ Q (.bl (decide (x = .non))) H) rIsB
def rIsNot : R2 := rOr (fun x y H Q => y = .non ∧ Q (.bl (!decide (x = .non))) H) rNotB
theorem Rp.isN {F : Hp} {v : V} {d : D} (h : Rp G F v d) : decide (v = .non) = d.isNon := by
  cases h <;> rfl
theorem od_is : Opd G W rIs (pur dIsN) := fun B F H σ ρ x y dx dy Q gg S rx ry h => by
  unfold pur at h
  obtain ⟨d, e, q, qn⟩ := lift_fits S h
  unfold dIsN at e
  split at e
  · cases e
    refine .inl ⟨ry.non_inv, ?_⟩
    rw [rx.isN]; exact q _ (.bl _)
  · split at e
    · cases e
      exact .inr ⟨_, _, rx.bl_inv, ry.bl_inv, q _ (.bl _)⟩
    · cases e
  · cases e
theorem od_isnot : Opd G W rIsNot (pur dIsNot) := fun B F H σ ρ x y dx dy Q gg S rx ry h => by
  unfold pur at h
  obtain ⟨d, e, q, qn⟩ := lift_fits S h
  unfold dIsNot at e
  split at e
  · cases e
    refine .inl ⟨ry.non_inv, ?_⟩
    rw [rx.isN]
    exact q _ (.bl _)
  · split at e
    · cases e
      exact .inr ⟨_, _, rx.bl_inv, ry.bl_inv, q _ (.bl _)⟩
    · cases e
  · cases e
theorem op_isA {X : Cx} : OpR X (compareOp .Is) rIs := op_or2 op_isN op_isBl
theorem op_isnotA {X : Cx} : OpR X (compareOp .IsNot) rIsNot := op_or2 op_notN op_notBl
/-! truth -/
def dTru : D → Option Bool
  | .non => some false
  | .bl b => some b
  | .int i => some (i != 0)
  | .str y => if y.length ≤ sizeLine then some ((y.length : Int) != 0) else none
  | .lst ds => some (!ds.isEmpty)
  | .tup ds => some (!ds.isEmpty)
  | .dct ds => some (!ds.isEmpty)
  | .obj _ _ => none
  | .scr _ => none
theorem Rps.isEmpty {F : Hp} {vs : List V} {ds : List D} (h : Rps G F vs ds) : vs.isEmpty = ds.isEmpty := by cases h <;> rfl
theorem Rpk.isEmpty {F : Hp} {vs : List (Key × V)} {ds : List (Key × D)} (h : Rpk G F vs ds) : vs.isEmpty = ds.isEmpty := by cases h <;> rfl
theorem Rp.tru {F H : Hp} {v : V} {d : D} {k : Bool} (e : Ex F H) (h : Rp G F v d) (hk : dTru d = some k) : TruV G.K v H k := by
  cases h with
  | non => cases hk; rfl
  | bl b => cases hk; rfl
  | int i => cases hk; rfl
  | str x =>
    simp only [dTru] at hk
    split at hk
    · cases hk; exact ⟨by assumption, rfl⟩
    · cases hk
  | lst h1 r => cases hk; exact .inl ⟨_, SqL.of (e _ _ h1), by rw [r.isEmpty]⟩
  | tup h1 r => cases hk; exact .inr (.inl ⟨_, ex_t e h1, by rw [r.isEmpty]⟩)
  | dct h1 r => cases hk; exact .inr (.inr ⟨_, e _ _ h1, by rw [r.isEmpty]⟩)
  | obj => cases hk
  | scr => cases hk
def mTru (ma : ME) : MT := fun ρ => (ma ρ).bind fun a ρ1 => lift (dTru a) ρ1
theorem et_truth {ta : TE} {ma : ME} (ha : EvE G W ta ma) : EvT G W (fun σ H Q => ta σ H fun x H1 => ∃ k, TruV G.K x H1 k ∧ Q k H1) (mTru ma) := fun B F H σ ρ Q g S h =>
  ha B F H σ ρ _ g S (h.fst fun v a ρ1 F1 H1 e1 S1 r1 h1 => by
    obtain ⟨d, e, q, _⟩ := lift_fits S1 h1
    exact ⟨d, r1.tru S1.sub e, q d rfl⟩)
/-- a test by an expression that gives a bool -/
def mTB (ma : ME) : MT := fun ρ => (ma ρ).bind fun a ρ1 => match a with
  | .bl b => .ok b ρ1
  | _ => .bad
theorem et_B {ta : TE} {ma : ME} (ha : EvE G W ta ma) : EvT G W (tTest ta) (mTB ma) := fun B F H σ ρ Q g S h =>
  ha B F H σ ρ _ g S (h.fst fun v a ρ1 F1 H1 e1 S1 r1 h1 => by
    split at h1
    · exact ⟨_, r1.bl_inv, h1 _ _ _ (Ex.refl _) S1 rfl⟩
    · exact h1.elim)
def mAnd (ma mb : MT) : MT := fun ρ => (ma ρ).bind fun a ρ1 => if a then mb ρ1 else .ok false ρ1
def mOr (ma mb : MT) : MT := fun ρ => (ma ρ).bind fun a ρ1 => if a then .ok true ρ1 else mb ρ1
def mNot (ma : MT) : MT := fun ρ => (ma ρ).bind fun a ρ1 => .ok (!a) ρ1
theorem et_and {ta tb : TT} {ma mb : MT} (ha : EvT G W ta ma) (hb : EvT G W tb mb) : EvT G W (tAnd ta tb) (mAnd ma mb) := fun B F H σ ρ Q g S h =>
  ha B F H σ ρ _ g S (h.fst fun v a ρ1 F1 H1 e1 S1 r1 h1 => by
    cases (show v = a from r1)
    cases v with
    | true => exact hb B F1 H1 σ ρ1 Q g S1 h1
    | false => exact h1 _ _ _ (Ex.refl _) S1 rfl)
theorem et_or {ta tb : TT} {ma mb : MT} (ha : EvT G W ta ma) (hb : EvT G W tb mb) : EvT G W (tOr ta tb) (mOr ma mb) := fun B F H σ ρ Q g S h =>
  ha B F H σ ρ _ g S (h.fst fun v a ρ1 F1 H1 e1 S1 r1 h1 => by
    cases (show v = a from r1)
    cases v with
    | false => exact hb B F1 H1 σ ρ1 Q g S1 h1
    | true => exact h1 _ _ _ (Ex.refl _) S1 rfl)
theorem et_not {ta : TT} {ma : MT} (ha : EvT G W ta ma) : EvT G W (tNot ta) (mNot ma) := fun B F H σ ρ Q g S h =>
  ha B F H σ ρ _ g S (h.fst fun v a ρ1 F1 H1 e1 S1 r1 h1 => by
    cases (show v = a from r1)
    exact h1 _ _ _ (Ex.refl _) S1 rfl)
/-- and, or, not as values -/
def mAndV (ma mb : ME) : ME := fun ρ => (ma ρ).bind fun a ρ1 => (lift (dTru a) ρ1).bind fun k ρ2 => if k then mb ρ2 else .ok a ρ2
def mOrV (ma mb : ME) : ME := fun ρ => (ma ρ).bind fun a ρ1 => (lift (dTru a) ρ1).bind fun k ρ2 => if k then .ok a ρ2 else mb ρ2
def mNotV (ma : ME) : ME := fun ρ => (ma ρ).bind fun a ρ1 => (lift (dTru a) ρ1).bind fun k ρ2 => .ok (.bl (!k)) ρ2
theorem ev_andV {ta tb : TE} {ma mb : ME} (ha : EvE G W ta ma) (hb : EvE G W tb mb) : EvE G W (tAndT G.K ta tb) (mAndV ma mb) := fun B F H σ ρ Q g S h =>
  ha B F H σ ρ _ g S (h.fst fun v a ρ1 F1 H1 e1 S1 r1 h1 => by
    cases e : dTru a with
    | none => rw [e] at h1; exact h1.elim
    | some k =>
      rw [e] at h1
      refine ⟨k, r1.tru S1.sub e, ?_⟩
      cases k with
      | true => exact hb B F1 H1 σ ρ1 Q g S1 h1
      | false => exact h1 _ _ _ (Ex.refl _) S1 r1)
theorem ev_orV {ta tb : TE} {ma mb : ME} (ha : EvE G W ta ma) (hb : EvE G W tb mb) : EvE G W (tOrT G.K ta tb) (mOrV ma mb) := fun B F H σ ρ Q g S h =>
  ha B F H σ ρ _ g S (h.fst fun v a ρ1 F1 H1 e1 S1 r1 h1 => by
    cases e : dTru a with
    | none => rw [e] at h1; exact h1.elim
    | some k =>
      rw [e] at h1
      refine ⟨k, r1.tru S1.sub e, ?_⟩
      cases k with
      | false => exact hb B F1 H1 σ ρ1 Q g S1 h1
      | true => exact h1 _ _ _ (Ex.refl _) S1 r1)
theorem ev_notV {ta : TE} {ma : ME} (ha : EvE G W ta ma) : EvE G W (tNotT G.K ta) (mNotV ma) := fun B F H σ ρ Q g S h =>
  ha B F H σ ρ _ g S (h.fst fun v a ρ1 F1 H1 e1 S1 r1 h1 => by
    cases e : dTru a with
    | none => rw [e] at h1; exact h1.elim
    | some k =>
      rw [e] at h1
      exact ⟨k, r1.tru S1.sub e, h1 _ _ _ (Ex.refl _) S1 (.bl _)⟩)
/-- a if t else b -/
def mIfE (mt : MT) (ma mb : ME) : ME := fun ρ => (mt ρ).bind fun c ρ1 => if c then ma ρ1 else mb ρ1
theorem ev_if {tt : TT} {ta tb : TE} {mt : MT} {ma mb : ME} (ht : EvT G W tt mt) (ha : EvE G W ta ma) (hb : EvE G W tb mb) : EvE G W (tIf tt ta tb) (mIfE mt ma mb) := fun B F H σ ρ Q g S h =>
  ht B F H σ ρ _ g S (h.fst fun v a ρ1 F1 H1 e1 S1 r1 h1 => by
    cases (show v = a from r1)
    cases v with
    | true => exact ha B F1 H1 σ ρ1 Q g S1 h1
    | false => exact hb B F1 H1 σ ρ1 Q g S1 h1)
/-- a < b < c -/
def mChain (op op' : D → D → Env → R D) (ma mb mc : ME) : ME := fun ρ => (ma ρ).bind fun a ρ1 => (mb ρ1).bind fun b ρ2 => (op a b ρ2).bind fun z ρ3 => match z with
  | .bl true => (mc ρ3).bind fun c ρ4 => op' b c ρ4
  | .bl false => .ok (.bl false) ρ3
  | _ => .bad
theorem ev_chain {r r' : R2} {op op' : D → D → Env → R D} {ta tb tc : TE} {ma mb mc : ME} (ho : Opd G W r op) (ho' : Opd G W r' op') (ha : EvE G W ta ma) (hb : EvE G W tb mb) (hc : EvE G W tc mc) :
    EvE G W (tChain r r' ta tb tc) (mChain op op' ma mb mc) := fun B F H σ ρ Q g S h =>
  ha B F H σ ρ _ g S (h.fst fun v a ρ1 F1 H1 e1 S1 r1 h1 => hb B F1 H1 σ ρ1 _ g S1 (h1.fst fun u b ρ2 F2 H2 e2 S2 r2 h2 =>
    ho B F2 H2 σ ρ2 v u a b _ g S2 (r1.mono e2) r2 (h2.fst fun z dz ρ3 F3 H3 e3 S3 r3 h3 => by
      split at h3
      · refine ⟨true, r3.bl_inv, ?_⟩
        exact hc B F3 H3 σ ρ3 _ g S3 (h3.fst fun w c ρ4 F4 H4 e4 S4 r4 h4 => ho' B F4 H4 σ ρ4 u w b c Q g S4 ((r2.mono e3).mono e4) r4 h4)
      · exact ⟨false, r3.bl_inv, h3 _ _ _ (Ex.refl _) S3 (.bl _)⟩
      · exact h3.elim)))
/-! subscripts -/
theorem Rps.atI {F : Hp} {vs : List V} {ds : List D} {i : Int} {d : D} (h : Rps G F vs ds) (e : atI ds i = some d) : ∃ v, L2.atI vs i = some v ∧ Rp G F v d := by
  unfold L2.atI at e ⊢
  rw [h.length]
  cases q : ixN ds.length i with
  | none => rw [q] at e; cases e
  | some j =>
    rw [q] at e
    exact h.get e
def dIx (a b : D) : Option D := match a, b with
  | .lst ds, .int i => atI ds i
  | .tup ds, .int i => atI ds i
  | .str z, .int i => if z.length ≤ sizeLine then (atI z.cps.toList i).map fun c => .str ⟨#[c]⟩ else none
  | _, _ => none
theorem od_ix : Opd G W (rIx G.K) (pur dIx) := fun B F H σ ρ x y dx dy Q gg S rx ry h => by
  unfold pur at h
  obtain ⟨d, e, q, qn⟩ := lift_fits S h
  unfold dIx at e
  split at e
  · obtain ⟨a, vs, rfl, ha, ra⟩ := rx.lst_inv
    obtain ⟨v, h1, h2⟩ := ra.atI e
    exact .inl ⟨a, vs, _, v, rfl, ry.int_inv, SqL.of (S.sub _ _ ha), h1, q v h2⟩
  · obtain ⟨a, vs, rfl, ha, ra⟩ := rx.tup_inv
    obtain ⟨v, h1, h2⟩ := ra.atI e
    exact .inr (.inl ⟨a, vs, _, v, rfl, ry.int_inv, ex_t S.sub ha, h1, q v h2⟩)
  · split at e
    · rw [Option.map_eq_some_iff] at e
      obtain ⟨c, e, rfl⟩ := e
      exact .inr (.inr ⟨_, _, c, rx.str_inv, ry.int_inv, by assumption, e, q _ (.str _)⟩)
    · cases e
  · cases e
/-- an item of a list of one's own, or of the lent one -/
theorem Sta.mine {B : Bg} {F H : Hp} {σ : L2.St} {ρ : Env} (S : Sta B F H σ ρ) {i : Nat} {s : Sl} {ds : List D} (h : ρ[i]? = some s) (hs : s = .own ds ∨ s = .io ds) :
    ∃ a vs, σ[i]? = some (some (.ref a)) ∧ F a = none ∧ H a = some (.lst vs) ∧ Rps B.G F vs ds ∧ B.X a = none := by
  have q := S.ok i _ h
  rcases hs with rfl | rfl
  all_goals
    cases e : σ[i]? with
    | none => rw [e] at q; exact q.elim
    | some o =>
      rw [e] at q
      cases o with
      | none => exact q.elim
      | some v =>
        obtain ⟨a, vs, rfl, h1, h2, h3, _, h5⟩ := q
        exact ⟨a, vs, rfl, h1, h2, h3, h5⟩
def held : Option Sl → Option (List D)
  | some (.own ds) => some ds
  | some (.io ds) => some ds
  | _ => none
theorem held_inv {o : Option Sl} {ds : List D} (h : held o = some ds) : ∃ s, o = some s ∧ (s = .own ds ∨ s = .io ds) := by
  unfold held at h
  split at h
  · cases h; exact ⟨_, rfl, .inl rfl⟩
  · cases h; exact ⟨_, rfl, .inr rfl⟩
  · cases h
def mIxO (i : Nat) (mb : ME) : ME := fun ρ => match held ρ[i]? with
  | none => .bad
  | some _ => (mb ρ).bind fun b ρ1 => match held ρ1[i]?, b with
    | some ds, .int k => lift (atI ds k) ρ1
    | _, _ => .bad
theorem ev_ixO {tb : TE} {mb : ME} (i : Nat) (hb : EvE G W tb mb) : EvE G W (tOp (rIx G.K) (tVar i) tb) (mIxO i mb) := fun B F H σ ρ Q g S h => by
  unfold mIxO at h
  split at h
  · exact h.elim
  · rename_i ds0 hd
    obtain ⟨s, h1, h2⟩ := held_inv hd
    obtain ⟨a, vs, e1, _⟩ := S.mine h1 h2
    refine ⟨_, e1, hb B F H σ ρ _ g S (h.fst fun u b ρ1 F1 H1 ex1 S1 r1 h1 => ?_)⟩
    split at h1
    · rename_i ds k hd1
      obtain ⟨s', h3, h4⟩ := held_inv hd1
      obtain ⟨a', ws, e2, e3, e4, e5, _⟩ := S1.mine h3 h4
      rw [e1] at e2
      cases e2
      obtain ⟨d, e, q, _⟩ := lift_fits S1 h1
      obtain ⟨v, q1, q2⟩ := e5.atI e
      exact .inl ⟨a, ws, k, v, rfl, r1.int_inv, SqL.of e4, q1, q v (g ▸ q2)⟩
    · exact h1.elim
/-! slices -/
def cutL {α : Type} (xs : List α) (lo hi : Option Int) : List α := (xs.drop (HT.sIx xs.length 0 lo)).take (HT.sIx xs.length xs.length hi - HT.sIx xs.length 0 lo)
theorem Rps.cut {F : Hp} {vs : List V} {ds : List D} (h : Rps G F vs ds) (lo hi : Option Int) : Rps G F (cutV vs lo hi) (cutL ds lo hi) := by
  unfold cutV cutL
  rw [h.length]
  exact (h.drop _).take _
abbrev MO := Env → R (Option Int)
def Roe (_ : Hp) (a b : Option Int) : Prop := a = b
abbrev EvO (G : Cg) (W : Wx) (t : TO) (m : MO) : Prop := Ev G W Roe t m
theorem eo_none : EvO G W tNoPart (mC none) := fun B F H σ ρ Q g S h => h none F H (Ex.refl F) S rfl
def mPart (ma : ME) : MO := fun ρ => (ma ρ).bind fun a ρ1 => match a with
  | .int i => .ok (some i) ρ1
  | _ => .bad
theorem eo_some {ta : TE} {ma : ME} (ha : EvE G W ta ma) : EvO G W (tPart ta) (mPart ma) := fun B F H σ ρ Q g S h =>
  ha B F H σ ρ _ g S (h.fst fun v a ρ1 F1 H1 e1 S1 r1 h1 => by
    split at h1
    · exact ⟨_, r1.int_inv, h1 _ _ _ (Ex.refl _) S1 rfl⟩
    · exact h1.elim)
def rSlAny (K : PySem.W.Frag) : V → Option Int → Option Int → Hp → VK → Prop := fun x lo hi H Q => rSlL K x lo hi H Q ∨ (rSlA K x lo hi H Q ∨ rSlS x lo hi H Q)
theorem sl_any {X : Cx} : SlR X (rSlAny X.K) := sl_list.or (sl_tupA.or sl_str)
def dSl (a : D) (lo hi : Option Int) : Option D := match a with
  | .lst ds => some (.lst (cutL ds lo hi))
  | .tup ds => some (.tup (cutL ds lo hi))
  | .str z => if z.length ≤ sizeLine then some (.str (cutS z lo hi)) else none
  | .scr ns => some (.lst ((cutL ns lo hi).map .int))
  | _ => none
theorem Rps.ints {F : Hp} : ∀ (ns : List Int), Rps G F (ns.map V.int) (ns.map .int)
  | [] => .nil
  | n :: ns => .cons (.int n) (Rps.ints ns)
theorem cutL_map {α β : Type} (f : α → β) (xs : List α) (lo hi : Option Int) : cutL (xs.map f) lo hi = (cutL xs lo hi).map f := by
  unfold cutL
  rw [List.length_map, List.map_take, List.map_drop]
def mSl (ma : ME) (ml mh : MO) : ME := fun ρ => (ma ρ).bind fun a ρ1 => (ml ρ1).bind fun lo ρ2 => (mh ρ2).bind fun hi ρ3 => lift (dSl a lo hi) ρ3
theorem cutL_all {α : Type} {xs : List α} {lo hi : Option Int} (h : HT.sIx xs.length 0 lo = 0 ∧ HT.sIx xs.length xs.length hi = xs.length) : cutL xs lo hi = xs := by
  unfold cutL
  rw [h.1, h.2]; simp
theorem ev_sl {te : TE} {tl th : TO} {me : ME} {ml mh : MO} (he : EvE G W te me) (hl : EvO G W tl ml) (hh : EvO G W th mh) : EvE G W (tSl (rSlAny G.K) te tl th) (mSl me ml mh) := fun B F H σ ρ Q g S h =>
  he B F H σ ρ _ g S (h.fst fun v a ρ1 F1 H1 e1 S1 r1 h1 => hl B F1 H1 σ ρ1 _ g S1 (h1.fst fun lo lo' ρ2 F2 H2 e2 S2 r2 h2 => hh B F2 H2 σ ρ2 _ g S2 (h2.fst fun hi hi' ρ3 F3 H3 e3 S3 r3 h3 => by
    cases (show lo = lo' from r2)
    cases (show hi = hi' from r3)
    have ra := (r1.mono e2).mono e3
    obtain ⟨d, e, q, qn⟩ := lift_fits S3 h3
    unfold dSl at e
    split at e
    · cases e
      obtain ⟨b, vs, rfl, hb, rb⟩ := ra.lst_inv
      exact .inl ⟨b, vs, rfl, SqL.of (S3.sub _ _ hb), fun p hp => qn p _ _ hp (.lst upd_same ((rb.cut lo hi).mono (Ex.new (S3.sub.free hp))))⟩
    · cases e
      obtain ⟨b, vs, rfl, hb, rb⟩ := ra.tup_inv
      refine .inr (.inl ⟨b, vs, rfl, ex_t S3.sub hb, fun z => ?_, fun z p hp => qn p _ _ hp (.tup (SqT.of upd_same) ((rb.cut lo hi).mono (Ex.new (S3.sub.free hp))))⟩)
      rw [rb.length] at z
      rw [cutL_all z] at q
      exact q _ (.tup hb rb)
    · split at e
      · cases e
        exact .inr (.inr ⟨_, ra.str_inv, by assumption, q _ (.str _)⟩)
      · cases e
    · rename_i ns
      cases e
      cases ra with
      | scr hs =>
        refine .inl ⟨_, _, rfl, ex_l S3.sub hs, fun p hp => qn p _ _ hp (.lst upd_same ?_)⟩
        have z : cutV (ns.map V.int) lo hi = (cutL ns lo hi).map V.int := cutL_map V.int ns lo hi
        rw [z]; exact Rps.ints _
    · cases e)))
/-! argument lists, displays -/
def mNil : MA := fun ρ => .ok [] ρ
def mCons (ma : ME) (mr : MA) : MA := fun ρ => (ma ρ).bind fun a ρ1 => (mr ρ1).bind fun ds ρ2 => .ok (a :: ds) ρ2
theorem ea_nil : EvA G W tNil mNil := fun B F H σ ρ Q g S h => h _ _ _ (Ex.refl _) S .nil
theorem ea_cons {ta : TE} {tr : TA} {ma : ME} {mr : MA} (ha : EvE G W ta ma) (hr : EvA G W tr mr) : EvA G W (tCons ta tr) (mCons ma mr) := fun B F H σ ρ Q g S h =>
  ha B F H σ ρ _ g S (h.fst fun v a ρ1 F1 H1 e1 S1 r1 h1 => hr B F1 H1 σ ρ1 _ g S1 (h1.fst fun vs ds ρ2 F2 H2 e2 S2 r2 h2 => h2 _ _ _ (Ex.refl _) S2 (.cons (r1.mono e2) r2)))
def mTup (ma : MA) : ME := fun ρ => (ma ρ).bind fun ds ρ1 => if ds.length ≤ sizeLine then .ok (.tup ds) ρ1 else .bad
def mLst (ma : MA) : ME := fun ρ => (ma ρ).bind fun ds ρ1 => if ds.length ≤ sizeLine then .ok (.lst ds) ρ1 else .bad
theorem ev_tup {ta : TA} {ma : MA} (ha : EvA G W ta ma) : EvE G W (tTup ta) (mTup ma) := fun B F H σ ρ Q g S h =>
  ha B F H σ ρ _ g S (h.fst fun v a ρ1 F1 H1 e1 S1 r1 h1 => by
    split at h1
    · rename_i hl
      exact ⟨by rw [r1.length]; exact hl, fun p hp => h1 _ _ _ (Ex.new (S1.sub.free hp)) (S1.new hp) (.tup (SqT.of upd_same) (r1.mono (Ex.new (S1.sub.free hp))))⟩
    · exact h1.elim)
theorem ev_lst {ta : TA} {ma : MA} (ha : EvA G W ta ma) : EvE G W (tLst ta) (mLst ma) := fun B F H σ ρ Q g S h =>
  ha B F H σ ρ _ g S (h.fst fun v a ρ1 F1 H1 e1 S1 r1 h1 => by
    split at h1
    · rename_i hl
      exact ⟨by rw [r1.length]; exact hl, fun p hp => h1 _ _ _ (Ex.new (S1.sub.free hp)) (S1.new hp) (.lst upd_same (r1.mono (Ex.new (S1.sub.free hp))))⟩
    · exact h1.elim)
/-! calls of built-ins, by values -/
def Cad (G : Cg) (W : Wx) (r : List V → Hp → VK → Prop) (f : List D → Option D) : Prop :=
  ∀ (B : Bg) (F H : Hp) (σ : L2.St) (ρ : Env) (xs : List V) (ds : List D) (Q : VK), B.G = G → Sta B F H σ ρ → Rps G F xs ds → Fits B W (Rp G) σ F Q (lift (f ds) ρ) → r xs H Q
def mCB (f : List D → Option D) (ma : MA) : ME := fun ρ => (ma ρ).bind fun ds ρ1 => lift (f ds) ρ1
theorem ev_cb {r : List V → Hp → VK → Prop} {f : List D → Option D} {ta : TA} {ma : MA} (hr : Cad G W r f) (ha : EvA G W ta ma) : EvE G W (tCB r ta) (mCB f ma) := fun B F H σ ρ Q g S h =>
  ha B F H σ ρ _ g S (h.fst fun v a ρ1 F1 H1 e1 S1 r1 h1 => hr B F1 H1 σ ρ1 v a Q g S1 r1 h1)
theorem cr_or {X : Cx} {f : Value} {r1 r2 : List V → Hp → VK → Prop} (h1 : CallR X f r1) (h2 : CallR X f r2) : CallR X f (fun xs H Q => r1 xs H Q ∨ r2 xs H Q) := by
  intro pins s σ H x v Q I rx h
  rcases h with h | h
  · exact h1 pins s σ H x v Q I rx h
  · exact h2 pins s σ H x v Q I rx h
def dAbs : List D → Option D
  | [.int i] => some (.int (if i < 0 then -i else i))
  | _ => none
theorem Rps.one {F : Hp} {xs : List V} {d : D} (h : Rps G F xs [d]) : ∃ v, xs = [v] ∧ Rp G F v d := by
  cases h with
  | cons r t => cases t; exact ⟨_, rfl, r⟩
theorem Rps.two {F : Hp} {xs : List V} {d e : D} (h : Rps G F xs [d, e]) : ∃ v u, xs = [v, u] ∧ Rp G F v d ∧ Rp G F u e := by
  cases h with
  | cons r t =>
    obtain ⟨u, rfl, q⟩ := t.one
    exact ⟨_, u, rfl, r, q⟩
theorem cd_abs : Cad G W (fun xs H Q => ∃ i, xs = [.int i] ∧ Q (.int (if i < 0 then -i else i)) H) dAbs := fun B F H σ ρ xs ds Q g S r h => by
  obtain ⟨d, e, q, qn⟩ := lift_fits S h
  unfold dAbs at e
  split at e
  · cases e
    obtain ⟨v, rfl, rv⟩ := r.one
    exact ⟨_, by rw [rv.int_inv], q _ (.int _)⟩
  · cases e
def dInt : List D → Option D
  | [.int i] => some (.int i)
  | [.bl k] => some (.int (if k then 1 else 0))
  | _ => none
theorem cd_int : Cad G W (fun xs H Q => (∃ i, xs = [.int i] ∧ Q (.int i) H) ∨ ∃ k, xs = [.bl k] ∧ Q (.int (if k then 1 else 0)) H) dInt := fun B F H σ ρ xs ds Q g S r h => by
  obtain ⟨d, e, q, qn⟩ := lift_fits S h
  unfold dInt at e
  split at e
  · cases e
    obtain ⟨v, rfl, rv⟩ := r.one
    exact .inl ⟨_, by rw [rv.int_inv], q _ (.int _)⟩
  · cases e
    obtain ⟨v, rfl, rv⟩ := r.one
    exact .inr ⟨_, by rw [rv.bl_inv], q _ (.int _)⟩
  · cases e
def dLen : List D → Option D
  | [.str x] => if x.length ≤ sizeLine then some (.int x.length) else none
  | [.lst ds] => some (.int ds.length)
  | [.tup ds] => some (.int ds.length)
  | _ => none
theorem cd_len : Cad G W (fun xs H Q => ∃ x n, xs = [x] ∧ LenV G.K x H n ∧ Q (.int n) H) dLen := fun B F H σ ρ xs ds Q g S r h => by
  obtain ⟨d, e, q, qn⟩ := lift_fits S h
  unfold dLen at e
  split at e
  · split at e
    · cases e
      obtain ⟨v, rfl, rv⟩ := r.one
      rw [rv.str_inv]
      exact ⟨_, _, rfl, ⟨by assumption, rfl⟩, q _ (.int _)⟩
    · cases e
  · cases e
    obtain ⟨v, rfl, rv⟩ := r.one
    obtain ⟨a, vs, rfl, h1, h2⟩ := rv.lst_inv
    refine ⟨_, vs.length, rfl, .inl ⟨vs, SqL.of (S.sub _ _ h1), rfl⟩, ?_⟩
    rw [h2.length]; exact q _ (.int _)
  · cases e
    obtain ⟨v, rfl, rv⟩ := r.one
    obtain ⟨a, vs, rfl, h1, h2⟩ := rv.tup_inv
    refine ⟨_, vs.length, rfl, .inr ⟨vs, ex_t S.sub h1, rfl⟩, ?_⟩
    rw [h2.length]; exact q _ (.int _)
  · cases e
end
end En
namespace En
open PySem L2
/-! ## changes of a state -/
theorem join_get {σ : L2.St} {i : Nat} {v : V} (h : i < σ.length) : ((σ.set i (some v))[i]?).join = some v := by
  rw [List.getElem?_set_self h]; rfl
theorem Sta.lt {B : Bg} {F H : Hp} {σ : L2.St} {ρ : Env} (S : Sta B F H σ ρ) {i : Nat} {s : Sl} (h : ρ[i]? = some s) : i < σ.length := by
  rw [S.len]; exact (List.getElem?_eq_some_iff.mp h).1
/-- a slot is stored -/
theorem Sta.set {B : Bg} {F H : Hp} {σ : L2.St} {ρ : Env} {i : Nat} {v : V} {d : D} (S : Sta B F H σ ρ) (r : Rp B.G F v d) : Sta B F H (σ.set i (some v)) (ρ.set i (.dat d)) where
  toWd := S.toWd
  len := by rw [List.length_set, List.length_set]; exact S.len
  ok := fun j s h => by
    by_cases e : i = j
    · subst e
      by_cases hl : i < ρ.length
      · rw [List.getElem?_set_self hl] at h
        cases h
        rw [join_get (by rw [S.len]; exact hl)]
        exact r
      · rw [List.getElem?_eq_none (by rw [List.length_set]; omega)] at h; cases h
    · rw [List.getElem?_set_ne e] at h ⊢
      exact S.ok j s h
  dist := fun j k s t a n hj hk ms mt e1 => by
    by_cases ej : i = j
    · subst ej
      by_cases hl : i < ρ.length
      · rw [List.getElem?_set_self hl] at hj; cases hj; cases ms
      · rw [List.getElem?_eq_none (by rw [List.length_set]; omega)] at hj; cases hj
    · by_cases ek : i = k
      · subst ek
        by_cases hl : i < ρ.length
        · rw [List.getElem?_set_self hl] at hk; cases hk; cases mt
        · rw [List.getElem?_eq_none (by rw [List.length_set]; omega)] at hk; cases hk
      · rw [List.getElem?_set_ne ej] at hj e1
        rw [List.getElem?_set_ne ek] at hk ⊢
        exact S.dist j k s t a n hj hk ms mt e1
/-- the background of what is new -/
theorem Wd.own {B : Bg} {F H : Hp} {p : Addr} {o : HO} (S : Wd B F H) (hp : H p = none) : Wd B F (upd H p o) where
  sub := fun a u h => by
    have n : a ≠ p := ne_of_none (S.sub a u h) hp
    rw [upd_ne n]; exact S.sub a u h
  old := S.old
  keep := fun a u hm h => by
    have n : a ≠ p := fun q => by rw [q, S.fresh hp] at h; cases h
    rw [upd_ne n]; exact S.keep a u hm h
  pin := fun i a m => by
    by_cases n : a = p
    · rw [n, upd_same]; exact fun z => nomatch z
    · rw [upd_ne n]; exact S.pin i a m
  ext := fun a u h => by
    have q := S.ext a u h
    have n : a ≠ p := ne_of_none q.1 hp
    rw [upd_ne n]; exact q
theorem Wd.xfree {B : Bg} {F H : Hp} (S : Wd B F H) {p : Addr} (hp : H p = none) : B.X p = none := by
  cases h : B.X p with
  | none => rfl
  | some o => rw [(S.ext p o h).1] at hp; cases hp
/-- a new list of one's own in a slot -/
theorem Sta.setOwn {B : Bg} {F H : Hp} {σ : L2.St} {ρ : Env} {i : Nat} {p : Addr} {vs : List V} {ds : List D} (S : Sta B F H σ ρ) (hp : H p = none) (r : Rps B.G F vs ds) : Sta B F (upd H p (.lst vs)) (σ.set i (some (.ref p))) (ρ.set i (.own ds)) where
  toWd := S.toWd.own hp
  len := by rw [List.length_set, List.length_set]; exact S.len
  ok := fun j s h => by
    by_cases e : i = j
    · subst e
      by_cases hl : i < ρ.length
      · rw [List.getElem?_set_self hl] at h
        cases h
        rw [join_get (by rw [S.len]; exact hl)]
        exact ⟨p, vs, rfl, S.sub.free hp, upd_same, r, S.fresh hp, S.xfree hp⟩
      · rw [List.getElem?_eq_none (by rw [List.length_set]; omega)] at h; cases h
    · rw [List.getElem?_set_ne e] at h ⊢
      exact (S.ok j s h).step (Ex.refl F) fun a vs h1 h2 _ _ => ⟨by rw [upd_ne (ne_of_none h1 hp)]; exact h1, h2⟩
  dist := fun j k s t a n hj hk ms mt e1 => by
    have other : ∀ (l : Nat) (z : Sl), i ≠ l → ρ[l]? = some z → z.mine = true → σ[l]? ≠ some (some (.ref p)) := fun l z nl hz mz e => by
      have q := S.ok l z hz
      rw [e] at q
      cases z with
      | emp => cases mz
      | dat => cases mz
      | own ds => obtain ⟨b, ws, e', _, h2, _⟩ := q; cases e'; rw [hp] at h2; cases h2
      | io ds => obtain ⟨b, ws, e', _, h2, _⟩ := q; cases e'; rw [hp] at h2; cases h2
    by_cases ej : i = j
    · subst ej
      have hl : i < σ.length := by
        have := (List.getElem?_eq_some_iff.mp hj).1
        rw [List.length_set] at this; rw [S.len]; exact this
      rw [List.getElem?_set_self hl] at e1
      cases e1
      rw [List.getElem?_set_ne n] at hk ⊢
      exact other k t n hk mt
    · by_cases ek : i = k
      · subst ek
        have hl : i < σ.length := by
          have := (List.getElem?_eq_some_iff.mp hk).1
          rw [List.length_set] at this; rw [S.len]; exact this
        rw [List.getElem?_set_self hl]
        rw [List.getElem?_set_ne ej] at hj e1
        intro z
        cases z
        exact other j s ej hj ms e1
      · rw [List.getElem?_set_ne ej] at hj e1
        rw [List.getElem?_set_ne ek] at hk ⊢
        exact S.dist j k s t a n hj hk ms mt e1
def Sl.put : Sl → List D → Sl
  | .own _, ds => .own ds
  | .io _, ds => .io ds
  | s, _ => s
theorem held_put {ρ : Env} {i : Nat} {ds es : List D} {s : Sl} (h : ρ[i]? = some s) (hs : s = .own ds ∨ s = .io ds) : held ((ρ.set i (s.put es))[i]?) = some es := by
  rw [List.getElem?_set_self (List.getElem?_eq_some_iff.mp h).1]
  rcases hs with rfl | rfl <;> rfl
/-- a list of one's own (or the lent one) changes -/
theorem Sta.write {B : Bg} {F H : Hp} {σ : L2.St} {ρ : Env} {i : Nat} {a : Addr} {s : Sl} {vs : List V} {ds es : List D} (S : Sta B F H σ ρ) (h : ρ[i]? = some s) (hs : s = .own ds ∨ s = .io ds) (ha : σ[i]? = some (some (.ref a))) (r : Rps B.G F vs es) :
    Sta B F (upd H a (.lst vs)) σ (ρ.set i (s.put es)) := by
  obtain ⟨a', ws, e1, hF, hH, rr, hX⟩ := S.mine h hs
  rw [ha] at e1
  cases e1
  have mi : s.mine = true := by rcases hs with rfl | rfl <;> rfl
  have q := S.ok i s h
  rw [ha] at q
  have hk : ∀ b o, (∀ j, (j, b) ∉ B.par) → B.H0 b = some o → b ≠ a := fun b o nb hb e => by
    subst e
    rcases hs with rfl | rfl
    · obtain ⟨_, _, e, _, _, _, z, _⟩ := q; cases e; rw [z] at hb; cases hb
    · obtain ⟨_, _, e, _, _, _, z, _⟩ := q; cases e; exact nb i z
  refine ⟨⟨fun b o hb => ?_, S.old, fun b o nb hb => ?_, fun j b hb => ?_, fun b o hb => ?_⟩, fun j t hj => ?_, fun j k u t b n hj hk' mu mt e => ?_, by rw [List.length_set]; exact S.len⟩
  · have n : b ≠ a := ne_of_none hb hF
    rw [upd_ne n]; exact S.sub b o hb
  · rw [upd_ne (hk b o nb hb)]; exact S.keep b o nb hb
  · by_cases n : b = a
    · rw [n, upd_same]; exact fun z => nomatch z
    · rw [upd_ne n]; exact S.pin j b hb
  · have z := S.ext b o hb
    have n : b ≠ a := fun e => by rw [e, hX] at hb; cases hb
    rw [upd_ne n]; exact z
  · by_cases e : i = j
    · subst e
      rw [List.getElem?_set_self (by have := S.lt h; rw [S.len] at this; exact this)] at hj
      cases hj
      rw [ha]
      rcases hs with rfl | rfl
      · obtain ⟨_, _, e, h1, h2, h3, h4, h5⟩ := q; cases e
        exact ⟨a, vs, rfl, h1, upd_same, r, h4, h5⟩
      · obtain ⟨_, _, e, h1, h2, h3, h4, h5⟩ := q; cases e
        exact ⟨a, vs, rfl, h1, upd_same, r, h4, h5⟩
    · rw [List.getElem?_set_ne e] at hj
      refine (S.ok j t hj).step (Ex.refl F) fun b us h1 h2 mt eb => ⟨?_, h2⟩
      have n : b ≠ a := fun z => by
        subst z
        have z1 : σ[j]? = some (some (.ref b)) := by
          cases w : σ[j]? with
          | none => rw [w] at eb; cases eb
          | some o => rw [w] at eb; exact congrArg some eb
        exact S.dist i j s t b e h hj mi mt ha z1
      rw [upd_ne n]; exact h1
  · have get : ∀ (l : Nat) (z : Sl), (ρ.set i (s.put es))[l]? = some z → z.mine = true → ∃ z', ρ[l]? = some z' ∧ z'.mine = true := fun l z hz mz => by
      by_cases e : i = l
      · subst e; exact ⟨s, h, mi⟩
      · rw [List.getElem?_set_ne e] at hz; exact ⟨z, hz, mz⟩
    obtain ⟨u', q1, q2⟩ := get j u hj mu
    obtain ⟨t', q3, q4⟩ := get k t hk' mt
    exact S.dist j k u' t' b n q1 q3 q2 q4 e
/-- a list of one's own is done with: from now on data -/
def frz (i : Nat) (ρ : Env) : Env := match ρ[i]? with
  | some (.own ds) => ρ.set i (.dat (.lst ds))
  | _ => ρ
theorem Sta.frz {B : Bg} {F H : Hp} {σ : L2.St} {ρ : Env} (S : Sta B F H σ ρ) (i : Nat) : ∃ F', Ex F F' ∧ Sta B F' H σ (frz i ρ) := by
  unfold En.frz
  split
  · rename_i ds h
    obtain ⟨a, vs, e1, hF, hH, rr, hX⟩ := S.mine h (.inl rfl)
    have q := S.ok i _ h
    rw [e1] at q
    obtain ⟨_, _, e, _, _, _, h0, _⟩ := q
    cases e
    have ex : Ex F (upd F a (.lst vs)) := Ex.new hF
    refine ⟨upd F a (.lst vs), ex, ⟨⟨fun b o hb => ?_, fun b hb => ?_, S.keep, S.pin, fun b o hb => ?_⟩, fun j t hj => ?_, fun j k u t b n hj hk mu mt e => ?_, by rw [List.length_set]; exact S.len⟩⟩
    · by_cases n : b = a
      · subst n; rw [upd_same] at hb; cases hb; exact hH
      · rw [upd_ne n] at hb; exact S.sub b o hb
    · have n : b ≠ a := fun z => hb (by rw [z]; exact h0)
      rw [upd_ne n]; exact S.old b hb
    · have z := S.ext b o hb
      have n : b ≠ a := fun e => by rw [e, hX] at hb; cases hb
      rw [upd_ne n]; exact z
    · by_cases e : i = j
      · subst e
        rw [List.getElem?_set_self (by have := S.lt h; rw [S.len] at this; exact this)] at hj
        cases hj
        rw [e1]
        exact .lst upd_same (rr.mono ex)
      · rw [List.getElem?_set_ne e] at hj
        refine (S.ok j t hj).step ex fun b us h1 h2 mt eb => ⟨h1, ?_⟩
        have n : b ≠ a := fun z => by
          subst z
          have z1 : σ[j]? = some (some (.ref b)) := by
            cases w : σ[j]? with
            | none => rw [w] at eb; cases eb
            | some o => rw [w] at eb; exact congrArg some eb
          exact S.dist i j _ t b e h hj rfl mt e1 z1
        rw [upd_ne n]; exact h2
    · by_cases ej : i = j
      · subst ej
        rw [List.getElem?_set_self (by have := S.lt h; rw [S.len] at this; exact this)] at hj
        cases hj; cases mu
      · by_cases ek : i = k
        · subst ek
          rw [List.getElem?_set_self (by have := S.lt h; rw [S.len] at this; exact this)] at hk
          cases hk; cases mt
        · rw [List.getElem?_set_ne ej] at hj
          rw [List.getElem?_set_ne ek] at hk
          exact S.dist j k u t b n hj hk mu mt e
  · exact ⟨F, Ex.refl F, S⟩
/-! ## statements -/
def FitS (B : Bg) (W : Wx) (F : Hp) (D : Ends) : O → Prop
  | .nx ρ => ∀ σ' F' H', Ex F F' → Sta B F' H' σ' ρ → D.nx σ' H'
  | .rt d ρ => ∀ v σ' F' H', Ex F F' → Sta B F' H' σ' ρ → Rp B.G F' v d → D.rt v H'
  | .bk ρ => ∀ σ' F' H', Ex F F' → Sta B F' H' σ' ρ → D.bk σ' H'
  | .ct ρ => ∀ σ' F' H', Ex F F' → Sta B F' H' σ' ρ → D.ct σ' H'
  | .err c fs ρ => ∀ σ', Errs B W F σ' c fs ρ
  | .bad => False
theorem FitS.mono {B : Bg} {W : Wx} {F F1 : Hp} {D : Ends} (e : Ex F F1) : ∀ {o : O}, FitS B W F D o → FitS B W F1 D o
  | .nx _, h => fun σ' F' H' e' => h σ' F' H' (e.trans e')
  | .rt _ _, h => fun v σ' F' H' e' => h v σ' F' H' (e.trans e')
  | .bk _, h => fun σ' F' H' e' => h σ' F' H' (e.trans e')
  | .ct _, h => fun σ' F' H' e' => h σ' F' H' (e.trans e')
  | .err _ _ _, h => fun σ' => (h σ').mono e
  | .bad, h => h
def EvS (G : Cg) (W : Wx) (t : TS) (m : MS) : Prop :=
  ∀ (B : Bg) (F H : Hp) (σ : L2.St) (ρ : Env) (D : Ends), B.G = G → Sta B F H σ ρ → FitS B W F D (m ρ) → t D σ H
/-- from an expression's outcome to a statement's -/
def R.then {α : Type} (r : R α) (k : α → Env → O) : O := match r with
  | .ok a ρ => k a ρ
  | .err c fs ρ => .err c fs ρ
  | .bad => .bad
theorem FitS.fst {α β : Type} {B : Bg} {W : Wx} {rel : Hp → β → α → Prop} {σ : L2.St} {F : Hp} {D : Ends} {Q : β → Hp → Prop} {k : α → Env → O} :
    ∀ {r : R α}, FitS B W F D (r.then k) → (∀ v a ρ' F' H', Ex F F' → Sta B F' H' σ ρ' → rel F' v a → FitS B W F' D (k a ρ') → Q v H') → Fits B W rel σ F Q r
  | .ok a ρ', h, q => fun v F' H' e S r => q v a ρ' F' H' e S r (FitS.mono e h)
  | .err _ _ _, h, _ => h σ
  | .bad, h, _ => h
section
variable {G : Cg} {W : Wx}
def O.seq (o : O) (k : MS) : O := match o with
  | .nx ρ => k ρ
  | o => o
def mSeq (a b : MS) : MS := fun ρ => (a ρ).seq b
theorem es_seq {t u : TS} {a b : MS} (ha : EvS G W t a) (hb : EvS G W u b) : EvS G W (tSeq t u) (mSeq a b) := fun B F H σ ρ D g S h => by
  refine ha B F H σ ρ _ g S ?_
  unfold mSeq at h
  cases e : a ρ with
  | nx ρ' => rw [e] at h; exact fun σ' F' H' e' S' => hb B F' H' σ' ρ' D g S' (FitS.mono e' h)
  | rt d ρ' => rw [e] at h; exact h
  | bk ρ' => rw [e] at h; exact h
  | ct ρ' => rw [e] at h; exact h
  | err c fs ρ' => rw [e] at h; exact h
  | bad => rw [e] at h; exact h
def mNext : MS := fun ρ => .nx ρ
theorem es_next : EvS G W tNext mNext := fun B F H σ ρ D g S h => h σ F H (Ex.refl F) S
def mBrk : MS := fun ρ => .bk ρ
theorem es_break : EvS G W tBreak mBrk := fun B F H σ ρ D g S h => h σ F H (Ex.refl F) S
def mCt : MS := fun ρ => .ct ρ
theorem es_cont : EvS G W tCont mCt := fun B F H σ ρ D g S h => h σ F H (Ex.refl F) S
def mRet (me : ME) : MS := fun ρ => (me ρ).then fun d ρ' => .rt d ρ'
theorem es_ret {te : TE} {me : ME} (he : EvE G W te me) : EvS G W (tRet te) (mRet me) := fun B F H σ ρ D g S h =>
  he B F H σ ρ _ g S (h.fst fun v a ρ' F' H' e S' r h' => h' v σ F' H' (Ex.refl F') S' (g ▸ r))
theorem es_retN : EvS G W tRetN (fun ρ => .rt .non ρ) := fun B F H σ ρ D g S h => h .non σ F H (Ex.refl F) S .non
def mDrop (me : ME) : MS := fun ρ => (me ρ).then fun _ ρ' => .nx ρ'
theorem es_drop {te : TE} {me : ME} (he : EvE G W te me) : EvS G W (tDrop te) (mDrop me) := fun B F H σ ρ D g S h =>
  he B F H σ ρ _ g S (h.fst fun v a ρ' F' H' e S' r h' => h' σ F' H' (Ex.refl F') S')
def mIf (mt : MT) (a b : MS) : MS := fun ρ => (mt ρ).then fun c ρ' => if c then a ρ' else b ρ'
theorem es_if {tt : TT} {t u : TS} {mt : MT} {a b : MS} (ht : EvT G W tt mt) (ha : EvS G W t a) (hb : EvS G W u b) : EvS G W (tIfS tt t u) (mIf mt a b) := fun B F H σ ρ D g S h =>
  ht B F H σ ρ _ g S (h.fst fun v c ρ' F' H' e S' r h' => by
    cases (show v = c from r)
    cases v with
    | true => exact ha B F' H' σ ρ' D g S' h'
    | false => exact hb B F' H' σ ρ' D g S' h')
/-- targets -/
def Agr (ts : List Nat) (σ σ' : L2.St) : Prop := σ'.length = σ.length ∧ ∀ i, i ∉ ts → σ'[i]? = σ[i]?
def EvG (G : Cg) (g : TG) (mg : D → Env → Option Env) (ts : List Nat) : Prop :=
  ∀ (B : Bg) (F H : Hp) (σ : L2.St) (ρ ρ' : Env) (x : V) (d : D) (Q : L2.St → Hp → Prop), B.G = G → Sta B F H σ ρ → Rp G F x d → mg d ρ = some ρ' → (∀ σ' F' H', Ex F F' → Agr ts σ σ' → Sta B F' H' σ' ρ' → Q σ' H') → g x σ H Q
def EvGs (G : Cg) (g : TGs) (mg : List D → Env → Option Env) (ts : List Nat) : Prop :=
  ∀ (B : Bg) (F H : Hp) (σ : L2.St) (ρ ρ' : Env) (x : List V) (d : List D) (Q : L2.St → Hp → Prop), B.G = G → Sta B F H σ ρ → Rps G F x d → mg d ρ = some ρ' → (∀ σ' F' H', Ex F F' → Agr ts σ σ' → Sta B F' H' σ' ρ' → Q σ' H') → g x σ H Q
def gSet (i : Nat) (d : D) (ρ : Env) : Option Env := some (ρ.set i (.dat d))
theorem eg_name (i : Nat) : EvG G (gName i) (gSet i) [i] := fun B F H σ ρ ρ' x d Q g S r h q => by
  cases h
  refine q _ F H (Ex.refl F) ⟨by rw [List.length_set], fun j hj => ?_⟩ (S.set (g ▸ r))
  rw [List.getElem?_set_ne (by intro e; exact hj (by simp [e]))]
theorem Agr.trans {ts us : List Nat} {σ σ1 σ2 : L2.St} (a : Agr ts σ σ1) (b : Agr us σ1 σ2) : Agr (ts ++ us) σ σ2 :=
  ⟨b.1.trans a.1, fun i hi => by
    rw [List.mem_append, not_or] at hi
    exact (b.2 i hi.2).trans (a.2 i hi.1)⟩
def gNilD (ds : List D) (ρ : Env) : Option Env := match ds with
  | [] => some ρ
  | _ => none
def gConsD (f : D → Env → Option Env) (g : List D → Env → Option Env) (ds : List D) (ρ : Env) : Option Env := match ds with
  | d :: r => (f d ρ).bind fun ρ1 => g r ρ1
  | _ => none
def gTupD (n : Nat) (g : List D → Env → Option Env) (d : D) (ρ : Env) : Option Env := match d with
  | .tup ds => if ds.length = n then g ds ρ else none
  | _ => none
theorem eg_nil : EvGs G gNil gNilD [] := fun B F H σ ρ ρ' x d Q g S r h q => by
  cases r with
  | nil => cases h; exact ⟨rfl, q σ F H (Ex.refl F) ⟨rfl, fun _ _ => rfl⟩ S⟩
  | cons => cases h
theorem eg_cons {g : TG} {gs : TGs} {f : D → Env → Option Env} {fs : List D → Env → Option Env} {ts us : List Nat} (h1 : EvG G g f ts) (h2 : EvGs G gs fs us) : EvGs G (gCons g gs) (gConsD f fs) (ts ++ us) := fun B F H σ ρ ρ' x d Q gg S r h q => by
  cases r with
  | nil => cases h
  | cons ra rb =>
    rename_i v vs e es
    simp only [gConsD, Option.bind_eq_some_iff] at h
    obtain ⟨ρ1, q1, q2⟩ := h
    exact ⟨v, vs, rfl, h1 B F H σ ρ ρ1 v e _ gg S ra q1 fun σ1 F1 H1 e1 a1 S1 => h2 B F1 H1 σ1 ρ1 ρ' vs es Q gg S1 (rb.mono e1) q2 fun σ2 F2 H2 e2 a2 S2 => q σ2 F2 H2 (e1.trans e2) (a1.trans a2) S2⟩
theorem eg_tup {gs : TGs} {fs : List D → Env → Option Env} {ts : List Nat} {n : Nat} (h1 : EvGs G gs fs ts) : EvG G (gTup G.K n gs) (gTupD n fs) ts := fun B F H σ ρ ρ' x d Q gg S r h q => by
  unfold gTupD at h
  split at h
  · split at h
    · rename_i hl
      obtain ⟨a, vs, rfl, ha, ra⟩ := r.tup_inv
      exact ⟨a, vs, rfl, ex_t S.sub ha, by rw [ra.length]; exact hl, h1 B F H σ ρ ρ' vs _ Q gg S ra h q⟩
    · cases h
  · cases h
def optO (o : Option Env) : O := match o with
  | some ρ => .nx ρ
  | none => .bad
def mAsg (me : ME) (mg : D → Env → Option Env) : MS := fun ρ => (me ρ).then fun d ρ' => optO (mg d ρ')
theorem es_asg {te : TE} {g : TG} {me : ME} {mg : D → Env → Option Env} {ts : List Nat} (he : EvE G W te me) (hg : EvG G g mg ts) : EvS G W (tAsg te g) (mAsg me mg) := fun B F H σ ρ D gg S h =>
  he B F H σ ρ _ gg S (h.fst fun v a ρ' F' H' e S' r h' => by
    cases q : mg a ρ' with
    | none => rw [q] at h'; exact h'.elim
    | some ρ2 =>
      rw [q] at h'
      exact hg B F' H' σ ρ' ρ2 v a _ gg S' r q fun σ' F2 H2 e2 _ S2 => h' σ' F2 H2 e2 S2)
/-- x = [..], a list of one's own -/
def mOwn (i : Nat) (ma : MA) : MS := fun ρ => (ma ρ).then fun ds ρ' => if ds.length ≤ sizeLine then .nx (ρ'.set i (.own ds)) else .bad
theorem es_own {ta : TA} {ma : MA} (i : Nat) (ha : EvA G W ta ma) : EvS G W (tAsg (tLst ta) (gName i)) (mOwn i ma) := fun B F H σ ρ D gg S h =>
  ha B F H σ ρ _ gg S (h.fst fun v a ρ' F' H' e S' r h' => by
    split at h'
    · rename_i hl
      exact ⟨by rw [r.length]; exact hl, fun p hp => h' _ F' _ (Ex.refl F') (S'.setOwn hp (gg ▸ r))⟩
    · exact h'.elim)
/-- xs.append(e) -/
def mApp (i : Nat) (me : ME) : MS := fun ρ => match held ρ[i]? with
  | none => .bad
  | some _ => (me ρ).then fun d ρ1 => match ρ1[i]? with
    | some s => match held (some s) with
      | some ds => if ds.length < sizeLine then .nx (ρ1.set i (s.put (ds ++ [d]))) else .bad
      | none => .bad
    | none => .bad
theorem es_app {te : TE} {me : ME} (i : Nat) (he : EvE G W te me) : EvS G W (tDrop (tBM G.K "list" rAppend (tVar i) (tCons te tNil))) (mApp i me) := fun B F H σ ρ D gg S h => by
  unfold mApp at h
  split at h
  · exact h.elim
  · rename_i ds0 hd
    obtain ⟨s0, h1, h2⟩ := held_inv hd
    obtain ⟨a, vs, e1, e2, e3, _⟩ := S.mine h1 h2
    refine ⟨_, e1, Or.inl ⟨rfl, _, SqL.of e3⟩, he B F H σ ρ _ gg S (h.fst fun u b ρ1 F1 H1 ex1 S1 r1 h1 => ?_)⟩
    split at h1
    · rename_i s hs
      split at h1
      · rename_i ds hds
        split at h1
        · rename_i hl
          obtain ⟨s', z1, z2⟩ := held_inv hds
          cases z1
          obtain ⟨a', ws, q1, q2, q3, q4, _⟩ := S1.mine hs z2
          rw [e1] at q1
          cases q1
          exact ⟨a, ws, u, rfl, rfl, q3, by rw [q4.length]; exact hl, h1 _ F1 _ (Ex.refl F1) (S1.write hs z2 e1 (q4.append (.cons (gg ▸ r1) .nil)))⟩
        · exact h1.elim
      · exact h1.elim
    · exact h1.elim
/-- xs[i] = e -/
def mPut (i : Nat) (mi me : ME) : MS := fun ρ => (me ρ).then fun d ρ1 => match held ρ1[i]? with
  | none => .bad
  | some _ => (mi ρ1).then fun k ρ2 => match ρ2[i]? with
    | some s => match held (some s), k with
      | some ds, .int n => match ixN ds.length n with
        | some j => .nx (ρ2.set i (s.put (ds.set j d)))
        | none => .bad
      | _, _ => .bad
    | none => .bad
theorem es_put {te ti : TE} {me mi : ME} (i : Nat) (he : EvE G W te me) (hi : EvE G W ti mi) : EvS G W (tAsg te (gSub (tVar i) ti rSetL)) (mPut i mi me) := fun B F H σ ρ D gg S h =>
  he B F H σ ρ _ gg S (h.fst fun u b ρ1 F1 H1 ex1 S1 r1 h1 => by
    split at h1
    · exact h1.elim
    · rename_i ds0 hd
      obtain ⟨s0, z1, z2⟩ := held_inv hd
      obtain ⟨a, vs, e1, e2, e3, _⟩ := S1.mine z1 z2
      refine ⟨_, e1, hi B F1 H1 σ ρ1 _ gg S1 (h1.fst fun w k ρ2 F2 H2 ex2 S2 r2 h2 => ?_)⟩
      split at h2
      · rename_i s hs
        split at h2
        · rename_i ds n hds
          split at h2
          · rename_i j hj
            obtain ⟨s', z1, z2⟩ := held_inv hds
            cases z1
            obtain ⟨a', ws, q1, q2, q3, q4, _⟩ := S2.mine hs z2
            rw [e1] at q1
            cases q1
            exact ⟨a, ws, n, j, rfl, r2.int_inv, q3, by rw [q4.length]; exact hj, h2 _ F2 _ (Ex.refl F2) (S2.write hs z2 e1 (q4.set (gg ▸ (r1.mono ex2)) j))⟩
          · exact h2.elim
        · exact h2.elim
      · exact h2.elim)
/-- data from now on -/
theorem es_frz {t : TS} {m : MS} (i : Nat) (h : EvS G W t m) : EvS G W t (fun ρ => m (frz i ρ)) := fun B F H σ ρ D gg S q => by
  obtain ⟨F', e, S'⟩ := S.frz i
  exact h B F' H σ _ D gg S' (FitS.mono e q)
end
end En
namespace En
open PySem L2
section
variable {G : Cg} {W : Wx}
/-! ## loops -/
/-- nothing, or one frozen thing more -/
def Gro (F H F' H' : Hp) : Prop := (F' = F ∧ H' = H) ∨ ∃ p o, H p = none ∧ F' = upd F p o ∧ H' = upd H p o
theorem Sta.gro {B : Bg} {F H F' H' : Hp} {σ : L2.St} {ρ : Env} (S : Sta B F H σ ρ) (g : Gro F H F' H') : Sta B F' H' σ ρ ∧ Ex F F' := by
  rcases g with ⟨rfl, rfl⟩ | ⟨p, o, hp, rfl, rfl⟩
  · exact ⟨S, Ex.refl _⟩
  · exact ⟨S.new hp, Ex.new (S.sub.free hp)⟩
/-- an iterator goes over data, while what is frozen stays -/
def Walks (G : Cg) (J : It) (F : Hp) (ds : List D) : Prop := ∀ (i : Nat) (F1 H : Hp), Ex F F1 → Ex F1 H →
  (∀ d, ds[i]? = some d → J.go i H ∧ ∀ x H', J.yld i H x H' → ∃ F', Gro F1 H F' H' ∧ Rp G F' x d) ∧ (ds.length ≤ i → J.stop i H)
def EvI (G : Cg) (W : Wx) (wi : TI) (m : MA) : Prop := ∀ (B : Bg) (F H : Hp) (σ : L2.St) (ρ : Env) (R : It → Hp → Prop), B.G = G → Sta B F H σ ρ → Fits B W (fun F' J ds => Walks G J F' ds) σ F R (m ρ) → wi σ H R
def iOr (a b : TI) : TI := fun σ H R => a σ H R ∨ b σ H R
theorem pi_or {X : Cx} {tg e : Expr} {a b : TI} (h1 : PI X tg e a) (h2 : PI X tg e b) : PI X tg e (iOr a b) := ⟨fun pins s σ H R I h => by
  rcases h with h | h
  · exact h1.run pins s σ H R I h
  · exact h2.run pins s σ H R I h⟩
def iAny (K : PySem.W.Frag) (te : TE) : TI := iOr (iList K te) (iOr (iTup K te) (iStr te))
theorem pi_any {X : Cx} {tg e : Expr} {te : TE} (he : PE X e te) : PI X tg e (iAny X.K te) := pi_or (pi_list he) (pi_or (pi_tup he) (pi_str he))
def signs (x : Str) : List D := x.cps.toList.map fun c => .str ⟨#[c]⟩
def dItems : D → Option (List D)
  | .lst ds => some ds
  | .tup ds => some ds
  | .str x => some (signs x)
  | _ => none
def mItems (me : ME) : MA := fun ρ => (me ρ).bind fun a ρ1 => lift (dItems a) ρ1
theorem ei_any {te : TE} {me : ME} (he : EvE G W te me) : EvI G W (iAny G.K te) (mItems me) := fun B F H σ ρ R g S h => by
  unfold mItems at h
  cases e : me ρ with
  | bad => rw [e] at h; exact h.elim
  | err c fs ρ1 =>
    rw [e] at h
    refine .inl (he B F H σ ρ _ g S ?_)
    rw [e]; exact h
  | ok d ρ1 =>
    rw [e] at h
    have h' : Fits B W (fun F' J ds => Walks G J F' ds) σ F R (lift (dItems d) ρ1) := h
    cases d with
    | lst ds =>
      refine .inl (he B F H σ ρ _ g S ?_)
      rw [e]
      intro v F' H' e' S' r
      obtain ⟨a, vs, rfl, ha, ra⟩ := r.lst_inv
      refine ⟨a, rfl, ⟨vs, SqL.of (S'.sub _ _ ha)⟩, h' _ F' H' e' S' ?_⟩
      intro i F1 H1 x1 x2
      have hs : SqL G.K H1 a vs := SqL.of (x2 _ _ (x1 _ _ ha))
      refine ⟨fun d hd => ?_, fun hl => ⟨vs, hs, by rw [ra.length]; exact hl⟩⟩
      obtain ⟨v, h1, h2⟩ := ra.get hd
      refine ⟨⟨vs, v, hs, h1⟩, fun x H2 hy => ⟨F1, .inl ⟨rfl, hy.1⟩, ?_⟩⟩
      have z := hy.2 vs hs
      rw [h1] at z
      cases z
      exact h2.mono x1
    | tup ds =>
      refine .inr (.inl (he B F H σ ρ _ g S ?_))
      rw [e]
      intro v F' H' e' S' r
      obtain ⟨a, vs, rfl, ha, ra⟩ := r.tup_inv
      refine ⟨a, rfl, ⟨vs, ex_t S'.sub ha⟩, h' _ F' H' e' S' ?_⟩
      intro i F1 H1 x1 x2
      have hs : SqT G.K H1 a vs := ex_t x2 (ex_t x1 ha)
      refine ⟨fun d hd => ?_, fun hl => ⟨vs, hs, by rw [ra.length]; exact hl⟩⟩
      obtain ⟨v, h1, h2⟩ := ra.get hd
      refine ⟨⟨vs, v, hs, h1⟩, fun x H2 hy => ⟨F1, .inl ⟨rfl, hy.1⟩, ?_⟩⟩
      have z := hy.2 vs hs
      rw [h1] at z
      cases z
      exact h2.mono x1
    | str x =>
      refine .inr (.inr (he B F H σ ρ _ g S ?_))
      rw [e]
      intro v F' H' e' S' r
      refine ⟨x, r.str_inv, h' _ F' H' e' S' ?_⟩
      intro i F1 H1 x1 x2
      refine ⟨fun d hd => ?_, fun hl => ?_⟩
      · unfold signs at hd
        rw [List.getElem?_map, Option.map_eq_some_iff] at hd
        obtain ⟨c, hc, rfl⟩ := hd
        rw [Array.getElem?_toList] at hc
        refine ⟨(Array.getElem?_eq_some_iff.mp hc).1, fun y H2 hy => ⟨F1, .inl ⟨rfl, hy.1⟩, ?_⟩⟩
        obtain ⟨c', q1, rfl⟩ := hy.2
        rw [hc] at q1
        cases q1
        exact .str _
      · unfold signs at hl
        rw [List.length_map, Array.length_toList] at hl
        exact hl
    | non => exact h'.elim
    | bl => exact h'.elim
    | int => exact h'.elim
    | dct => exact h'.elim
    | obj => exact h'.elim
    | scr => exact h'.elim
def rangeD (lo : Int) (n : Nat) : List D := (List.range n).map fun (i : Nat) => .int (lo + (i : Int))
theorem walks_range {F : Hp} {lo : Int} {n : Nat} : Walks G (Itr lo n) F (rangeD lo n) := fun i F1 H x1 x2 => by
  refine ⟨fun d hd => ?_, fun hl => ?_⟩
  · unfold rangeD at hd
    rw [List.getElem?_map, Option.map_eq_some_iff] at hd
    obtain ⟨c, hc, rfl⟩ := hd
    obtain ⟨q1, q2⟩ := List.getElem?_eq_some_iff.mp hc
    rw [List.getElem_range] at q2
    subst q2
    rw [List.length_range] at q1
    exact ⟨q1, fun y H2 hy => ⟨F1, .inl ⟨rfl, hy.1⟩, by rw [hy.2]; exact .int _⟩⟩
  · unfold rangeD at hl
    rw [List.length_map, List.length_range] at hl
    exact hl
def in62 (i : Int) : Bool := decide (-(2 ^ 62) ≤ i) && decide (i < 2 ^ 62)
def dRange1 : List D → Option (List D)
  | [.int j] => if in62 j then some (rangeD 0 j.toNat) else none
  | _ => none
def dRange2 : List D → Option (List D)
  | [.int i, .int j] => if in62 i && in62 j then some (rangeD i (j - i).toNat) else none
  | _ => none
def mRange (f : List D → Option (List D)) (ma : MA) : MA := fun ρ => (ma ρ).bind fun ds ρ1 => lift (f ds) ρ1
theorem ei_range1 {ta : TA} {ma : MA} (ha : EvA G W ta ma) : EvI G W (iRng1 ta) (mRange dRange1 ma) := fun B F H σ ρ R g S h =>
  ha B F H σ ρ _ g S (h.fst fun v a ρ1 F1 H1 e1 S1 r1 h1 => by
    unfold dRange1 at h1
    split at h1
    · split at h1
      · rename_i hj
        obtain ⟨u, rfl, ru⟩ := r1.one
        unfold in62 at hj
        simp only [Bool.and_eq_true, decide_eq_true_eq] at hj
        exact ⟨_, by rw [ru.int_inv], hj.1, hj.2, h1 _ F1 H1 (Ex.refl F1) S1 walks_range⟩
      · exact h1.elim
    · exact h1.elim)
theorem ei_range2 {ta : TA} {ma : MA} (ha : EvA G W ta ma) : EvI G W (iRng2 ta) (mRange dRange2 ma) := fun B F H σ ρ R g S h =>
  ha B F H σ ρ _ g S (h.fst fun v a ρ1 F1 H1 e1 S1 r1 h1 => by
    unfold dRange2 at h1
    split at h1
    · split at h1
      · rename_i hj
        obtain ⟨u, w, rfl, ru, rw'⟩ := r1.two
        unfold in62 at hj
        simp only [Bool.and_eq_true, decide_eq_true_eq] at hj
        exact ⟨_, _, by rw [ru.int_inv, rw'.int_inv], ⟨hj.1.1, hj.1.2, hj.2.1, hj.2.2⟩, h1 _ F1 H1 (Ex.refl F1) S1 walks_range⟩
      · exact h1.elim
    · exact h1.elim)
/-- for -/
def forD (mg : D → Env → Option Env) (body : MS) : List D → Env → O
  | [], ρ => .nx ρ
  | d :: ds, ρ => match mg d ρ with
    | none => .bad
    | some ρ1 => match body ρ1 with
      | .nx ρ2 => forD mg body ds ρ2
      | .ct ρ2 => forD mg body ds ρ2
      | .bk ρ2 => .nx ρ2
      | o => o
def mFor (mi : MA) (mg : D → Env → Option Env) (body : MS) : MS := fun ρ => (mi ρ).then fun ds ρ1 => forD mg body ds ρ1
theorem es_for {wi : TI} {g : TG} {tb : TS} {mi : MA} {mg : D → Env → Option Env} {ts : List Nat} {body : MS} (hi : EvI G W wi mi) (hg : EvG G g mg ts) (hb : EvS G W tb body) : EvS G W (tFor wi g tb) (mFor mi mg body) := fun B F H σ ρ D gg S h => by
  refine hi B F H σ ρ _ gg S (FitS.fst h fun J ds ρ0 F0 H0 e0 S0 wk h0 => ?_)
  refine ⟨fun i m σ H => m = ds.length - i ∧ i ≤ ds.length ∧ ∃ F1 ρ1, Ex F0 F1 ∧ Sta B F1 H σ ρ1 ∧ FitS B W F1 D (forD mg body (ds.drop i) ρ1), ⟨ds.length, by simp, Nat.zero_le _, F0, ρ0, Ex.refl F0, S0, by simpa using h0⟩, ?_⟩
  rintro i m σ1 H1 ⟨rfl, hil, F1, ρ1, e1, S1, h1⟩
  have w1 := wk i F1 H1 e1 S1.sub
  by_cases hlt : i < ds.length
  · right
    have hd : ds[i]? = some ds[i] := List.getElem?_eq_getElem hlt
    obtain ⟨hgo, hy⟩ := w1.1 _ hd
    refine ⟨hgo, fun σ' H' => ∃ F2 ρ2, Ex F0 F2 ∧ Sta B F2 H' σ' ρ2 ∧ FitS B W F2 D (forD mg body (ds.drop (i + 1)) ρ2), fun σ' H' ⟨F2, ρ2, x1, x2, x3⟩ => ⟨ds.length - (i + 1), by omega, rfl, by omega, F2, ρ2, x1, x2, x3⟩, fun x H2 hyl => ?_⟩
    obtain ⟨F2, hgr, rx⟩ := hy x H2 hyl
    obtain ⟨S2, e2⟩ := S1.gro hgr
    rw [List.drop_eq_getElem_cons hlt] at h1
    have h2 := FitS.mono e2 h1
    simp only [forD] at h2
    split at h2
    · exact h2.elim
    · rename_i ρ2 hm
      refine hg B F2 H2 σ1 ρ1 ρ2 x _ _ gg S2 rx hm fun σ2 F3 H3 e3 _ S3 => ?_
      refine hb B F3 H3 σ2 ρ2 _ gg S3 ?_
      replace h2 := FitS.mono e3 h2
      replace e2 := e2.trans e3
      cases eb : body ρ2 with
      | nx ρ3 => rw [eb] at h2; exact fun σ' F' H' e' S' => ⟨F', ρ3, (e1.trans e2).trans e', S', FitS.mono e' h2⟩
      | ct ρ3 => rw [eb] at h2; exact fun σ' F' H' e' S' => ⟨F', ρ3, (e1.trans e2).trans e', S', FitS.mono e' h2⟩
      | bk ρ3 => rw [eb] at h2; exact fun σ' F' H' e' S' => h2 σ' F' H' e' S'
      | rt d ρ3 => rw [eb] at h2; exact h2
      | err c fs ρ3 => rw [eb] at h2; exact h2
      | bad => rw [eb] at h2; exact h2
  · left
    have hz : i = ds.length := by omega
    subst hz
    refine ⟨w1.2 (Nat.le_refl _), ?_⟩
    rw [List.drop_length] at h1
    exact h1 σ1 F1 H1 (Ex.refl F1) S1
/-- while, with fuel -/
def whileD (mt : MT) (body : MS) : Nat → Env → O
  | 0, _ => .bad
  | n + 1, ρ => (mt ρ).then fun c ρ1 => if c then (match body ρ1 with
      | .nx ρ2 => whileD mt body n ρ2
      | .ct ρ2 => whileD mt body n ρ2
      | .bk ρ2 => .nx ρ2
      | o => o) else .nx ρ1
theorem es_while {tt : TT} {tb : TS} {mt : MT} {body : MS} (n : Nat) (ht : EvT G W tt mt) (hb : EvS G W tb body) : EvS G W (tWhile tt tb) (whileD mt body n) := fun B F H σ ρ D gg S h => by
  refine ⟨fun m σ H => ∃ F1 ρ1, Sta B F1 H σ ρ1 ∧ FitS B W F1 D (whileD mt body m ρ1), ⟨n, F, ρ, S, h⟩, ?_⟩
  rintro m σ1 H1 ⟨F1, ρ1, S1, h1⟩
  cases m with
  | zero => exact h1.elim
  | succ m =>
    refine ht B F1 H1 σ1 ρ1 _ gg S1 (FitS.fst h1 fun v c ρ2 F2 H2 e2 S2 r2 h2 => ?_)
    cases (show v = c from r2)
    cases v with
    | false => exact h2 σ1 F2 H2 (Ex.refl F2) S2
    | true =>
      simp only [if_true] at h2
      refine ⟨fun σ' H' => ∃ F1 ρ1, Sta B F1 H' σ' ρ1 ∧ FitS B W F1 D (whileD mt body m ρ1), fun σ' H' q => ⟨m, Nat.lt_succ_self m, q⟩, hb B F2 H2 σ1 ρ2 _ gg S2 ?_⟩
      cases eb : body ρ2 with
      | nx ρ3 => rw [eb] at h2; exact fun σ' F' H' e' S' => ⟨F', ρ3, S', FitS.mono e' h2⟩
      | ct ρ3 => rw [eb] at h2; exact fun σ' F' H' e' S' => ⟨F', ρ3, S', FitS.mono e' h2⟩
      | bk ρ3 => rw [eb] at h2; exact fun σ' F' H' e' S' => h2 σ' F' H' e' S'
      | rt d ρ3 => rw [eb] at h2; exact h2
      | err c fs ρ3 => rw [eb] at h2; exact h2
      | bad => rw [eb] at h2; exact h2
/-! ## list comprehensions -/
def wipeE (ρ : Env) : List Nat → Env
  | [] => ρ
  | v :: vs => (wipeE ρ vs).set v .emp
theorem wipeE_len (ρ : Env) : ∀ vs : List Nat, (wipeE ρ vs).length = ρ.length
  | [] => rfl
  | v :: vs => by unfold wipeE; rw [List.length_set, wipeE_len ρ vs]
theorem wipeE_get (ρ : Env) (i : Nat) (s : Sl) : ∀ vs : List Nat, (wipeE ρ vs)[i]? = some s → s = .emp ∨ (i ∉ vs ∧ ρ[i]? = some s)
  | [], h => .inr ⟨by simp, h⟩
  | v :: vs, h => by
    unfold wipeE at h
    by_cases e : v = i
    · subst e
      have hl := (List.getElem?_eq_some_iff.mp h).1
      rw [List.length_set] at hl
      rw [List.getElem?_set_self hl] at h
      cases h; exact .inl rfl
    · rw [List.getElem?_set_ne e] at h
      rcases wipeE_get ρ i s vs h with q | ⟨q1, q2⟩
      · exact .inl q
      · exact .inr ⟨by simp only [List.mem_cons, not_or]; exact ⟨fun z => e z.symm, q1⟩, q2⟩
theorem wipe_ne (σ : L2.St) {i : Nat} : ∀ {vs : List Nat}, i ∉ vs → (wipe σ vs)[i]? = σ[i]?
  | [], _ => rfl
  | v :: vs, h => by
    simp only [List.mem_cons, not_or] at h
    unfold wipe
    rw [List.getElem?_set_ne (fun z => h.1 z.symm), wipe_ne σ h.2]
theorem wipe_in (σ : L2.St) {i : Nat} : ∀ {vs : List Nat}, i ∈ vs → i < σ.length → (wipe σ vs)[i]? = some none
  | [], h, _ => by simp at h
  | v :: vs, h, hl => by
    unfold wipe
    by_cases e : v = i
    · subst e; rw [List.getElem?_set_self (by rw [wipe_length]; exact hl)]
    · rw [List.getElem?_set_ne e]
      rcases List.mem_cons.mp h with z | z
      · exact absurd z.symm e
      · exact wipe_in σ z hl
theorem wipe_agr {σ σ' : L2.St} {vs : List Nat} (a : Agr vs (wipe σ vs) σ') : wipe σ' vs = wipe σ vs := by
  have hl : σ'.length = σ.length := a.1.trans (wipe_length σ vs)
  apply List.ext_getElem?
  intro i
  by_cases hi : i < σ.length
  · by_cases hv : i ∈ vs
    · rw [wipe_in σ' hv (by omega), wipe_in σ hv hi]
    · rw [wipe_ne σ' hv, a.2 i hv]
  · rw [List.getElem?_eq_none (by rw [wipe_length]; omega), List.getElem?_eq_none (by rw [wipe_length]; omega)]
/-- other slots but those at vs are the same -/
theorem Sta.wiped {B : Bg} {F H : Hp} {σ σ' : L2.St} {ρ : Env} {vs : List Nat} (S : Sta B F H σ ρ) (hl : σ'.length = σ.length) (he : ∀ i, i ∉ vs → σ'[i]? = σ[i]?) : Sta B F H σ' (wipeE ρ vs) where
  toWd := S.toWd
  len := by rw [hl, wipeE_len]; exact S.len
  ok := fun i s h => by
    rcases wipeE_get ρ i s vs h with rfl | ⟨q1, q2⟩
    · trivial
    · rw [he i q1]; exact S.ok i s q2
  dist := fun i j s t a n hi hj ms mt e => by
    rcases wipeE_get ρ i s vs hi with rfl | ⟨q1, q2⟩
    · cases ms
    · rcases wipeE_get ρ j t vs hj with rfl | ⟨q3, q4⟩
      · cases mt
      · rw [he i q1] at e
        rw [he j q3]
        exact S.dist i j s t a n q2 q4 ms mt e
/-- one more thing must stay -/
def Bg.also (B : Bg) (p : Addr) (o : HO) : Bg := { B with X := upd B.X p o }
theorem Sta.also {B : Bg} {F H : Hp} {σ : L2.St} {ρ : Env} {p : Addr} {o : HO} (S : Sta B F H σ ρ) (hp : H p = none) : Sta (B.also p o) F (upd H p o) σ ρ where
  toWd := ⟨(S.toWd.own hp).sub, S.old, (S.toWd.own hp).keep, (S.toWd.own hp).pin, fun a u h => by
    by_cases n : a = p
    · subst n
      have h' : upd B.X a o a = some u := h
      rw [upd_same] at h' ⊢
      exact ⟨h', S.sub.free hp⟩
    · have h' : upd B.X p o a = some u := h
      rw [upd_ne n] at h' ⊢
      exact S.ext a u h'⟩
  len := S.len
  dist := S.dist
  ok := fun i s h => by
    have q := (S.ok i s h).step (F' := F) (H' := upd H p o) (Ex.refl F) fun a vs h1 h2 _ _ => ⟨by rw [upd_ne (ne_of_none h1 hp)]; exact h1, h2⟩
    have nx : ∀ a vs, upd H p o a = some (.lst vs) → F a = none → B.X a = none → H a = some (.lst vs) → upd B.X p o a = none := fun a vs _ _ hx hh => by
      rw [upd_ne (ne_of_none hh hp)]; exact hx
    have q0 := S.ok i s h
    cases s with
    | emp => trivial
    | dat d =>
      cases e : (σ[i]?).join with
      | none => rw [e] at q; exact q
      | some v => rw [e] at q; exact q
    | own ds =>
      cases e : (σ[i]?).join with
      | none => rw [e] at q; exact q
      | some v =>
        rw [e] at q0
        obtain ⟨a, vs, rfl, h1, h2, h3, h4, h5⟩ := q0
        have n : a ≠ p := ne_of_none h2 hp
        exact ⟨a, vs, rfl, h1, by rw [upd_ne n]; exact h2, h3, h4, by show upd B.X p o a = none; rw [upd_ne n]; exact h5⟩
    | io ds =>
      cases e : (σ[i]?).join with
      | none => rw [e] at q; exact q
      | some v =>
        rw [e] at q0
        obtain ⟨a, vs, rfl, h1, h2, h3, h4, h5⟩ := q0
        have n : a ≠ p := ne_of_none h2 hp
        exact ⟨a, vs, rfl, h1, by rw [upd_ne n]; exact h2, h3, h4, by show upd B.X p o a = none; rw [upd_ne n]; exact h5⟩
/-- .. and need not any more; at its place another thing may stand -/
theorem Sta.less {B : Bg} {F H : Hp} {σ : L2.St} {ρ : Env} {p : Addr} {o : HO} (hx : B.X p = none) (h0 : B.H0 p = none) (S : Sta (B.also p o) F H σ ρ) (o' : HO) : Sta (B.also p o') F (upd H p o') σ ρ ∧ H p = some o ∧ F p = none := by
  have hX : ∀ a, a ≠ p → (B.also p o).X a = B.X a := fun a n => upd_ne n
  have e := S.ext p o upd_same
  have mne : ∀ (i : Nat) (a : Addr), (i, a) ∈ B.par → True := fun _ _ _ => trivial
  refine ⟨⟨⟨fun a u h => ?_, S.old, fun a u hm h => ?_, fun i a m => ?_, fun a u h => ?_⟩, fun i s h => ?_, S.dist, S.len⟩, e⟩
  · have n : a ≠ p := ne_of_none h e.2
    rw [upd_ne n]; exact S.sub a u h
  · have n : a ≠ p := fun z => by have h' : B.H0 a = some u := h; rw [z, h0] at h'; cases h'
    rw [upd_ne n]; exact S.keep a u hm h
  · by_cases n : a = p
    · rw [n, upd_same]; exact fun z => nomatch z
    · rw [upd_ne n]; exact S.pin i a m
  · by_cases n : a = p
    · subst n
      have h' : upd B.X a o' a = some u := h
      rw [upd_same] at h' ⊢
      exact ⟨h', e.2⟩
    · have h' : upd B.X p o' a = some u := h
      rw [upd_ne n] at h' ⊢
      exact S.ext a u (by show upd B.X p o a = some u; rw [upd_ne n]; exact h')
  · have q0 := S.ok i s h
    have ne : ∀ a, (B.also p o).X a = none → a ≠ p := fun a hx z => by
      have hx' : upd B.X p o a = none := hx
      rw [z, upd_same] at hx'; cases hx'
    cases s with
    | emp => trivial
    | dat d =>
      cases e : (σ[i]?).join with
      | none => rw [e] at q0; exact q0
      | some v => rw [e] at q0; exact q0
    | own ds =>
      cases e : (σ[i]?).join with
      | none => rw [e] at q0; exact q0
      | some v =>
        rw [e] at q0
        obtain ⟨a, vs, rfl, h1, h2, h3, h4, h5⟩ := q0
        have n := ne a h5
        exact ⟨a, vs, rfl, h1, by rw [upd_ne n]; exact h2, h3, h4, by show upd B.X p o' a = none; rw [upd_ne n]; have h5' : upd B.X p o a = none := h5; rw [upd_ne n] at h5'; exact h5'⟩
    | io ds =>
      cases e : (σ[i]?).join with
      | none => rw [e] at q0; exact q0
      | some v =>
        rw [e] at q0
        obtain ⟨a, vs, rfl, h1, h2, h3, h4, h5⟩ := q0
        have n := ne a h5
        exact ⟨a, vs, rfl, h1, by rw [upd_ne n]; exact h2, h3, h4, by show upd B.X p o' a = none; rw [upd_ne n]; have h5' : upd B.X p o a = none := h5; rw [upd_ne n] at h5'; exact h5'⟩
/-- what had to stay is frozen -/
theorem Sta.keepIt {B : Bg} {F H : Hp} {σ : L2.St} {ρ : Env} {p : Addr} {o : HO} (h0 : B.H0 p = none) (hx : B.X p = none) (S : Sta (B.also p o) F H σ ρ) : Sta B (upd F p o) H σ ρ := by
  have e := S.ext p o upd_same
  have ne : ∀ a, (B.also p o).X a = none → a ≠ p := fun a hx z => by
    have hx' : upd B.X p o a = none := hx
    rw [z, upd_same] at hx'; cases hx'
  have ex : Ex F (upd F p o) := Ex.new e.2
  refine ⟨⟨fun a u h => ?_, fun a h => ?_, S.keep, S.pin, fun a u h => ?_⟩, fun i s h => ?_, S.dist, S.len⟩
  · by_cases n : a = p
    · subst n; rw [upd_same] at h; cases h; exact e.1
    · rw [upd_ne n] at h; exact S.sub a u h
  · have n : a ≠ p := fun z => h (by rw [z]; exact h0)
    rw [upd_ne n]; exact S.old a h
  · have n : a ≠ p := fun z => by rw [z, hx] at h; cases h
    rw [upd_ne n]
    exact S.ext a u (by show upd B.X p o a = some u; rw [upd_ne n]; exact h)
  · have q0 := S.ok i s h
    cases s with
    | emp => trivial
    | dat d =>
      cases e : (σ[i]?).join with
      | none => rw [e] at q0; exact q0
      | some v => rw [e] at q0; exact Rp.mono ex q0
    | own ds =>
      cases e : (σ[i]?).join with
      | none => rw [e] at q0; exact q0
      | some v =>
        rw [e] at q0
        obtain ⟨a, vs, rfl, h1, h2, h3, h4, h5⟩ := q0
        have n := ne a h5
        exact ⟨a, vs, rfl, by rw [upd_ne n]; exact h1, h2, h3.mono ex, h4, by have h5' : upd B.X p o a = none := h5; rw [upd_ne n] at h5'; exact h5'⟩
    | io ds =>
      cases e : (σ[i]?).join with
      | none => rw [e] at q0; exact q0
      | some v =>
        rw [e] at q0
        obtain ⟨a, vs, rfl, h1, h2, h3, h4, h5⟩ := q0
        have n := ne a h5
        exact ⟨a, vs, rfl, by rw [upd_ne n]; exact h1, h2, h3.mono ex, h4, by have h5' : upd B.X p o a = none := h5; rw [upd_ne n] at h5'; exact h5'⟩
/-- nothing is raised -/
def Wn : Wx := fun _ _ _ _ => False
def R.calm {α : Type} : R α → R α
  | .err _ _ _ => .bad
  | r => r
def lcD (vs : List Nat) (mg : D → Env → Option Env) (mt : MT) (me : ME) : List D → List D → Env → R (List D)
  | [], acc, ρ => .ok acc ρ
  | d :: ds, acc, ρ => match mg d ρ with
    | none => .bad
    | some ρ1 => match mt ρ1 with
      | .ok true ρ2 => match me ρ2 with
        | .ok y ρ3 => if acc.length < sizeLine then lcD vs mg mt me ds (acc ++ [y]) (wipeE ρ3 vs) else .bad
        | _ => .bad
      | .ok false ρ2 => lcD vs mg mt me ds acc (wipeE ρ2 vs)
      | _ => .bad
def mLc (vs : List Nat) (mi : MA) (mg : D → Env → Option Env) (mt : MT) (me : ME) : ME := fun ρ => (mi ρ).bind fun ds ρ1 => (lcD vs mg mt me ds [] (wipeE ρ1 vs)).bind fun acc ρ2 => .ok (.lst acc) (wipeE ρ2 vs)
theorem ev_lc {wi : TI} {g : TG} {tt : TT} {te : TE} {vs : List Nat} {mi : MA} {mg : D → Env → Option Env} {mt : MT} {me : ME} (hi : EvI G W wi mi) (hg : EvG G g mg vs) (ht : EvT G Wn tt mt) (he : EvE G Wn te me) :
    EvE G W (tLc wi g tt te vs) (mLc vs mi mg mt me) := fun B F H σ ρ Q gg S h => by
  refine hi B F H σ ρ _ gg S (Fits.fst h fun J ds ρ0 F0 H0 e0 S0 wk h0 Dd hD => ?_)
  have x0 : B.X Dd = none := S0.xfree hD
  have z0 : B.H0 Dd = none := S0.fresh hD
  have fd : F0 Dd = none := S0.sub.free hD
  have Sw : Sta B F0 H0 (wipe σ vs) (wipeE ρ0 vs) := S0.wiped (wipe_length σ vs) fun i hi => wipe_ne σ hi
  have gB : ∀ acc, (B.also Dd (.lst acc)).G = G := fun _ => gg
  refine ⟨fun i m H => m = ds.length - i ∧ i ≤ ds.length ∧ ∃ F1 ρ1 acc dacc, Ex F0 F1 ∧ Sta (B.also Dd (.lst acc)) F1 H (wipe σ vs) ρ1 ∧ Rps G F1 acc dacc ∧ Fits B W (Rp G) σ F1 Q ((lcD vs mg mt me (ds.drop i) dacc ρ1).bind fun acc ρ2 => .ok (.lst acc) (wipeE ρ2 vs)),
    ⟨ds.length, by simp, Nat.zero_le _, F0, wipeE ρ0 vs, [], [], Ex.refl F0, Sw.also hD, .nil, by simpa using h0⟩, ?_⟩
  rintro i m H1 ⟨rfl, hil, F1, ρ1, acc, dacc, e1, S1, ra, h1⟩
  have w1 := wk i F1 H1 e1 S1.sub
  by_cases hlt : i < ds.length
  · right
    have hd : ds[i]? = some ds[i] := List.getElem?_eq_getElem hlt
    obtain ⟨hgo, hy⟩ := w1.1 _ hd
    refine ⟨hgo, fun H' => ∃ F1 ρ1 acc dacc, Ex F0 F1 ∧ Sta (B.also Dd (.lst acc)) F1 H' (wipe σ vs) ρ1 ∧ Rps G F1 acc dacc ∧ Fits B W (Rp G) σ F1 Q ((lcD vs mg mt me (ds.drop (i + 1)) dacc ρ1).bind fun acc ρ2 => .ok (.lst acc) (wipeE ρ2 vs)),
      fun H' q => ⟨ds.length - (i + 1), by omega, rfl, by omega, q⟩, fun x H2 hyl => ?_⟩
    obtain ⟨F2, hgr, rx⟩ := hy x H2 hyl
    obtain ⟨S2, e2⟩ := S1.gro hgr
    rw [List.drop_eq_getElem_cons hlt] at h1
    have h2 := Fits.mono e2 h1
    simp only [lcD] at h2
    split at h2
    · exact h2.elim
    · rename_i ρ2 hm
      refine hg (B.also Dd (.lst acc)) F2 H2 (wipe σ vs) ρ1 ρ2 x _ _ gg S2 rx hm fun σ2 F2' H2' e2' a2 S3 => ⟨wipe_agr a2, ?_⟩
      replace h2 := Fits.mono e2' h2
      replace e2 := e2.trans e2'
      have back : ∀ {B' : Bg} {F' H' : Hp} {ρ' : Env}, Sta B' F' H' σ2 ρ' → Sta B' F' H' (wipe σ vs) (wipeE ρ' vs) := fun S' => S'.wiped a2.1.symm fun j hj => (a2.2 j hj).symm
      refine ht (B.also Dd (.lst acc)) F2' H2' σ2 ρ2 _ gg S3 ?_
      cases et : mt ρ2 with
      | bad => rw [et] at h2; exact h2.elim
      | err c fs ρ3 => rw [et] at h2; exact h2.elim
      | ok b ρ3 =>
        rw [et] at h2
        intro b' F3 H3 e3 S4 rb
        cases (show b' = b from rb)
        cases b with
        | false =>
          simp only [Bool.false_eq_true, if_false]
          exact ⟨F3, _, acc, dacc, (e1.trans e2).trans e3, back S4, ra.mono (e2.trans e3), Fits.mono e3 h2⟩
        | true =>
          simp only [if_true]
          dsimp only at h2
          refine he (B.also Dd (.lst acc)) F3 H3 σ2 ρ3 _ gg S4 ?_
          cases ee : me ρ3 with
          | bad => rw [ee] at h2; exact h2.elim
          | err c fs ρ4 => rw [ee] at h2; exact h2.elim
          | ok y ρ4 =>
            rw [ee] at h2
            intro v F4 H4 e4 S5 rv
            simp only at h2
            split at h2
            · rename_i hlen
              obtain ⟨S6, q1, q2⟩ := Sta.less x0 z0 (back S5) (.lst (acc ++ [v]))
              have e5 := (e2.trans e3).trans e4
              exact ⟨acc, q1, by rw [ra.length]; exact hlen, F4, _, acc ++ [v], dacc ++ [y], e1.trans e5, S6, (ra.mono e5).append (.cons rv .nil), Fits.mono (e3.trans e4) h2⟩
            · exact h2.elim
  · left
    have hz : i = ds.length := by omega
    subst hz
    refine ⟨w1.2 (Nat.le_refl _), ?_⟩
    rw [List.drop_length] at h1
    have h3 : ∀ v F' H', Ex F1 F' → Sta B F' H' σ (wipeE ρ1 vs) → Rp G F' v (.lst dacc) → Q v H' := h1
    have S2 := Sta.keepIt z0 x0 S1
    have nf : F1 Dd = none := (S1.ext Dd _ upd_same).2
    exact h3 _ _ _ (Ex.new nf) (S2.wiped (wipe_length σ vs).symm fun j hj => (wipe_ne σ hj).symm) (.lst upd_same (ra.mono (Ex.new nf)))
end
end En
namespace En
open PySem L2 PySem.Spec PyProof.Rows
/-! ## defs: a promise that holds where no repr is under way -/
structure FnG (P : Program) (w : World) (K : PySem.W.Frag) (mg : Str → Option Value) (base : Heap) (CX : CXT) (k : Nat) (f : Addr) (fd : FuncData) (ps : List Str) (sp : Sp) : Prop where
  len : ∀ vs H Q E, sp vs H Q E → vs.length = ps.length
  run : ∀ (A : Around) (outer : List PySem.Env) (s : Shared) (H : Hp) (args : Args) (us : List Value) (vs : List V) (Q : VK) (E : XK), A.guards = some [] → Room k A → Env0 P w K mg base A outer s H →
    BindsTo s fd args (ps.zip us) → Vals vs us → sp vs H Q E → codeAny (model P w) A (.call (.ref f) args) (CR CX outer P w H s Q E) s
section
variable {P : Program} {w : World} {K : PySem.W.Frag} {mg : Str → Option Value} {base : Heap} {CX : CXT}
theorem FnG.up {j k : Nat} {f : Addr} {fd : FuncData} {ps : List Str} {sp : Sp} (F : FnG P w K mg base CX j f fd ps sp) (h : j ≤ k) : FnG P w K mg base CX k f fd ps sp :=
  ⟨F.len, fun A outer s H args us vs Q E hg hr => F.run A outer s H args us vs Q E hg (hr.mono h)⟩
theorem FnG.weak {k : Nat} {f : Addr} {fd : FuncData} {ps : List Str} {sp sp' : Sp} (F : FnG P w K mg base CX k f fd ps sp) (h : ∀ vs H Q E, sp' vs H Q E → sp vs H Q E) : FnG P w K mg base CX k f fd ps sp' :=
  ⟨fun vs H Q E q => F.len vs H Q E (h _ _ _ _ q), fun A outer s H args us vs Q E hg hr e b v q => F.run A outer s H args us vs Q E hg hr e b v (h _ _ _ _ q)⟩
/-- the context of a body -/
abbrev bodyX (CX : CXT) (P : Program) (w : World) (K : PySem.W.Frag) (mg : Str → Option Value) (base : Heap) (N : List Str) (qual : Str) (st : Stmt) (f : Addr) (cdv : Value) (A : Around) (outer : List PySem.Env) (s : Shared) (H : Hp) (E : XK) : Cx :=
  cxOf CX P w K mg base N qual (defScope st) f cdv A outer s H E
theorem fnG_of {x qual : Str} {st : Stmt} {f : Addr} {fd : FuncData} {N ps : List Str} {k : Nat} {sp : Sp} (F : Fun K x qual st f fd) (S : FnScope N ps (defScope st)) (len : ∀ vs H Q E, sp vs H Q E → vs.length = ps.length)
    (hb : ∀ (cdv : Value) (A : Around) (outer : List PySem.Env) (s : Shared) (H : Hp) (vs : List V) (Q : VK) (E : XK), A.guards = some [] → Room k (A.deeper (envOfC qual (defScope st) s.heap.objs.size f cdv)) → sp vs H Q E →
      ∃ t, PSs (bodyX CX P w K mg base N qual st f cdv A outer s H E) (defBody st) t ∧ t { nx := fun _ H' => Q .non H', rt := Q } (L2.start N vs) H) : FnG P w K mg base CX (k + 1) f fd ps sp := by
  obtain ⟨oc, od, kV, doc, pm, an, cdv, ct, osl, rfl, lk, cd⟩ := F.ex
  constructor
  · exact len
  intro A outer s H args us vs Q E gd room e0 bd rel want
  have inK : K.In s.heap := e0.mod.kin.keeps (fun b o q => And.left (e0.bs b o q))
  have free : s.heap.NoLimit := e0.mod.nolimit.keeps (fun b o q => And.left (e0.bs b o q))
  have kinds : ∀ y ∈ ps.zip us, (defScope st).names.lookup y.1 = some .local ∨
      ((defScope st).names.lookup y.1 = some .cell ∧ ((cellsFrom (s.heap.objs.size + 1) (defScope st).names []).lookup y.1).isSome = true) := by
    intro y hy
    have z := S.par y.1 (List.of_mem_zip (a := y.1) (b := y.2) hy).1
    exact z.imp id fun q => ⟨q, PySem.W.cellsFrom_some _ _ _ (.inl q)⟩
  obtain ⟨t, dt, rd⟩ := hb cdv A outer s H vs Q E gd (room.deeper _) want
  refine codeAny_call_function room.depth (inK _ _ lk) rfl S.co S.gen rfl (PySem.W.codeRec_of inK cd) (bd _ _ _ _ (wpAny_newFunctionEnv_cells S.kind kinds ?_))
  rintro env rfl s1 x
  refine ⟨free.keeps x.toInCall.keep, codeAny_func ?_⟩
  have I : Inv (bodyX CX P w K mg base N qual st f cdv A outer s H E) [] (L2.start N vs) H s1 := inv_start S room.hd e0 (len _ _ _ _ want) rel x
  refine wpAny_mono (dt.run [] s1 _ H _ I rd) ?_ (fun e s' q => q)
  intro fl s' hs
  match fl, hs with
  | .ret u, ⟨v, _, H', J, rv, q⟩ => exact ⟨v, H', J.os, J.bare, J.base, J.hok, rv, q⟩
  | .next, ⟨_, H', J, q⟩ => exact ⟨V.non, H', J.os, J.bare, J.base, J.hok, rfl, q⟩
  | .brk, ⟨_, _, _, q⟩ => exact q.elim
  | .cont, ⟨_, _, _, q⟩ => exact q.elim
end
section
variable {X : Cx} {CX : CXT} {k : Nat} {f C : Addr} {fd : FuncData} {ps : List Str} {sp : Sp} {dvs : List V} {ds : List Value} {E : XK} {x m : Str} {p pos apos : Pos} {e o : Expr} {es : List Expr} {ta : TE} {t : TA}
theorem run_fnG {pins : List (Addr × Obj)} {σ : L2.St} {H : Hp} {s : Shared} {Q : VK} {us : List Value} {vs : List V} (gd : X.A.guards = some []) (F : FnG X.prog X.w X.K X.mg X.base CX k f fd ps sp) (hr : Room k X.A) (hb : Binds X.K fd ps ds) (hd : Vals dvs ds)
    (hx : Passes CX X E) (I : Inv X pins σ H s) (r : Vals vs us) (h : sp (vs ++ dvs) H Q E) : wpAny (model X.prog X.w) X.A (call (.ref f) us) (EP X pins σ Q) X.xe s := by
  have both := r.append hd
  have ln : (us ++ ds).length = ps.length := both.length.symm.trans (F.len _ _ _ _ h)
  refine wpAny_call (codeAny_mono (F.run X.A X.stack s H ⟨us, []⟩ (us ++ ds) (vs ++ dvs) Q E gd hr I.env0 (hb s us I.kIn ln) both h) ?_)
  intro r s' q
  match r, q with
  | .error e, q => exact hx pins σ H s e s' I q
  | .ok (.ret u), q => exact I.after q
/-- f(e, ..) -/
theorem pe_callG (gd : X.A.guards = some []) (F : FnG X.prog X.w X.K X.mg X.base CX k f fd ps sp) (hr : Room k X.A) (hg : Gl X x) (hm : X.mg x = some (.ref f)) (hk : PySem.W.keepIn X.K (.ref f) = true) (hb : Binds X.K fd ps ds) (hd : Vals dvs ds) (hx : Passes CX X E)
    (ha : PA X (e :: es) t) (hdb : (x == ("__debug__" : Str)) = false := by decide) (he : starEach (e :: es) X.env = (false, eval e X.env) :: starEach es X.env := by rfl) (hpl : (backTo pos (starEach es X.env)).any (·.1) = false := by rfl) :
    PE X (.Call (.Name x p) (e :: es) [] pos) (tCall sp dvs E t) := ⟨fun pins s σ H Q I h =>
  wpAny_Call_Name_kw (ld_glob I hg hm (PySem.W.callWith_K (h₀ := X.base) I.ok.mod.kin hk (thn (ha.run pos pins s σ H _ I h) fun us s1 ⟨vs, H1, I1, r, q⟩ => ⟨I1.kIn, run_fnG gd F hr hb hd hx I1 r q⟩) he hpl) hdb)⟩
theorem pe_callG0 (gd : X.A.guards = some []) (F : FnG X.prog X.w X.K X.mg X.base CX k f fd ps sp) (hr : Room k X.A) (hg : Gl X x) (hm : X.mg x = some (.ref f)) (hk : PySem.W.keepIn X.K (.ref f) = true) (hb : Binds X.K fd ps ds) (hd : Vals dvs ds) (hx : Passes CX X E)
    (hdb : (x == ("__debug__" : Str)) = false := by decide) : PE X (.Call (.Name x p) [] [] pos) (tCall sp dvs E tNil) := ⟨fun pins s σ H Q I h =>
  wpAny_Call_Name_kw (ld_glob I hg hm (PySem.W.callWith_K0 I.kIn hk (run_fnG (us := []) gd F hr hb hd hx I .nil h)) hdb)⟩
end
/-! ## promises on data -/
/-- a def that only reads: its value by its arguments -/
def SpP (G : Cg) (f : List D → Option D) : Sp := fun vs H Q _ => ∃ F ds d, Ex F H ∧ Rps G F vs ds ∧ f ds = some d ∧
  ∀ v F' H', Ex F F' → Ex F' H' → (∀ a, H a ≠ none → F' a = F a) → Ex H H' → Rp G F' v d → Q v H'
/-- a def that changes the list that is its first argument -/
def SpI (G : Cg) (f : List D → List D → Option (D × List D)) : Sp := fun vs H Q _ => ∃ F a us cs ws ds d cs', vs = .ref a :: ws ∧ Ex F H ∧ F a = none ∧ H a = some (.lst us) ∧ Rps G F us cs ∧ Rps G F ws ds ∧ f cs ds = some (d, cs') ∧
  ∀ v F' H' us', Ex F F' → Ex F' H' → (∀ b, H b ≠ none → F' b = F b) → (∀ b o, b ≠ a → H b = some o → H' b = some o) → H' a = some (.lst us') → Rps G F' us' cs' → Rp G F' v d → Q v H'
def entry (N : List Str) (ds : List D) : Env := ds.map .dat ++ List.replicate (N.length - ds.length) .emp
def entryI (N : List Str) (cs ds : List D) : Env := .io cs :: (ds.map .dat ++ List.replicate (N.length - 1 - ds.length) .emp)
def O.val : O → Option D
  | .rt d _ => some d
  | .nx _ => some .non
  | _ => none
def io0 (ρ : En.Env) : Option (List D) := match (ρ[0]? : Option Sl) with
  | some (Sl.io cs) => some cs
  | _ => none
def O.valI : O → Option (D × List D)
  | .rt d ρ => (io0 ρ).map fun cs => (d, cs)
  | .nx ρ => (io0 ρ).map fun cs => (.non, cs)
  | _ => none
theorem Sta.entry {G : Cg} {F H : Hp} {N : List Str} {vs : List V} {ds : List D} (e : Ex F H) (r : Rps G F vs ds) : Sta ⟨G, F, H, fun _ => none, []⟩ F H (L2.start N vs) (entry N ds) where
  sub := e
  old := fun _ _ => rfl
  keep := fun a o _ h => h
  pin := fun i a m => by simp at m
  ext := fun a o h => by cases h
  len := by unfold L2.start En.entry; rw [List.length_append, List.length_append, List.length_map, List.length_map, r.length, List.length_replicate, List.length_replicate]
  ok := fun i s h => by
    unfold En.entry at h
    by_cases hi : i < ds.length
    · rw [List.getElem?_append_left (by simpa using hi), List.getElem?_map, Option.map_eq_some_iff] at h
      obtain ⟨d, hd, rfl⟩ := h
      obtain ⟨v, h1, h2⟩ := r.get hd
      unfold L2.start
      rw [List.getElem?_append_left (by rw [List.length_map, r.length]; exact hi), List.getElem?_map, h1]
      exact h2
    · rw [List.getElem?_append_right (by simpa using hi), List.getElem?_replicate] at h
      split at h
      · cases h; trivial
      · cases h
  dist := fun i j s t a _ hi _ ms _ _ => by
    unfold En.entry at hi
    by_cases hl : i < ds.length
    · rw [List.getElem?_append_left (by simpa using hl), List.getElem?_map, Option.map_eq_some_iff] at hi
      obtain ⟨d, _, rfl⟩ := hi
      cases ms
    · rw [List.getElem?_append_right (by simpa using hl), List.getElem?_replicate] at hi
      split at hi
      · cases hi; cases ms
      · cases hi
theorem Sta.entryI {G : Cg} {F H : Hp} {N : List Str} {a : Addr} {us vs : List V} {cs ds : List D} (e : Ex F H) (hF : F a = none) (hH : H a = some (.lst us)) (rc : Rps G F us cs) (r : Rps G F vs ds) (hN : 1 ≤ N.length) :
    Sta ⟨G, F, H, fun _ => none, [(0, a)]⟩ F H (L2.start N (.ref a :: vs)) (entryI N cs ds) where
  sub := e
  old := fun _ _ => rfl
  keep := fun a o _ h => h
  pin := fun i b m => by
    simp only [List.mem_singleton, Prod.mk.injEq] at m
    rw [m.2, hH]; exact fun z => nomatch z
  ext := fun a o h => by cases h
  len := by
    unfold L2.start En.entryI
    simp only [List.map_cons, List.length_append, List.length_cons, List.length_map, List.length_replicate, r.length, List.cons_append]
    omega
  ok := fun i s h => by
    cases i with
    | zero =>
      unfold En.entryI at h
      simp only [List.getElem?_cons_zero, Option.some.injEq] at h
      subst h
      exact ⟨a, us, rfl, hF, hH, rc, by simp, rfl⟩
    | succ i =>
      unfold En.entryI at h
      unfold L2.start
      simp only [List.getElem?_cons_succ, List.map_cons, List.cons_append] at h ⊢
      by_cases hi : i < ds.length
      · rw [List.getElem?_append_left (by simpa using hi), List.getElem?_map, Option.map_eq_some_iff] at h
        obtain ⟨d, hd, rfl⟩ := h
        obtain ⟨v, h1, h2⟩ := r.get hd
        rw [List.getElem?_append_left (by rw [List.length_map, r.length]; exact hi), List.getElem?_map, h1]
        exact h2
      · rw [List.getElem?_append_right (by simpa using hi), List.getElem?_replicate] at h
        split at h
        · cases h; trivial
        · cases h
  dist := fun i j s t b n hi hj ms mt e => by
    have z : ∀ (l : Nat) (u : Sl), (En.entryI N cs ds)[l]? = some u → u.mine = true → l = 0 := fun l u hl mu => by
      cases l with
      | zero => rfl
      | succ l =>
        unfold En.entryI at hl
        simp only [List.getElem?_cons_succ] at hl
        by_cases hx : l < ds.length
        · rw [List.getElem?_append_left (by simpa using hx), List.getElem?_map, Option.map_eq_some_iff] at hl
          obtain ⟨d, _, rfl⟩ := hl
          cases mu
        · rw [List.getElem?_append_right (by simpa using hx), List.getElem?_replicate] at hl
          split at hl
          · cases hl; cases mu
          · cases hl
    exact absurd ((z i s hi ms).trans (z j t hj mt).symm) n
section
variable {P : Program} {w : World} {K : PySem.W.Frag} {mg : Str → Option Value} {base : Heap}
/-- a def on data, by its body's mirror -/
theorem defP {G : Cg} {x qual : Str} {st : Stmt} {f : Addr} {fd : FuncData} {N ps : List Str} {k : Nat} {g : List D → Option D} {m : MS} (F : Fun K x qual st f fd) (S : FnScope N ps (defScope st))
    (hb : ∀ (cdv : Value) (A : Around) (outer : List PySem.Env) (s : Shared) (H : Hp) (E : XK), A.guards = some [] → Room k (A.deeper (envOfC qual (defScope st) s.heap.objs.size f cdv)) →
      ∃ t, PSs (bodyX CX0 P w K mg base N qual st f cdv A outer s H E).nox (defBody st) t ∧ EvS G Wn t m)
    (hm : ∀ ds d, g ds = some d → ds.length = ps.length ∧ (m (entry N ds)).val = some d) : FnG P w K mg base CX0 (k + 1) f fd ps (SpP G g) := by
  refine fnG_of F S (fun vs H Q E h => ?_) fun cdv A outer s H vs Q E gd hr h => ?_
  · obtain ⟨F0, ds, d, _, r, e, _⟩ := h
    rw [r.length]; exact (hm ds d e).1
  · obtain ⟨t, dt, ev⟩ := hb cdv A outer s H E gd hr
    refine ⟨t, dt.nox, ?_⟩
    obtain ⟨F0, ds, d, e0, r, e, q⟩ := h
    have z := (hm ds d e).2
    refine ev ⟨G, F0, H, fun _ => none, []⟩ F0 H (L2.start N vs) (entry N ds) _ rfl (Sta.entry e0 r) ?_
    cases eo : m (entry N ds) with
    | nx ρ =>
      rw [eo] at z
      cases z
      exact fun σ' F' H' x1 S' => q .non F' H' x1 S'.sub S'.old (fun a o h => S'.keep a o (by simp) h) .non
    | rt d' ρ =>
      rw [eo] at z
      cases z
      exact fun v σ' F' H' x1 S' rv => q v F' H' x1 S'.sub S'.old (fun a o h => S'.keep a o (by simp) h) rv
    | bk => rw [eo] at z; cases z
    | ct => rw [eo] at z; cases z
    | err => rw [eo] at z; cases z
    | bad => rw [eo] at z; cases z
theorem Sta.io0 {B : Bg} {F H : Hp} {σ : L2.St} {ρ : Env} {a : Addr} {cs : List D} (S : Sta B F H σ ρ) (hp : B.par = [(0, a)]) (h : io0 ρ = some cs) : ∃ us, H a = some (.lst us) ∧ Rps B.G F us cs := by
  unfold En.io0 at h
  split at h
  · rename_i cs' e
    cases h
    have q := S.ok 0 _ e
    cases e1 : (σ[0]?).join with
    | none => rw [e1] at q; exact q.elim
    | some v =>
      rw [e1] at q
      obtain ⟨b, us, rfl, _, h2, h3, h4, _⟩ := q
      rw [hp, List.mem_singleton] at h4
      cases h4
      exact ⟨us, h2, h3⟩
  · cases h
theorem defI {G : Cg} {x qual : Str} {st : Stmt} {f : Addr} {fd : FuncData} {N ps : List Str} {k : Nat} {g : List D → List D → Option (D × List D)} {m : MS} (F : Fun K x qual st f fd) (S : FnScope N ps (defScope st)) (hN : 1 ≤ N.length)
    (hb : ∀ (cdv : Value) (A : Around) (outer : List PySem.Env) (s : Shared) (H : Hp) (E : XK), A.guards = some [] → Room k (A.deeper (envOfC qual (defScope st) s.heap.objs.size f cdv)) →
      ∃ t, PSs (bodyX CX0 P w K mg base N qual st f cdv A outer s H E).nox (defBody st) t ∧ EvS G Wn t m)
    (hm : ∀ cs ds z, g cs ds = some z → ds.length + 1 = ps.length ∧ (m (entryI N cs ds)).valI = some z) : FnG P w K mg base CX0 (k + 1) f fd ps (SpI G g) := by
  refine fnG_of F S (fun vs H Q E h => ?_) fun cdv A outer s H vs Q E gd hr h => ?_
  · obtain ⟨F0, a, us, cs, ws, ds, d, cs', rfl, _, _, _, _, r, e, _⟩ := h
    rw [List.length_cons, r.length]; exact (hm cs ds _ e).1
  · obtain ⟨t, dt, ev⟩ := hb cdv A outer s H E gd hr
    refine ⟨t, dt.nox, ?_⟩
    obtain ⟨F0, a, us, cs, ws, ds, d, cs', rfl, e0, hF, hH, rc, r, e, q⟩ := h
    have z := (hm cs ds _ e).2
    refine ev ⟨G, F0, H, fun _ => none, [(0, a)]⟩ F0 H (L2.start N (.ref a :: ws)) (entryI N cs ds) _ rfl (Sta.entryI e0 hF hH rc r hN) ?_
    have kp : ∀ {F' H' : Hp} {σ' : L2.St} {ρ : Env}, Sta ⟨G, F0, H, fun _ => none, [(0, a)]⟩ F' H' σ' ρ → ∀ b o, b ≠ a → H b = some o → H' b = some o := fun S' b o nb hb => S'.keep b o (fun i hi => by
      simp only [List.mem_singleton, Prod.mk.injEq] at hi
      exact nb hi.2) hb
    cases eo : m (entryI N cs ds) with
    | nx ρ =>
      rw [eo] at z
      simp only [O.valI, Option.map_eq_some_iff] at z
      obtain ⟨cs2, z1, z2⟩ := z
      cases z2
      intro σ' F' H' x1 S'
      obtain ⟨us', h1, h2⟩ := S'.io0 rfl z1
      exact q .non F' H' us' x1 S'.sub S'.old (kp S') h1 h2 .non
    | rt d' ρ =>
      rw [eo] at z
      simp only [O.valI, Option.map_eq_some_iff] at z
      obtain ⟨cs2, z1, z2⟩ := z
      cases z2
      intro v σ' F' H' x1 S' rv
      obtain ⟨us', h1, h2⟩ := S'.io0 rfl z1
      exact q v F' H' us' x1 S'.sub S'.old (kp S') h1 h2 rv
    | bk => rw [eo] at z; cases z
    | ct => rw [eo] at z; cases z
    | err => rw [eo] at z; cases z
    | bad => rw [eo] at z; cases z
end
/-! ## calls on data -/
theorem Sta.grown {B : Bg} {F H F' H' : Hp} {σ : L2.St} {ρ : Env} (S : Sta B F H σ ρ) (x1 : Ex F F') (x2 : Ex F' H') (x3 : ∀ a, H a ≠ none → F' a = F a) (x4 : Ex H H') : Sta B F' H' σ ρ where
  sub := x2
  old := fun a h => by
    have hh : H a ≠ none := fun z => h (S.fresh z)
    rw [x3 a hh]; exact S.old a h
  keep := fun a o hm h => x4 a o (S.keep a o hm h)
  pin := fun i a m z => S.pin i a m (x4.free z)
  ext := fun a o h => by
    have q := S.ext a o h
    exact ⟨x4 a o q.1, by rw [x3 a (by rw [q.1]; exact fun z => nomatch z)]; exact q.2⟩
  len := S.len
  dist := S.dist
  ok := fun i s h => (S.ok i s h).step x1 fun a vs h1 h2 _ _ => ⟨x4 _ _ h1, by rw [x3 a (by rw [h1]; exact fun z => nomatch z)]; exact h2⟩
section
variable {G : Cg} {W : Wx}
theorem ev_callP {f : List D → Option D} {E : XK} {ta : TA} {ma : MA} (ha : EvA G W ta ma) : EvE G W (tCall (SpP G f) [] E ta) (mCB f ma) := fun B F H σ ρ Q g S h =>
  ha B F H σ ρ _ g S (h.fst fun vs ds ρ1 F1 H1 e1 S1 r1 h1 => by
    cases e : f ds with
    | none => rw [e] at h1; exact h1.elim
    | some d =>
      rw [e] at h1
      refine ⟨F1, ds, d, S1.sub, by rw [List.append_nil]; exact r1, e, fun v F' H' x1 x2 x3 x4 rv => h1 v F' H' x1 (S1.grown x1 x2 x3 x4) rv⟩)
def mCallI (f : List D → List D → Option (D × List D)) (i : Nat) (ma : MA) : ME := fun ρ => match held ρ[i]? with
  | none => .bad
  | some _ => (ma ρ).bind fun ds ρ1 => match ρ1[i]? with
    | some s => match held (some s) with
      | some cs => match f cs ds with
        | some (d, cs') => .ok d (ρ1.set i (s.put cs'))
        | none => .bad
      | none => .bad
    | none => .bad
theorem ev_callI {f : List D → List D → Option (D × List D)} {E : XK} {ta : TA} {ma : MA} (i : Nat) (ha : EvA G W ta ma) : EvE G W (tCall (SpI G f) [] E (tCons (tVar i) ta)) (mCallI f i ma) := fun B F H σ ρ Q g S h => by
  unfold mCallI at h
  split at h
  · exact h.elim
  · rename_i cs0 hd
    obtain ⟨s0, z1, z2⟩ := held_inv hd
    obtain ⟨a, us0, ea, _⟩ := S.mine z1 z2
    refine ⟨_, ea, ha B F H σ ρ _ g S (h.fst fun vs ds ρ1 F1 H1 e1 S1 r1 h1 => ?_)⟩
    split at h1
    · rename_i s hs
      split at h1
      · rename_i cs hcs
        split at h1
        · rename_i d cs' hf
          obtain ⟨s', y1, y2⟩ := held_inv hcs
          cases y1
          obtain ⟨a', us, q1, q2, q3, q4, q5⟩ := S1.mine hs y2
          rw [ea] at q1
          cases q1
          refine ⟨F1, a, us, cs, vs, ds, d, cs', by rw [List.append_nil], S1.sub, q2, q3, g ▸ q4, r1, hf, fun v F' H' us' x1 x2 x3 x4 x5 x6 rv => ?_⟩
          have fa : F' a = none := by rw [x3 a (by rw [q3]; exact fun z => nomatch z)]; exact q2
          have S2 : Sta B F' (upd H' a (.lst us)) σ ρ1 := S1.grown x1 (fun b o hb => by
            have n : b ≠ a := ne_of_none hb fa
            rw [upd_ne n]; exact x2 b o hb) x3 (fun b o hb => by
            by_cases n : b = a
            · subst n; rw [upd_same]; rw [q3] at hb; exact hb
            · rw [upd_ne n]; exact x4 b o n hb)
          have S3 := S2.write (es := cs') (vs := us') hs y2 ea (g ▸ x6)
          have eqH : upd (upd H' a (.lst us)) a (.lst us') = H' := by
            rw [upd_upd]
            funext b
            by_cases n : b = a
            · subst n; rw [upd_same, x5]
            · rw [upd_ne n]
          rw [eqH] at S3
          exact h1 v F' H' x1 S3 rv
        · exact h1.elim
      · exact h1.elim
    · exact h1.elim
end
end En
namespace En
open PySem L2 PySem.Spec PyProof.Rows
/-! ## isinstance of built-in classes -/
inductive Ty where
  | int | bool | str | tup | lst | dct
def Ty.nm : Ty → String
  | .int => "int"
  | .bool => "bool"
  | .str => "str"
  | .tup => "tuple"
  | .lst => "list"
  | .dct => "dict"
def D.isT (d : D) (T : Ty) : Option Bool := match d with
  | .non => some false
  | .bl _ => some (match T with | .int => true | .bool => true | _ => false)
  | .int _ => some (match T with | .int => true | _ => false)
  | .str _ => some (match T with | .str => true | _ => false)
  | .lst _ => some (match T with | .lst => true | _ => false)
  | .tup _ => some (match T with | .tup => true | _ => false)
  | .dct _ => some (match T with | .dct => true | _ => false)
  | .obj _ _ => none
  | .scr _ => none
section
variable {G : Cg} {W : Wx}
theorem Rp.ty {F H : Hp} {v : V} {d : D} {T : Ty} {b : Bool} (e : Ex F H) (h : Rp G F v d) (hb : d.isT T = some b) : ∃ t, TyX G.K H v t ∧ PySem.W.kitOne G.K t (.type T.nm) = some b := by
  cases h with
  | non => cases hb; exact ⟨_, .base .non, kit_ty (by cases T <;> decide +kernel)⟩
  | bl x => cases T <;> (cases hb; exact ⟨_, .base (.bl x), kit_ty (by decide +kernel)⟩)
  | int x => cases T <;> (cases hb; exact ⟨_, .base (.int x), kit_ty (by decide +kernel)⟩)
  | str x => cases T <;> (cases hb; exact ⟨_, .base (.str x), kit_ty (by decide +kernel)⟩)
  | lst h1 r => cases T <;> (cases hb; exact ⟨_, .base (.lst (e _ _ h1)), kit_ty (by decide +kernel)⟩)
  | dct h1 r => cases T <;> (cases hb; exact ⟨_, .base (.dK (e _ _ h1)), kit_ty (by decide +kernel)⟩)
  | @tup a vs ds h1 r =>
    have ty : TyX G.K H (.ref a) (.type "tuple") := by
      rcases h1 with (h1 | ⟨o, h1⟩) | ⟨o, its, n, k, c, _⟩
      · exact .base (.tup (e _ _ h1))
      · exact .fTuple (e _ _ h1)
      · exact .kTuple k c
    cases T <;> (cases hb; exact ⟨_, ty, kit_ty (by decide +kernel)⟩)
  | obj => cases hb
  | scr => cases hb
def dIsi (T : Ty) (d : D) : Option D := (d.isT T).map .bl
theorem ev_isi {tx : TE} {mx : ME} (T : Ty) (hx : EvE G W tx mx) : EvE G W (tCB (rIsi G.K) (tCons tx (tCons (tC (.ty T.nm)) tNil))) (mUn (dIsi T) mx) := fun B F H σ ρ Q g S h =>
  hx B F H σ ρ _ g S (h.fst fun v a ρ1 F1 H1 e1 S1 r1 h1 => by
    obtain ⟨d, e, q, _⟩ := lift_fits S1 h1
    unfold dIsi at e
    rw [Option.map_eq_some_iff] at e
    obtain ⟨b, hb, rfl⟩ := e
    obtain ⟨t, q1, q2⟩ := r1.ty S1.sub hb
    exact ⟨v, .ty T.nm, t, .type T.nm, b, rfl, .ty _, q1, q2, q _ (.bl _)⟩)
def dIsi2 (T T' : Ty) (d : D) : Option D := match d.isT T, d.isT T' with
  | some a, some b => some (.bl (a || b))
  | _, _ => none
theorem Rp.ty1 {F H : Hp} {v : V} {d : D} {T T' : Ty} {b b' : Bool} (e : Ex F H) (h : Rp G F v d) (hb : d.isT T = some b) (hb' : d.isT T' = some b') : ∃ t, TyX G.K H v t ∧ PySem.W.kitOne G.K t (.type T.nm) = some b ∧ PySem.W.kitOne G.K t (.type T'.nm) = some b' := by
  cases h with
  | non => cases hb; cases hb'; exact ⟨_, .base .non, kit_ty (by cases T <;> decide +kernel), kit_ty (by cases T' <;> decide +kernel)⟩
  | bl x => cases hb; cases hb'; exact ⟨_, .base (.bl x), kit_ty (by cases T <;> decide +kernel), kit_ty (by cases T' <;> decide +kernel)⟩
  | int x => cases hb; cases hb'; exact ⟨_, .base (.int x), kit_ty (by cases T <;> decide +kernel), kit_ty (by cases T' <;> decide +kernel)⟩
  | str x => cases hb; cases hb'; exact ⟨_, .base (.str x), kit_ty (by cases T <;> decide +kernel), kit_ty (by cases T' <;> decide +kernel)⟩
  | lst h1 r => cases hb; cases hb'; exact ⟨_, .base (.lst (e _ _ h1)), kit_ty (by cases T <;> decide +kernel), kit_ty (by cases T' <;> decide +kernel)⟩
  | dct h1 r => cases hb; cases hb'; exact ⟨_, .base (.dK (e _ _ h1)), kit_ty (by cases T <;> decide +kernel), kit_ty (by cases T' <;> decide +kernel)⟩
  | @tup a vs ds h1 r =>
    have ty : TyX G.K H (.ref a) (.type "tuple") := by
      rcases h1 with (h1 | ⟨o, h1⟩) | ⟨o, its, n, k, c, _⟩
      · exact .base (.tup (e _ _ h1))
      · exact .fTuple (e _ _ h1)
      · exact .kTuple k c
    cases hb; cases hb'; exact ⟨_, ty, kit_ty (by cases T <;> decide +kernel), kit_ty (by cases T' <;> decide +kernel)⟩
  | obj => cases hb
  | scr => cases hb
theorem ev_isi2 {tx : TE} {mx : ME} (T T' : Ty) (hx : EvE G W tx mx) :
    EvE G W (tCB (rIsiT G.K) (tCons tx (tCons (tTup (tCons (tC (.ty T.nm)) (tCons (tC (.ty T'.nm)) tNil))) tNil))) (mUn (dIsi2 T T') mx) := fun B F H σ ρ Q g S h =>
  hx B F H σ ρ _ g S (h.fst fun v a ρ1 F1 H1 e1 S1 r1 h1 => by
    obtain ⟨d, e, q, qn⟩ := lift_fits S1 h1
    unfold dIsi2 at e
    split at e
    · rename_i b b' hb hb'
      cases e
      refine ⟨by show 2 ≤ sizeLine; decide, fun p hp => ?_⟩
      obtain ⟨t, q1, q2, q3⟩ := r1.ty1 (S1.sub.trans (Ex.new hp)) hb hb'
      refine ⟨v, p, [.ty T.nm, .ty T'.nm], t, [.type T.nm, .type T'.nm], b || b', rfl, upd_same, .cons (.ty _) (.cons (.ty _) .nil), q1, ?_, qn p _ _ hp (.bl _)⟩
      refine kitAny_cons q2 (fun z => kitAny_cons q3 (fun z' => ?_) fun z' => ?_) fun z => ?_
      · subst z; subst z'; exact kitAny_nil
      · subst z; subst z'; rfl
      · subst z; rfl
    · cases e)
end
/-! ## repr -/
mutual
def toPyd : D → Option PyData
  | .non => some .none
  | .bl b => some (.bool b)
  | .int i => some (.int i)
  | .str x => some (.str x)
  | .lst ds => (toPyds ds).map .list
  | .tup ds => (toPyds ds).map .tuple
  | .dct ds => (toPydk ds).map .dict
  | .obj _ _ => none
  | .scr _ => none
def toPyds : List D → Option (List PyData)
  | [] => some []
  | d :: ds => match toPyd d, toPyds ds with
    | some p, some ps => some (p :: ps)
    | _, _ => none
def toPydk : List (Key × D) → Option (List (PyData × PyData))
  | [] => some []
  | (k, d) :: ds => match toPyd d, toPydk ds with
    | some p, some ps => some ((match k with | .inl i => .int i | .inr x => .str x, p) :: ps)
    | _, _ => none
end
section
variable {X : Cx} {pins : List (Addr × Obj)} {σ : L2.St} {H : Hp} {s : Shared} {G : Cg}
def kPy : Key → PyData
  | .inl i => .int i
  | .inr x => .str x
theorem pairs_reads {P : Program} {w : World} {h : Heap} : ∀ {es : List DictEntry} {vs : List (Key × Value)}, Pairs (mixKind P w) es vs → es.map (·.val) = vs.map (·.2) ∧ ReadsAll h (es.map (·.key)) (vs.map fun p => kPy p.1) []
  | _, _, .nil => ⟨rfl, .nil⟩
  | _, _, .cons (e := e) (kv := kv) hk hv r => by
    obtain ⟨q1, q2⟩ := pairs_reads (h := h) r
    refine ⟨by rw [List.map_cons, List.map_cons, hv, q1], ?_⟩
    obtain ⟨k, v⟩ := kv
    rcases keyIs_shape (show keyIs k e.key = true from hk) with ⟨i, t, rfl, ek⟩ | ⟨x, t, rfl, ek⟩
    · rw [List.map_cons, List.map_cons, ek]
      exact ReadsAll.cons (as := []) (bs := []) (.int i t) q2
    · rw [List.map_cons, List.map_cons, ek]
      exact ReadsAll.cons (as := []) (bs := []) (.str x t) q2
theorem toPydk_keys : ∀ {ds : List (Key × D)} {ps : List (PyData × PyData)}, toPydk ds = some ps → ps.map (·.1) = ds.map fun p => kPy p.1
  | [], _, h => by simp only [toPydk, Option.some.injEq] at h; subst h; rfl
  | (k, d) :: ds, _, h => by
    simp only [toPydk] at h
    split at h
    · rename_i p ps h1 h2
      cases h
      rw [List.map_cons, List.map_cons, toPydk_keys h2]
      cases k <;> rfl
    · cases h
theorem Rpk.keys {F : Hp} : ∀ {kvs : List (Key × V)} {ds : List (Key × D)}, Rpk G F kvs ds → kvs.map (·.1) = ds.map (·.1)
  | _, _, .nil => rfl
  | _, _, .cons _ r => by rw [List.map_cons, List.map_cons, Rpk.keys r]
theorem kv_fst {κ : Type} {ks : List (κ × V)} {vs : List (κ × Value)} (r : KV ks vs) : vs.map (·.1) = ks.map (·.1) := by
  induction r with
  | nil => rfl
  | cons h _ ih => rw [List.map_cons, List.map_cons, ih, h.1]
theorem not_sys (I : Inv X pins σ H s) (hs : ∃ o, X.base.get? sysModules = some o) {a : Addr} {u : HO} (h : H a = some u) : sysModules ≠ a := fun e => by
  obtain ⟨o, ho⟩ := hs
  have z := (I.bs _ _ ho).2
  rw [e, h] at z; cases z
mutual
theorem Rp.reads {F : Hp} (I : Inv X pins σ H s) (hs : ∃ o, X.base.get? sysModules = some o) (hG : G.K = X.K) (e : Ex F H) : ∀ {v : V} {d : D} {p : PyData} {u : Value}, Rp G F v d → toPyd d = some p → RelV v u → ∃ as, Reads s.heap u p as ∧ sysModules ∉ as
  | _, _, _, _, .non, h, r => by simp only [toPyd, Option.some.injEq] at h; subst h; cases r; exact ⟨_, .none, by simp⟩
  | _, _, _, _, .bl b, h, r => by simp only [toPyd, Option.some.injEq] at h; subst h; cases r; exact ⟨_, .bool b, by simp⟩
  | _, _, _, _, .int b, h, r => by simp only [toPyd, Option.some.injEq] at h; subst h; obtain ⟨t, rfl⟩ := r; exact ⟨_, .int b t, by simp⟩
  | _, _, _, _, .str b, h, r => by simp only [toPyd, Option.some.injEq] at h; subst h; obtain ⟨t, rfl⟩ := r; exact ⟨_, .str b t, by simp⟩
  | _, _, _, _, .lst h1 rr, h, r => by
    simp only [toPyd, Option.map_eq_some_iff] at h
    obtain ⟨ps, h2, rfl⟩ := h
    cases r
    obtain ⟨its, rv, ⟨o, n, ho, hc, _, hd⟩, _⟩ := I.list (SqL.of (e _ _ h1))
    obtain ⟨as, hr, hn⟩ := Rps.reads I hs hG e rr h2 rv
    exact ⟨_, .list ho hc hd hr, by
      simp only [List.mem_cons, not_or]
      exact ⟨not_sys I hs (e _ _ h1), hn⟩⟩
  | _, _, _, _, .tup h1 rr, h, r => by
    simp only [toPyd, Option.map_eq_some_iff] at h
    obtain ⟨ps, h2, rfl⟩ := h
    cases r
    obtain ⟨its, rv, ⟨o, ho, hc, n, hd⟩, _⟩ := I.tuple (hG ▸ ex_t e h1)
    obtain ⟨as, hr, hn⟩ := Rps.reads I hs hG e rr h2 rv
    exact ⟨_, .tuple ho hc hd hr, hn⟩
  | _, _, _, _, .dct (ds := ds) h1 rr, h, r => by
    simp only [toPyd, Option.map_eq_some_iff] at h
    obtain ⟨ps, h2, rfl⟩ := h
    cases r
    obtain ⟨_, hm, vs, kv, o, es, ep, ho, hx, hd, _, hp, _⟩ := dk_of I.hok (e _ _ h1)
    obtain ⟨q1, q2⟩ := pairs_reads (h := s.heap) hp
    obtain ⟨bs, hr, hn⟩ := Rpk.reads I hs hG e rr h2 kv
    have ek : (vs.map fun p => kPy p.1) = ps.map (·.1) := by
      rw [toPydk_keys h2]
      have z : vs.map (·.1) = ds.map (·.1) := (kv_fst kv).trans rr.keys
      have z' := congrArg (List.map kPy) z
      rw [List.map_map, List.map_map] at z'
      exact z'
    rw [ek] at q2
    refine ⟨_, Reads.dict (bs := bs) ho hx.1 hd q2 (by rw [q1]; exact hr), ?_⟩
    simp only [List.cons_append, List.nil_append, List.mem_cons, not_or]
    exact ⟨fun z => by rw [← z] at hm; simp at hm, hn⟩
  | _, _, _, _, .obj _ _ _, h, _ => by simp [toPyd] at h
  | _, _, _, _, .scr _, h, _ => by simp [toPyd] at h
theorem Rps.reads {F : Hp} (I : Inv X pins σ H s) (hs : ∃ o, X.base.get? sysModules = some o) (hG : G.K = X.K) (e : Ex F H) : ∀ {v : List V} {d : List D} {p : List PyData} {u : List Value}, Rps G F v d → toPyds d = some p → Vals v u → ∃ as, ReadsAll s.heap u p as ∧ sysModules ∉ as
  | _, _, _, _, .nil, h, r => by simp only [toPyds, Option.some.injEq] at h; subst h; cases r; exact ⟨_, .nil, by simp⟩
  | _, _, _, _, .cons a b, h, r => by
    simp only [toPyds] at h
    split at h
    · rename_i p ps h1 h2
      cases h
      cases r with
      | cons ra rb =>
        obtain ⟨as, q1, q2⟩ := Rp.reads I hs hG e a h1 ra
        obtain ⟨bs, q3, q4⟩ := Rps.reads I hs hG e b h2 rb
        exact ⟨_, .cons q1 q3, by rw [List.mem_append, not_or]; exact ⟨q2, q4⟩⟩
    · cases h
theorem Rpk.reads {F : Hp} (I : Inv X pins σ H s) (hs : ∃ o, X.base.get? sysModules = some o) (hG : G.K = X.K) (e : Ex F H) : ∀ {v : List (Key × V)} {d : List (Key × D)} {p : List (PyData × PyData)} {u : List (Key × Value)}, Rpk G F v d → toPydk d = some p → KV v u →
    ∃ as, ReadsAll s.heap (u.map (·.2)) (p.map (·.2)) as ∧ sysModules ∉ as
  | _, _, _, _, .nil, h, r => by simp only [toPydk, Option.some.injEq] at h; subst h; cases r; exact ⟨_, .nil, by simp⟩
  | _, _, _, _, .cons a b, h, r => by
    simp only [toPydk] at h
    split at h
    · rename_i p ps h1 h2
      cases h
      cases r with
      | cons ra rb =>
        obtain ⟨as, q1, q2⟩ := Rp.reads I hs hG e a h1 ra.2
        obtain ⟨bs, q3, q4⟩ := Rpk.reads I hs hG e b h2 rb
        exact ⟨_, .cons q1 q3, by rw [List.mem_append, not_or]; exact ⟨q2, q4⟩⟩
    · cases h
end
/-- what repr says of data -/
def shownD (d : D) : Option Str := (toPyd d).bind fun p => if p.showable && decide (p.depth ≤ 64) && decide (p.shown.length ≤ sizeLine) then some p.shown else none
def rRepr (G : Cg) : List V → Hp → VK → Prop := fun xs H Q => ∃ F x d z, xs = [x] ∧ Ex F H ∧ Rp G F x d ∧ shownD d = some z ∧ Q (.str z) H
theorem call_repr (gd : X.A.guards = some []) (hs : ∃ o, X.base.get? sysModules = some o) (hu : X.A.units + 66 < cLine) (hG : G.K = X.K) : CallR X (.builtin "repr") (rRepr G) := by
  intro pins s σ H xs us Q I r h
  obtain ⟨F, x, d, z, rfl, ex, rp, hz, q⟩ := h
  obtain ⟨u, rfl, ru⟩ := vals1 r
  unfold shownD at hz
  rw [Option.bind_eq_some_iff] at hz
  obtain ⟨p, hp, hz⟩ := hz
  split at hz
  · rename_i hc
    simp only [Bool.and_eq_true, decide_eq_true_eq] at hc
    obtain ⟨⟨h1, h2⟩, h3⟩ := hc
    cases hz
    obtain ⟨as, rd, ns⟩ := rp.reads I hs hG ex hp ru
    cases rd with
    | none => exact PySem.P.repr_of_none ⟨.str _, H, I.tok _, ⟨_, rfl⟩, q⟩
    | bool b =>
      refine PySem.P.repr_of_bool ⟨.str _, H, I.tok _, ⟨_, rfl⟩, ?_⟩
      simp only [PyData.shown] at q
      cases b <;> exact q
    | int i t =>
      refine PySem.P.repr_of_int (by simpa [PyData.showable] using h1) ⟨.str _, H, I.tok _, ⟨_, rfl⟩, ?_⟩
      simpa only [PyData.shown] using q
    | str i t =>
      refine PySem.P.repr_of_str ⟨.str _, H, I.tok _, ⟨_, rfl⟩, ?_⟩ (by simpa only [PyData.shown] using h3)
      simpa only [PyData.shown] using q
    | list a b c d => exact PySem.repr_of_reads' (.list a b c d) h1 (fun _ => ns) gd (by omega) (fun _ _ q => q) (fun h' u tk kp => ⟨.str _, H, I.kept kp, ⟨_, rfl⟩, q⟩) h3
    | tuple a b c d => exact PySem.repr_of_reads' (.tuple a b c d) h1 (fun _ => ns) gd (by omega) (fun _ _ q => q) (fun h' u tk kp => ⟨.str _, H, I.kept kp, ⟨_, rfl⟩, q⟩) h3
    | dict a b c d e => exact PySem.repr_of_reads' (.dict a b c d e) h1 (fun _ => ns) gd (by omega) (fun _ _ q => q) (fun h' u tk kp => ⟨.str _, H, I.kept kp, ⟨_, rfl⟩, q⟩) h3
  · cases hz
end
section
variable {G : Cg} {W : Wx}
def dRepr : List D → Option D
  | [d] => (shownD d).map .str
  | _ => none
theorem cd_repr : Cad G W (rRepr G) dRepr := fun B F H σ ρ xs ds Q g S r h => by
  obtain ⟨d, e, q, qn⟩ := lift_fits S h
  unfold dRepr at e
  split at e
  · rw [Option.map_eq_some_iff] at e
    obtain ⟨z, hz, rfl⟩ := e
    obtain ⟨v, rfl, rv⟩ := r.one
    exact ⟨F, v, _, z, rfl, S.sub, rv, hz, q _ (.str _)⟩
  · cases e
end
end En
namespace En
open PySem L2 PySem.Spec PyProof.Rows
/-! ## the law's own call -/
theorem sys_in {q : Program} {loose : List Str} {XP : (Str → Option Value) → Heap → Prop} {w : World} {s₀ : Shared} {mg mb : Str → Option Value} {h : Heap} (G : PySem.W.Ground q loose [] XP w s₀ mg mb h) (him : importsNone q = true) :
    ∃ o es ep, h.get? sysModules = some o ∧ o.data = .dict es ep := by
  obtain ⟨mm, ⟨o, es, ep, h1, h2, _⟩, _⟩ := (G.T.seer him).mods
  exact ⟨o, es, ep, h1, h2⟩
theorem goG {P : Program} {w : World} {K : PySem.W.Frag} {mg mb : Str → Option Value} {k : Nat} {fa a : Addr} {x : Str} {sp : Sp} {s : Shared} {vs : List Value} {H : Hp}
    (inK : K.In s.heap) (hm : s.heap.Ns mainGlobals mg) (hb : s.heap.Ns builtinsNs mb) (hbb : ∀ x : Str, x ≠ "__name__" → mb x = bootBuiltins x) (lim : s.heap.NoLimit) (gens : s.gens = #[]) (hsys : ∃ o es ep, s.heap.get? sysModules = some o ∧ o.data = .dict es ep)
    (ha : s.heap.get? a = some { cls := .type "list", data := .seq vs.toArray }) (hr : Room k callerA)
    (F : ∀ base : Heap, K.In base → base.Ns mainGlobals mg → (∃ o, base.get? sysModules = some o) → ∃ fd : FuncData, (∀ (s : Shared) (u : Value), K.In s.heap → BindsTo s fd ⟨[u], []⟩ [(x, u)]) ∧ FnG P w K mg base CX0 k fa fd [x] sp)
    (hsp : sp [.ref a] H (fun v _ => v = .bl true) fun _ _ _ => False) (ok : HOk P w H s.heap) (only : ∀ b u, H b = some u → b = a ∧ (∃ o z, u = .frz o z) ∧ K.lookup a = none) :
    codeAny (model P w) callerA (.call (.ref fa) ⟨[.ref a], []⟩) (fun r s' => r = .ok (.ret (.bool true)) ∧ OldK s.heap s'.heap ∧ s'.os = s.os ∧ AllBare s'.gens) s := by
  have not_a : ∀ {b : Addr} {o : Obj}, s.heap.get? b = some o → (∀ z n, o.data ≠ .seq z n) → H b = none := fun {b o} e ne => by
    cases q : H b with
    | none => rfl
    | some u =>
      have z := (only b u q).1
      subst z
      rw [ha] at e
      cases e
      exact absurd rfl (ne _ _)
  have up : ∀ {b : Addr} {o : Obj}, s.heap.get? b = some o → H b = none → (hidT s.heap H).get? b = some o := fun e n => hidT_get e n
  have upNs : ∀ {b : Addr} {m : Str → Option Value}, s.heap.Ns b m → (hidT s.heap H).Ns b m := fun ⟨o, es, ep, e, d, r⟩ => ⟨o, es, ep, up e (not_a e fun z n y => by rw [d] at y; cases y), d, r⟩
  have upK : K.In (hidT s.heap H) := fun b o e => up (inK b o e) (by
    cases q : H b with
    | none => rfl
    | some u =>
      obtain ⟨z, _, y⟩ := only b u q
      rw [z, y] at e; cases e)
  obtain ⟨os, es, ep, g1, g2⟩ := hsys
  have lm : (hidT s.heap H).NoLimit := by
    obtain ⟨mc, y1, y2⟩ := lim
    exact ⟨mc, upNs y1, y2⟩
  have md : L2.Mod K mg (hidT s.heap H) := { kin := upK, glob := upNs hm, blt := ⟨mb, upNs hb, hbb⟩, nolimit := lm }
  have e0 : Env0 P w K mg (hidT s.heap H) callerA [] s H := { frames := rfl, mod := md, bs := fun b o e => of_hidT e, bsz := Nat.le_of_eq (hidT_size _ _), funs := trivial, frf := fun b z => (List.not_mem_nil z).elim, hok := ok, bare := .of_eq gens }
  obtain ⟨fd, bd, FF⟩ := F _ upK (upNs hm) ⟨os, up g1 (not_a g1 fun z n y => by rw [g2] at y; cases y)⟩
  refine codeAny_mono (FF.run callerA [] s H ⟨[.ref a], []⟩ [.ref a] [.ref a] _ _ rfl hr e0 (bd s (.ref a) inK) (.cons rfl .nil) hsp) ?_
  intro r s' q
  match r, q with
  | .error e, q => exact q.elim
  | .ok (.ret u), ⟨v, H', q1, q2, q3, q4, q5, q6⟩ =>
    have z : v = .bl true := q6
    subst z
    have z : u = Value.bool true := q5
    subst z
    refine ⟨rfl, OldK.of_keep ?_, q1, q2⟩
    intro b o e
    cases hb : H b with
    | none => exact q3.keep b o e hb (List.not_mem_nil) List.not_mem_nil
    | some u =>
      obtain ⟨_, ⟨ob, y, rfl⟩, _⟩ := only b u hb
      have y1 := (ok b _ hb).1
      have y2 := (q4 b _ (q3.frzs b ob _ hb)).1
      rw [e] at y1
      cases y1
      exact y2
theorem walkG {l : PySem.W.OpenLaw} {n k : Nat} {q : Program} {loose : List Str} {XP : (Str → Option Value) → Heap → Prop} {YP : World → Heap → Prop} {d : DefRec} {K : Params → PySem.W.Frag} {sp : PySem.W.Frag → Sp} {x : Str}
    (hn : l.most = some n) (hn2 : n ≤ sizeLine) (hdf : d.params.defaults = []) (hr : Room k callerA) (him : importsNone q = true) (hY : ∀ (w : World) (h : Heap), YP w h → (K w.params).In h)
    (F : ∀ (w : World) (mg : Str → Option Value) (fa : Addr) (h : Heap), (K w.params).In h → h.Ns mainGlobals mg → mg d.name = some (.ref fa) →
      ∀ base : Heap, (K w.params).In base → base.Ns mainGlobals mg → (∃ o, base.get? sysModules = some o) → ∃ fd : FuncData, (∀ (s : Shared) (u : Value), (K w.params).In s.heap → BindsTo s fd ⟨[u], []⟩ [(x, u)]) ∧ FnG l.prog w (K w.params) mg base CX0 k fa fd [x] (sp (K w.params)))
    (hsp : ∀ (K : PySem.W.Frag) (H : Hp) (a : Addr) (ns : List Int), ns.length ≤ n → SqL K H a (ns.map V.int) → sp K [.ref a] H (fun v _ => v = .bl true) fun _ _ _ => False) :
    PySem.W.WalkO q loose XP YP l.row.toRowW d [] (fun f vs => PySem.call f vs) := by
  refine Att.attach_call hn hdf ?_
  intro w s₀ s₁ mg mb fa o pm cd doc a vs ns G Y ho hd hcd hmg hobj hints hlen hg
  have KX := hY w _ Y
  have FF := F w mg fa _ KX G.T.g hmg
  have rv := vals_ints hints
  have hl : (ns.map V.int).length ≤ sizeLine := by rw [List.length_map]; exact Nat.le_trans hlen hn2
  cases hk : (K w.params).lookup a with
  | some oa =>
    have e := KX a oa hk
    rw [hobj] at e
    cases e
    refine goG (H := fun _ => none) KX G.T.g G.T.b G.T.builtins G.T.nolimit hg (sys_in G him) hobj hr FF (hsp _ _ a ns hlen (.inr ⟨_, vs.toArray, _, hk, rfl, rfl, rfl, ?_, by simpa using rv⟩)) (fun b u z => by cases z) (fun b u z => by cases z)
    have z := rv.length
    rw [List.size_toArray]; omega
  | none =>
    refine goG (H := upd (fun _ => none) a (.frz { cls := .type "list", data := .seq vs.toArray } (.lst (ns.map V.int)))) KX G.T.g G.T.b G.T.builtins G.T.nolimit hg (sys_in G him) hobj hr FF
      (hsp _ _ a ns hlen (.inl (.inr ⟨_, upd_same⟩))) (fun b u z => ?_) (fun b u z => ?_)
    · by_cases hb : b = a
      · subst hb; rw [upd_same] at z; cases z
        exact ⟨hobj, hl, vs, _, rv, hobj⟩
      · rw [upd_ne hb] at z; cases z
    · by_cases hb : b = a
      · subst hb; rw [upd_same] at z; cases z
        exact ⟨rfl, ⟨_, _, rfl⟩, hk⟩
      · rw [upd_ne hb] at z; cases z
end En
namespace En
open PySem L2 PySem.Spec PyProof.Rows
/-! ## x, *rest = a tuple -/
theorem unpack_star2 {prog : Program} {w : World} {A : Around} {E : Value → Shared → Prop} {s : Shared} {l : Addr} {items : Array Value} {Q : List Value → Shared → Prop} (hl : IsTup s.heap l items) (hh : A.handled = none) (h1 : 1 ≤ items.size) (hz : items.size ≤ 16384)
    (h : ∀ (h' : Heap) (tk : Nat), (∀ b o, s.heap.get? b = some o → h'.get? b = some o) →
      Q [items[0], .ref h'.objs.size] { s with heap := h'.push { cls := .type "list", data := .seq (items.toList.drop 1).toArray }, toks := tk }) : wpAny (model prog w) A (unpackItems (.ref l) 2 (some 1)) Q E s := by
  have lt : l < s.heap.objs.size := by
    obtain ⟨o, ho, _⟩ := hl
    exact Heap.lt_size ho
  have ne : l ≠ s.heap.objs.size := Nat.ne_of_lt lt
  unfold unpackItems notIterableAtAll
  refine wpAny_bind (wpAny_bind (wpAny_specialOf hl.typeIs slot_tuple_iter.lookup (wpAny_pure ?_)))
  simp only [Bool.false_eq_true, if_false]
  refine wpAny_bind (wpAny_holding (iter_tuple hl (wpAny_bind (wpAny_holding (draw_tuple ne 1 0 _ _ ⟨_, Heap.get?_push_size _ rfl, rfl, rfl⟩ (hl.push _) (by omega) ?_)))))
  intro g1 it1 sb1
  have tl : IsTup g1 l items := (hl.push _).extBut sb1.extBut ne
  rw [Nat.zero_add] at it1
  obtain ⟨oi, hoi, _⟩ := id it1
  obtain ⟨ol, hol, _⟩ := id tl
  have e0 : (items.toList.drop 0).take 1 = [items[0]] := by
    rw [List.drop_zero, List.take_one]
    cases q : items.toList with
    | nil =>
      have z := congrArg List.length q
      rw [Array.length_toList] at z
      rw [List.length_nil] at z; omega
    | cons a r =>
      have z : items.toList[0]? = some a := by rw [q]; rfl
      rw [Array.getElem?_toList, Array.getElem?_eq_getElem (by omega)] at z
      cases z
      rfl
  rw [e0]
  simp only [List.length_singleton, Nat.lt_irrefl, if_false]
  refine wpAny_bind (wpAny_holding (PySem.W.kun_collect (s := { s with heap := g1 }) (T := "tuple_iterator") (.inr (.inr (.inr rfl))) (Walks.tuple (A := A.in1) hh s.heap.objs.size l ne items) (fun j u st => st.1.typeIs) (k := 1) h1 ⟨it1, tl⟩ (Heap.lt_size hoi) (Heap.lt_size hol) ?_ (by rw [sizeLine_eq]; omega)))
  intro g2 tk kp
  have hrl : (items.toList.drop 1).length = items.size - 1 := by rw [List.length_drop, Array.length_toList]
  show wpAny _ _ (if (items.toList.drop 1).length < 2 - 1 - 1 then _ else _) _ _ _
  rw [if_neg (by omega)]
  have e1 : (items.toList.drop 1).take ((items.toList.drop 1).length - (2 - 1 - 1)) = items.toList.drop 1 := List.take_of_length_le (by omega)
  have e2 : (items.toList.drop 1).drop ((items.toList.drop 1).length - (2 - 1 - 1)) = [] := List.drop_of_length_le (by omega)
  show wpAny _ _ (newList ((items.toList.drop 1).take ((items.toList.drop 1).length - (2 - 1 - 1))) >>= fun d => pure ([items[0]] ++ [d] ++ (items.toList.drop 1).drop ((items.toList.drop 1).length - (2 - 1 - 1)))) _ _ _
  rw [e1, e2]
  have old : ∀ b o, s.heap.get? b = some o → g2.get? b = some o := fun b o e => by
    have nb : b ≠ s.heap.objs.size := Nat.ne_of_lt (Heap.lt_size e)
    exact kp b o nb (sb1.extBut b o nb (Heap.get?_push_of_some _ e))
  refine wpAny_bind (wpAny_newObj_type (wpAny_pure ?_) (by show (items.toList.drop 1).toArray.size ≤ sizeLine; rw [List.size_toArray, hrl, sizeLine_eq]; omega))
  exact h g2 tk old
/-- x, *rest = e -/
def gStar (K : PySem.W.Frag) (t : TGs) : TG := fun v σ H Q => ∃ a x xs, v = .ref a ∧ SqT K H a (x :: xs) ∧ xs.length ≤ 16000 ∧ ∀ p, H p = none → t [x, .ref p] σ (upd H p (.lst xs)) Q
theorem pg_star {X : Cx} {es es' : List Expr} {k : Nat} {pos : Pos} {t : TGs} (hc : X.calm = true) (h : PGs X es' t)
    (hm : (assignEach es X.env).map (·.2) = (assignEach es' X.env).map (·.2) := by rfl) (hn : (assignEach es X.env).length = 2 := by rfl) (hst : (assignEach es X.env).findIdx? (·.1) = some 1 := by rfl) : PG X (.Tuple es k pos) (gStar X.K t) := by
  refine ⟨fun pins s σ H v u Q I r hw => ?_⟩
  obtain ⟨a, x, xs, rfl, hq, hl, hw⟩ := hw
  cases r
  obtain ⟨its, rv, ht, hz⟩ := I.tuple hq
  have ln := rv.length
  cases rv with
  | cons rx rr =>
    rename_i u0 us
    rw [assign_Tuple]
    refine wpAny_bind (wpAny_standAt ?_)
    unfold unpack
    rw [hn, hst, hm]
    refine wpAny_bind (wpAny_holding (unpack_star2 ht (I.ok.hd hc) (by simp) (by rw [List.size_toArray, ← ln, List.length_cons]; omega) fun h' tk kp => ?_))
    have I1 : Inv X pins σ H { s with heap := h', toks := tk } := I.kept kp
    have fr : H h'.objs.size = none := I1.hok.fresh (Nat.le_refl _)
    have I2 := I1.laid (a := h'.objs.size) (o := .lst xs) (h' := h'.push { cls := .type "list", data := .seq us.toArray }) (t' := tk) (fun b u e => Heap.get?_push_of_some _ e) (Nat.le_refl _)
      ⟨by rw [sizeLine_eq]; omega, us, 0, rr, Heap.get?_push_size _ rfl⟩
    have z := h.run pins _ σ _ [x, .ref h'.objs.size] [u0, .ref h'.objs.size] Q I2 (.cons rx (.cons rfl .nil)) (hw _ fr)
    exact z
section
variable {G : Cg} {W : Wx}
def gStarD (g : List D → En.Env → Option En.Env) (d : D) (ρ : En.Env) : Option En.Env := match d with
  | .tup (d0 :: ds) => if ds.length ≤ 16000 then g [d0, .lst ds] ρ else none
  | _ => none
theorem eg_star {gs : TGs} {fs : List D → En.Env → Option En.Env} {ts : List Nat} (h1 : EvGs G gs fs ts) : EvG G (gStar G.K gs) (gStarD fs) ts := fun B F H σ ρ ρ' x d Q gg S r h q => by
  unfold gStarD at h
  split at h
  · split at h
    · rename_i d0 ds hl
      obtain ⟨a, vs, rfl, ha, ra⟩ := r.tup_inv
      cases ra with
      | @cons v0 vs0 _ _ rx rr =>
        refine ⟨a, _, _, rfl, ex_t S.sub ha, by rw [rr.length]; exact hl, fun p hp => ?_⟩
        have e := Ex.new (o := .lst vs0) (S.sub.free hp)
        exact h1 B _ _ σ ρ ρ' _ _ Q gg (S.new hp) (.cons (rx.mono e) (.cons (.lst upd_same (rr.mono e)) .nil)) h fun σ' F' H' e' a' S' => q σ' F' H' (e.trans e') a' S'
    · cases h
  · cases h
end
/-! ## == with an empty tuple or list, whatever the other one holds -/
section
variable {X : Cx}
def rEqT0 (K : PySem.W.Frag) (neg : Bool) : R2 := fun x y H Q => ∃ a b xs, x = .ref a ∧ y = .ref b ∧ ((SqT K H a xs ∧ SqT K H b []) ∨ (SqL K H a xs ∧ SqL K H b [])) ∧ Q (.bl (if neg then !xs.isEmpty else xs.isEmpty)) H
theorem empt {xs : List V} {its : List Value} (r : Vals xs its) : ((List.range (min its.toArray.size ([] : List Value).toArray.size)).all (fun _ => true) && its.toArray.size == ([] : List Value).toArray.size) = xs.isEmpty := by
  cases r <;> simp
theorem op_eq0 (hu : X.A.units < cLine) : OpR X (compareOp .Eq) (rEqT0 X.K false) := by
  intro pins s σ H x y v u Q I rx ry h
  obtain ⟨a, b, xs, rfl, rfl, hq, q⟩ := h
  cases rx
  cases ry
  rcases hq with ⟨h1, h2⟩ | ⟨h1, h2⟩
  · obtain ⟨i1, r1, t1, _⟩ := I.tuple h1
    obtain ⟨i2, r2, t2, _⟩ := I.tuple h2
    cases r2
    refine SeqAt.eq_tupleAt (e := fun _ => true) t1 t2 hu (fun j _ z => absurd z (by simp)) ⟨.bl _, H, I, ?_, q⟩
    rw [empt r1]; rfl
  · obtain ⟨i1, r1, t1, _⟩ := I.list h1
    obtain ⟨i2, r2, t2, _⟩ := I.list h2
    cases r2
    cases r1 with
    | nil => exact SeqAt.eq_listAt (e := fun _ => true) t1.isList t2.isList rfl hu (fun j _ z => absurd z (by simp)) ⟨.bl _, H, I, rfl, q⟩
    | cons _ _ => exact SeqAt.eq_list_lengthsAt t1.isList t2.isList (by simp) hu ⟨.bl _, H, I, rfl, q⟩
theorem op_ne0 (hu : X.A.units < cLine) : OpR X (compareOp .NotEq) (rEqT0 X.K true) := by
  intro pins s σ H x y v u Q I rx ry h
  obtain ⟨a, b, xs, rfl, rfl, hq, q⟩ := h
  cases rx
  cases ry
  rcases hq with ⟨h1, h2⟩ | ⟨h1, h2⟩
  · obtain ⟨i1, r1, t1, _⟩ := I.tuple h1
    obtain ⟨i2, r2, t2, _⟩ := I.tuple h2
    cases r2
    refine SeqAt.RcNeAt.tuples (e := fun _ => true) t1 t2 hu (fun j _ z => absurd z (by simp)) _ _ _ _ ⟨.bl _, H, I, ?_, q⟩
    rw [empt r1]; rfl
  · obtain ⟨i1, r1, t1, _⟩ := I.list h1
    obtain ⟨i2, r2, t2, _⟩ := I.list h2
    cases r2
    cases r1 with
    | nil => exact SeqAt.RcNeAt.lists (e := fun _ => true) t1.isList t2.isList rfl hu (fun j _ z => absurd z (by simp)) _ _ _ _ ⟨.bl _, H, I, rfl, q⟩
    | cons _ _ => exact SeqAt.RcNeAt.lists_lengths t1.isList t2.isList (by simp) hu _ _ _ _ ⟨.bl _, H, I, rfl, q⟩
/-! ## in a tuple of data -/
def rInT (K : PySem.W.Frag) (neg : Bool) : R2 := fun x y H Q => ∃ d ds, Dp K H x d ∧ Dp K H y (.tuple ds) ∧ SeqAt.shaped d = true ∧ SeqAt.shaped (.tuple ds) = true ∧ Q (.bl (if neg then !ds.any fun z => PyData.eqv z d else ds.any fun z => PyData.eqv z d)) H
theorem op_inT (hu : X.A.units + 65 < cLine) : OpR X (compareOp .In) (rInT X.K false) := by
  intro pins s σ H x y v u Q I rx ry h
  obtain ⟨d, ds, h1, h2, s1, s2, q⟩ := h
  obtain ⟨as, r1⟩ := Dp.reads I d x v h1 rx
  obtain ⟨bs, r2⟩ := Dp.reads I _ y u h2 ry
  exact SeqAt.in_tuple_reads r2 r1 (SeqAt.canLay_of_shaped s2) (SeqAt.canLay_of_shaped s1) (room_in_shaped s1 hu) ⟨.bl _, H, I, rfl, q⟩
theorem op_notInT (hu : X.A.units + 65 < cLine) : OpR X (compareOp .NotIn) (rInT X.K true) := by
  intro pins s σ H x y v u Q I rx ry h
  obtain ⟨d, ds, h1, h2, s1, s2, q⟩ := h
  obtain ⟨as, r1⟩ := Dp.reads I d x v h1 rx
  obtain ⟨bs, r2⟩ := Dp.reads I _ y u h2 ry
  exact SeqAt.notIn_tuple_reads r2 r1 (SeqAt.canLay_of_shaped s2) (SeqAt.canLay_of_shaped s1) (room_in_shaped s1 hu) ⟨.bl _, H, I, rfl, q⟩
end
section
variable {G : Cg} {W : Wx}
def scalD : D → D → Option Bool
  | .non, .non => some true
  | .int i, .int j => some (decide (i = j))
  | .bl i, .bl j => some (decide (i = j))
  | .str i, .str j => some (decide (i = j))
  | .non, .int _ => some false
  | .int _, .non => some false
  | .non, .bl _ => some false
  | .bl _, .non => some false
  | .non, .str _ => some false
  | .str _, .non => some false
  | .int _, .str _ => some false
  | .str _, .int _ => some false
  | .bl _, .str _ => some false
  | .str _, .bl _ => some false
  | _, _ => none
def emptD : D → D → Option Bool
  | .tup ds, .tup [] => some ds.isEmpty
  | .lst ds, .lst [] => some ds.isEmpty
  | _, _ => none
def dEqF (a b : D) : Option Bool := match scalD a b with
  | some c => some c
  | none => match emptD a b with
    | some c => some c
    | none => dEqB a b
def dEqX (a b : D) : Option D := (dEqF a b).map .bl
def dNeX (a b : D) : Option D := (dEqF a b).map fun c => .bl (!c)
def rEqAny (K : PySem.W.Frag) : R2 := rOr rEq (rOr (rEqT0 K false) (rEqD K))
def rNeAny (K : PySem.W.Frag) : R2 := rOr rNe (rOr (rEqT0 K true) (rNeD K))
theorem Rps.nil_inv {F : Hp} {vs : List V} (h : Rps G F vs []) : vs = [] := by cases h; rfl
theorem scal_core {F : Hp} {x y : V} {dx dy : D} {c : Bool} (rx : Rp G F x dx) (ry : Rp G F y dy) (h : scalD dx dy = some c) : scal x y = true ∧ decide (x = y) = c := by
  cases rx <;> cases ry <;> first
    | (cases h; done)
    | (refine ⟨rfl, ?_⟩; cases h; first | rfl | simp)
theorem eq_core {B : Bg} {F H : Hp} {σ : L2.St} {ρ : En.Env} {x y : V} {dx dy : D} {c : Bool} (S : Sta B F H σ ρ) (rx : Rp G F x dx) (ry : Rp G F y dy) (h : dEqF dx dy = some c) :
    (scal x y = true ∧ decide (x = y) = c) ∨ (∃ a b xs, x = .ref a ∧ y = .ref b ∧ ((SqT G.K H a xs ∧ SqT G.K H b []) ∨ (SqL G.K H a xs ∧ SqL G.K H b [])) ∧ xs.isEmpty = c) ∨ (∃ p q, Dp G.K H x p ∧ Dp G.K H y q ∧ SeqAt.shaped p = true ∧ SeqAt.shaped q = true ∧ c = PyData.eqv p q) := by
  unfold dEqF at h
  split at h
  · cases h
    exact .inl (scal_core rx ry (by assumption))
  · split at h
    · rename_i c' e
      cases h
      unfold emptD at e
      split at e
      · cases e
        obtain ⟨a, vs, rfl, ha, ra⟩ := rx.tup_inv
        obtain ⟨b, ws, rfl, hb, rb⟩ := ry.tup_inv
        cases rb.nil_inv
        exact .inr (.inl ⟨a, b, vs, rfl, rfl, .inl ⟨ex_t S.sub ha, ex_t S.sub hb⟩, ra.isEmpty⟩)
      · cases e
        obtain ⟨a, vs, rfl, ha, ra⟩ := rx.lst_inv
        obtain ⟨b, ws, rfl, hb, rb⟩ := ry.lst_inv
        cases rb.nil_inv
        exact .inr (.inl ⟨a, b, vs, rfl, rfl, .inr ⟨SqL.of (S.sub _ _ ha), SqL.of (S.sub _ _ hb)⟩, ra.isEmpty⟩)
      · cases e
    · obtain ⟨p, p', h1, h2, h3, h4, h5⟩ := dEqB_inv h
      exact .inr (.inr ⟨p, p', rx.dp S.sub h1, ry.dp S.sub h2, h3, h4, h5⟩)
theorem od_eqX : Opd G W (rEqAny G.K) (pur dEqX) := fun B F H σ ρ x y dx dy Q gg S rx ry h => by
  unfold pur at h
  obtain ⟨d, e, q, qn⟩ := lift_fits S h
  unfold dEqX at e
  rw [Option.map_eq_some_iff] at e
  obtain ⟨c, e, rfl⟩ := e
  rcases eq_core S rx ry e with ⟨h1, h2⟩ | ⟨a, b, xs, h1, h2, h3, h4⟩ | ⟨p, p', h1, h2, h3, h4, h5⟩
  · refine .inl ⟨h1, ?_⟩
    rw [h2]; exact q _ (.bl _)
  · refine .inr (.inl ⟨a, b, xs, h1, h2, h3, ?_⟩)
    rw [if_neg Bool.false_ne_true, h4]; exact q _ (.bl _)
  · refine .inr (.inr ⟨p, p', h1, h2, h3, h4, ?_⟩)
    rw [← h5]; exact q _ (.bl _)
theorem od_neX : Opd G W (rNeAny G.K) (pur dNeX) := fun B F H σ ρ x y dx dy Q gg S rx ry h => by
  unfold pur at h
  obtain ⟨d, e, q, qn⟩ := lift_fits S h
  unfold dNeX at e
  rw [Option.map_eq_some_iff] at e
  obtain ⟨c, e, rfl⟩ := e
  rcases eq_core S rx ry e with ⟨h1, h2⟩ | ⟨a, b, xs, h1, h2, h3, h4⟩ | ⟨p, p', h1, h2, h3, h4, h5⟩
  · refine .inl ⟨h1, ?_⟩
    rw [h2]; exact q _ (.bl _)
  · refine .inr (.inl ⟨a, b, xs, h1, h2, h3, ?_⟩)
    rw [if_pos rfl, h4]; exact q _ (.bl _)
  · refine .inr (.inr ⟨p, p', h1, h2, h3, h4, ?_⟩)
    rw [← h5]; exact q _ (.bl _)
theorem op_eqX {X : Cx} {k : Nat} (hr : Room k X.A) : OpR X (compareOp .Eq) (rEqAny X.K) := op_or2 op_eq (op_or2 (op_eq0 hr.units0) (op_eqD hr.units))
theorem op_neX {X : Cx} {k : Nat} (hr : Room k X.A) : OpR X (compareOp .NotEq) (rNeAny X.K) := op_or2 op_ne (op_or2 (op_ne0 hr.units0) (op_neD hr.units))
/-! in -/
def rInS (neg : Bool) : R2 := fun x y H Q => ∃ (c : Nat) (z : Str), x = .str ⟨#[c]⟩ ∧ y = .str z ∧ Q (.bl (if neg then !decide (c ∈ z.cps.toList) else decide (c ∈ z.cps.toList))) H
theorem op_inSg {X : Cx} : OpR X (compareOp .In) (rInS false) := by
  intro pins s σ H x y v u Q I rx ry h
  exact op_in_sign pins s σ H x y v u Q I rx ry h
theorem op_notInSg {X : Cx} : OpR X (compareOp .NotIn) (rInS true) := by
  intro pins s σ H x y v u Q I rx ry h
  exact op_notIn_sign pins s σ H x y v u Q I rx ry h
def rInL (K : PySem.W.Frag) (neg : Bool) : R2 := fun x y H Q => ∃ d ds, Dp K H x d ∧ Dp K H y (.list ds) ∧ SeqAt.shaped d = true ∧ SeqAt.shaped (.list ds) = true ∧ Q (.bl (if neg then !ds.any fun z => PyData.eqv z d else ds.any fun z => PyData.eqv z d)) H
theorem op_inLs {X : Cx} (hu : X.A.units + 65 < cLine) : OpR X (compareOp .In) (rInL X.K false) := by
  intro pins s σ H x y v u Q I rx ry h
  exact op_inD hu pins s σ H x y v u Q I rx ry h
theorem op_notInLs {X : Cx} (hu : X.A.units + 65 < cLine) : OpR X (compareOp .NotIn) (rInL X.K true) := by
  intro pins s σ H x y v u Q I rx ry h
  exact op_notInD hu pins s σ H x y v u Q I rx ry h
def rInAny (K : PySem.W.Frag) (neg : Bool) : R2 := rOr (rInS neg) (rOr (rIn K neg) (rOr (rInL K neg) (rInT K neg)))
theorem op_inA {X : Cx} {k : Nat} (hr : Room k X.A) : OpR X (compareOp .In) (rInAny X.K false) := op_or2 op_inSg (op_or2 op_in_seq (op_or2 (op_inLs (by have := hr.un; omega)) (op_inT (by have := hr.un; omega))))
theorem op_notInA {X : Cx} {k : Nat} (hr : Room k X.A) : OpR X (compareOp .NotIn) (rInAny X.K true) := op_or2 op_notInSg (op_or2 op_notIn_seq (op_or2 (op_notInLs (by have := hr.un; omega)) (op_notInT (by have := hr.un; omega))))
def oneSign (x : Str) : Option Nat := match x.cps.toList with
  | [c] => some c
  | _ => none
theorem oneSign_inv {x : Str} {c : Nat} (h : oneSign x = some c) : x = ⟨#[c]⟩ := by
  unfold oneSign at h
  split at h
  · rename_i c' e
    cases h
    obtain ⟨⟨l⟩⟩ := x
    simp only at e
    subst e
    rfl
  · cases h
def flatD : D → Option V
  | .non => some .non
  | .bl b => some (.bl b)
  | .int i => some (.int i)
  | .str x => some (.str x)
  | _ => none
def flatsD : List D → Option (List V)
  | [] => some []
  | d :: ds => match flatD d, flatsD ds with
    | some v, some vs => some (v :: vs)
    | _, _ => none
theorem flatD_inv {F : Hp} {v u : V} {d : D} (r : Rp G F v d) (h : flatD d = some u) : v = u ∧ flatV v = true := by
  cases r <;> cases h <;> exact ⟨rfl, rfl⟩
theorem flatsD_inv {F : Hp} : ∀ {vs us : List V} {ds : List D}, Rps G F vs ds → flatsD ds = some us → vs = us ∧ vs.all flatV = true
  | _, _, _, .nil, h => by cases h; exact ⟨rfl, rfl⟩
  | _, _, _, .cons r t, h => by
    simp only [flatsD] at h
    split at h
    · rename_i v vs h1 h2
      cases h
      obtain ⟨rfl, q⟩ := flatD_inv r h1
      obtain ⟨rfl, q'⟩ := flatsD_inv t h2
      exact ⟨rfl, by rw [List.all_cons, q, q']; rfl⟩
    · cases h
def seqD : D → Option (List D)
  | .lst ds => some ds
  | .tup ds => some ds
  | _ => none
def inFlat (a b : D) : Option Bool := match seqD b with
  | some ds => match flatD a, flatsD ds with
    | some v, some vs => some (inV v vs)
    | _, _ => none
  | none => none
def inDeep (a b : D) : Option Bool := match b with
  | .lst ds => match toPy a, toPys ds with
    | some p, some ps => if SeqAt.shaped p && SeqAt.shaped (.list ps) then some (ps.any fun z => PyData.eqv z p) else none
    | _, _ => none
  | .tup ds => match toPy a, toPys ds with
    | some p, some ps => if SeqAt.shaped p && SeqAt.shaped (.tuple ps) then some (ps.any fun z => PyData.eqv z p) else none
    | _, _ => none
  | _ => none
def inSign (a b : D) : Option Bool := match a, b with
  | .str x, .str z => (oneSign x).map fun c => decide (c ∈ z.cps.toList)
  | _, _ => none
def dInB (a b : D) : Option Bool := match inSign a b with
  | some c => some c
  | none => match inFlat a b with
    | some c => some c
    | none => inDeep a b
def dIn (neg : Bool) (a b : D) : Option D := (dInB a b).map fun c => .bl (if neg then !c else c)
theorem od_in (neg : Bool) : Opd G W (rInAny G.K neg) (pur (dIn neg)) := fun B F H σ ρ x y dx dy Q gg S rx ry h => by
  unfold pur at h
  obtain ⟨d, e, q, qn⟩ := lift_fits S h
  unfold dIn at e
  rw [Option.map_eq_some_iff] at e
  obtain ⟨c, e, rfl⟩ := e
  unfold dInB at e
  split at e
  · rename_i c' e'
    cases e
    unfold inSign at e'
    split at e'
    · rw [Option.map_eq_some_iff] at e'
      obtain ⟨n, e, rfl⟩ := e'
      have z := oneSign_inv e
      subst z
      exact .inl ⟨n, _, rx.str_inv, ry.str_inv, q _ (.bl _)⟩
    · cases e'
  · split at e
    · rename_i c' e'
      cases e
      unfold inFlat at e'
      split at e'
      · rename_i ds hs
        split at e'
        · rename_i v vs h1 h2
          cases e'
          obtain ⟨rfl, q1⟩ := flatD_inv rx h1
          unfold seqD at hs
          split at hs
          · cases hs
            obtain ⟨a, ws, rfl, ha, ra⟩ := ry.lst_inv
            obtain ⟨rfl, q2⟩ := flatsD_inv ra h2
            exact .inr (.inl ⟨a, ws, rfl, .inl (SqL.of (S.sub _ _ ha)), q1, q2, q _ (.bl _)⟩)
          · cases hs
            obtain ⟨a, ws, rfl, ha, ra⟩ := ry.tup_inv
            obtain ⟨rfl, q2⟩ := flatsD_inv ra h2
            exact .inr (.inl ⟨a, ws, rfl, .inr (ex_t S.sub ha), q1, q2, q _ (.bl _)⟩)
          · cases hs
        · cases e'
      · cases e'
    · unfold inDeep at e
      split at e
      · split at e
        · rename_i p ps h1 h2
          split at e
          · rename_i h3
            rw [Bool.and_eq_true] at h3
            cases e
            exact .inr (.inr (.inl ⟨p, ps, rx.dp S.sub h1, ry.dp S.sub (by simp only [toPy, h2, Option.map_some]), h3.1, h3.2, q _ (.bl _)⟩))
          · cases e
        · cases e
      · split at e
        · rename_i p ps h1 h2
          split at e
          · rename_i h3
            rw [Bool.and_eq_true] at h3
            cases e
            exact .inr (.inr (.inr ⟨p, ps, rx.dp S.sub h1, ry.dp S.sub (by simp only [toPy, h2, Option.map_some]), h3.1, h3.2, q _ (.bl _)⟩))
          · cases e
        · cases e
      · cases e
/-! great products -/
def dMulW := dI (fun i j => decide (i.natAbs.log2 + j.natAbs.log2 < 1000000)) fun i j => .int (i * j)
theorem od_mulW : Opd G W (rI CMulW fun i j => .int (i * j)) (pur dMulW) := opd_I (fun i j h => by unfold CMulW; simpa using h) fun _ _ _ => .int _
/-! list(..), tuple(..), all, any -/
def dList : List D → Option D
  | [.lst ds] => some (.lst ds)
  | [.tup ds] => some (.lst ds)
  | _ => none
theorem cd_list : Cad G W (fun xs H Q => ∃ p ys, xs = [.ref p] ∧ (SqL G.K H p ys ∨ SqT G.K H p ys) ∧ ∀ l, H l = none → Q (.ref l) (upd H l (.lst ys))) dList := fun B F H σ ρ xs ds Q g S r h => by
  obtain ⟨d, e, q, qn⟩ := lift_fits S h
  unfold dList at e
  split at e
  · cases e
    obtain ⟨v, rfl, rv⟩ := r.one
    obtain ⟨a, vs, rfl, ha, ra⟩ := rv.lst_inv
    exact ⟨a, vs, rfl, .inl (SqL.of (S.sub _ _ ha)), fun l hl => qn l _ _ hl (.lst upd_same (ra.mono (Ex.new (S.sub.free hl))))⟩
  · cases e
    obtain ⟨v, rfl, rv⟩ := r.one
    obtain ⟨a, vs, rfl, ha, ra⟩ := rv.tup_inv
    exact ⟨a, vs, rfl, .inr (ex_t S.sub ha), fun l hl => qn l _ _ hl (.lst upd_same (ra.mono (Ex.new (S.sub.free hl))))⟩
  · cases e
def bools : List D → Option (List Bool)
  | [] => some []
  | .bl b :: ds => (bools ds).map fun r => b :: r
  | _ => none
theorem bools_inv {F : Hp} : ∀ {ds : List D} {bs : List Bool} {vs : List V}, bools ds = some bs → Rps G F vs ds → vs = bs.map V.bl
  | [], _, _, h, r => by cases h; cases r; rfl
  | .bl b :: ds, _, _, h, r => by
    simp only [bools, Option.map_eq_some_iff] at h
    obtain ⟨r', h, rfl⟩ := h
    cases r with
    | cons a t => rw [a.bl_inv, bools_inv h t]; rfl
  | .non :: _, _, _, h, _ => by cases h
  | .int _ :: _, _, _, h, _ => by cases h
  | .str _ :: _, _, _, h, _ => by cases h
  | .lst _ :: _, _, _, h, _ => by cases h
  | .tup _ :: _, _, _, h, _ => by cases h
  | .dct _ :: _, _, _, h, _ => by cases h
  | .obj _ _ :: _, _, _, h, _ => by cases h
  | .scr _ :: _, _, _, h, _ => by cases h
def dAll : List D → Option D
  | [.lst ds] => (bools ds).map fun bs => .bl (bs.all id)
  | _ => none
def dAny : List D → Option D
  | [.lst ds] => (bools ds).map fun bs => .bl (bs.any id)
  | _ => none
theorem cd_all : Cad G W (rAll G.K) dAll := fun B F H σ ρ xs ds Q g S r h => by
  obtain ⟨d, e, q, qn⟩ := lift_fits S h
  unfold dAll at e
  split at e
  · rw [Option.map_eq_some_iff] at e
    obtain ⟨bs, e, rfl⟩ := e
    obtain ⟨v, rfl, rv⟩ := r.one
    obtain ⟨a, vs, rfl, ha, ra⟩ := rv.lst_inv
    cases bools_inv e ra
    exact ⟨a, bs, rfl, SqL.of (S.sub _ _ ha), q _ (.bl _)⟩
  · cases e
theorem cd_any : Cad G W (rAny G.K) dAny := fun B F H σ ρ xs ds Q g S r h => by
  obtain ⟨d, e, q, qn⟩ := lift_fits S h
  unfold dAny at e
  split at e
  · rw [Option.map_eq_some_iff] at e
    obtain ⟨bs, e, rfl⟩ := e
    obtain ⟨v, rfl, rv⟩ := r.one
    obtain ⟨a, vs, rfl, ha, ra⟩ := rv.lst_inv
    cases bools_inv e ra
    exact ⟨a, bs, rfl, SqL.of (S.sub _ _ ha), q _ (.bl _)⟩
  · cases e
def rTupOf (K : PySem.W.Frag) : List V → Hp → VK → Prop := fun xs H Q => ∃ p ys, xs = [.ref p] ∧ ((SqL K H p ys ∧ ∀ l, H l = none → Q (.ref l) (upd H l (.tup ys))) ∨ (SqT K H p ys ∧ Q (.ref p) H))
def dTuple : List D → Option D
  | [.lst ds] => some (.tup ds)
  | [.tup ds] => some (.tup ds)
  | _ => none
theorem cd_tuple : Cad G W (rTupOf G.K) dTuple := fun B F H σ ρ xs ds Q g S r h => by
  obtain ⟨d, e, q, qn⟩ := lift_fits S h
  unfold dTuple at e
  split at e
  · cases e
    obtain ⟨v, rfl, rv⟩ := r.one
    obtain ⟨a, vs, rfl, ha, ra⟩ := rv.lst_inv
    exact ⟨a, vs, rfl, .inl ⟨SqL.of (S.sub _ _ ha), fun l hl => qn l _ _ hl (.tup (SqT.of upd_same) (ra.mono (Ex.new (S.sub.free hl))))⟩⟩
  · cases e
    obtain ⟨v, rfl, rv⟩ := r.one
    obtain ⟨a, vs, rfl, ha, ra⟩ := rv.tup_inv
    exact ⟨a, vs, rfl, .inr ⟨ex_t S.sub ha, q _ (.tup ha ra)⟩⟩
  · cases e
/-! {} and {k: v} -/
theorem ev_d0 : EvE G W tDNewK (mC (.dct [])) := fun B F H σ ρ Q g S h p hp => h _ _ _ (Ex.new (S.sub.free hp)) (S.new hp) (.dct upd_same .nil)
/-- {"a": e} with a written key -/
def mDict1 (k : Str) (me : ME) : ME := fun ρ => match me ρ with
  | .ok d ρ1 => .ok (.dct [(.inr k, d)]) ρ1
  | _ => .bad
theorem ev_d1 {te : TE} {me : ME} (k : Str) (he : EvE G W te me) : EvE G W (tDisp [(tC (.str k), te)]) (mDict1 k me) := fun B F H σ ρ Q g S h p hp => by
  refine he (B.also p (.dK [])) F _ σ ρ _ g (S.also hp) ?_
  have x0 := S.xfree hp
  have z0 := S.fresh hp
  cases e : me ρ with
  | bad => unfold mDict1 at h; rw [e] at h; exact h.elim
  | err c fs ρ1 => unfold mDict1 at h; rw [e] at h; exact h.elim
  | ok d ρ1 =>
    unfold mDict1 at h
    rw [e] at h
    intro v F' H' e' S' r
    obtain ⟨S2, q1, q2⟩ := Sta.less x0 z0 S' (.dK [(.inr k, v)])
    refine ⟨q1, [(.inr k, v)], rfl, by simp, ?_⟩
    have S3 := Sta.keepIt z0 x0 S2
    have ex : Ex F' (upd F' p (.dK [(.inr k, v)])) := Ex.new q2
    exact h _ _ _ (e'.trans ex) S3 (.dct upd_same (.cons (r.mono ex) .nil))
end
/-! ## calls with keywords, in the parameters' order -/
def KwB (K : PySem.W.Frag) (fd : FuncData) (ps ks : List Str) (n : Nat) : Prop := ∀ (s : Shared) (us ws : List Value), K.In s.heap → us.length = n → ws.length = ks.length → BindsTo s fd ⟨us, ks.zip ws⟩ (ps.zip (us ++ ws))
def tCallKw (n m : Nat) (sp : Sp) (E : XK) (t tk : TA) : TE := fun σ H Q => t σ H fun vs H1 => tk σ H1 fun zs H2 => vs.length = n ∧ zs.length = m ∧ sp (vs ++ zs) H2 Q E
section
variable {X : Cx} {CX : CXT} {k n : Nat} {f : Addr} {fd : FuncData} {ps ks : List Str} {sp : Sp} {E : XK} {x : Str} {p pos : Pos} {e : Expr} {es : List Expr} {kws : List Keyword} {t tk : TA}
theorem run_fnKw {pins : List (Addr × Obj)} {σ : L2.St} {H : Hp} {s : Shared} {Q : VK} {us ws : List Value} {vs zs : List V} (gd : X.A.guards = some []) (F : FnG X.prog X.w X.K X.mg X.base CX k f fd ps sp) (hr : Room k X.A) (hb : KwB X.K fd ps ks n) (hx : Passes CX X E)
    (I : Inv X pins σ H s) (r : Vals vs us) (rz : Vals zs ws) (l1 : vs.length = n) (l2 : zs.length = ks.length) (h : sp (vs ++ zs) H Q E) : wpAny (model X.prog X.w) X.A (call (.ref f) us (ks.zip ws)) (EP X pins σ Q) X.xe s := by
  refine wpAny_call (codeAny_mono (F.run X.A X.stack s H ⟨us, ks.zip ws⟩ (us ++ ws) (vs ++ zs) Q E gd hr I.env0 (hb s us ws I.kIn (by rw [← r.length]; exact l1) (by rw [← rz.length]; exact l2)) (r.append rz) h) ?_)
  intro r s' q
  match r, q with
  | .error e, q => exact hx pins σ H s e s' I q
  | .ok (.ret u), q => exact I.after q
theorem pe_callKw0 (gd : X.A.guards = some []) (F : FnG X.prog X.w X.K X.mg X.base CX k f fd ps sp) (hr : Room k X.A) (hg : Gl X x) (hm : X.mg x = some (.ref f)) (hk : PySem.W.keepIn X.K (.ref f) = true) (hb : KwB X.K fd ps ks 0) (hx : Passes CX X E) (hkw : PK X kws tk)
    (hall : (backToKw pos (keywordEach kws X.env)).all (·.1.isSome) = true := by rfl) (hks : (backToKw pos (keywordEach kws X.env)).filterMap (·.1) = ks := by rfl) (hdb : (x == ("__debug__" : Str)) = false := by decide)
    (hpl : ((backTo pos (starEach [] X.env)).any (·.1) || (backToKw pos (keywordEach kws X.env)).any (·.1.isNone)) = false := by rfl) : PE X (.Call (.Name x p) [] kws pos) (tCallKw 0 ks.length sp E tNil tk) := ⟨fun pins s σ H Q I h => by
  refine wpAny_Call_Name_kw (ld_glob I hg hm (PySem.W.callWith_KW0 (h₀ := X.base) I.ok.mod.kin hk hall ?_ hpl) hdb)
  refine thn (hkw.run pos pins s σ H _ I h) ?_
  intro ws s2 ⟨zs, H2, I2, rz, l1, l2, q2⟩
  refine ⟨I2.kIn, ?_⟩
  rw [hks]
  exact run_fnKw (us := []) (vs := []) gd F hr hb hx I2 .nil rz rfl l2 q2⟩
theorem pe_callKw (gd : X.A.guards = some []) (F : FnG X.prog X.w X.K X.mg X.base CX k f fd ps sp) (hr : Room k X.A) (hg : Gl X x) (hm : X.mg x = some (.ref f)) (hk : PySem.W.keepIn X.K (.ref f) = true) (hb : KwB X.K fd ps ks n) (hx : Passes CX X E) (ha : PA X (e :: es) t) (hkw : PK X kws tk)
    (hall : (backToKw pos (keywordEach kws X.env)).all (·.1.isSome) = true := by rfl) (hks : (backToKw pos (keywordEach kws X.env)).filterMap (·.1) = ks := by rfl) (hdb : (x == ("__debug__" : Str)) = false := by decide)
    (he : starEach (e :: es) X.env = (false, eval e X.env) :: starEach es X.env := by rfl) (hpl : ((backTo pos (starEach (e :: es) X.env)).any (·.1) || (backToKw pos (keywordEach kws X.env)).any (·.1.isNone)) = false := by rfl) :
    PE X (.Call (.Name x p) (e :: es) kws pos) (tCallKw n ks.length sp E t tk) := ⟨fun pins s σ H Q I h => by
  refine wpAny_Call_Name_kw (ld_glob I hg hm (PySem.W.callWith_KW (h₀ := X.base) I.ok.mod.kin hk hall (thn (ha.run pos pins s σ H _ I h) ?_) hpl he) hdb)
  intro us s1 ⟨vs, H1, I1, r, q⟩
  refine thn (hkw.run pos pins s1 σ H1 _ I1 q) ?_
  intro ws s2 ⟨zs, H2, I2, rz, l1, l2, q2⟩
  refine ⟨I2.kIn, ?_⟩
  rw [hks]
  exact run_fnKw gd F hr hb hx I2 r rz l1 l2 q2⟩
end
section
variable {G : Cg} {W : Wx}
def mCallKw (n m : Nat) (f : List D → Option D) (ma mk : MA) : ME := fun ρ => (ma ρ).bind fun ds ρ1 => (mk ρ1).bind fun es ρ2 => if ds.length = n ∧ es.length = m then lift (f (ds ++ es)) ρ2 else .bad
theorem ev_callKw {n m : Nat} {f : List D → Option D} {E : XK} {ta tk : TA} {ma mk : MA} (ha : EvA G W ta ma) (hk : EvA G W tk mk) : EvE G W (tCallKw n m (SpP G f) E ta tk) (mCallKw n m f ma mk) := fun B F H σ ρ Q g S h =>
  ha B F H σ ρ _ g S (h.fst fun vs ds ρ1 F1 H1 e1 S1 r1 h1 => hk B F1 H1 σ ρ1 _ g S1 (h1.fst fun zs es ρ2 F2 H2 e2 S2 r2 h2 => by
    split at h2
    · rename_i hl
      refine ⟨by rw [r1.length]; exact hl.1, by rw [r2.length]; exact hl.2, ?_⟩
      cases e : f (ds ++ es) with
      | none => rw [e] at h2; exact h2.elim
      | some d =>
        rw [e] at h2
        exact ⟨F2, _, d, S2.sub, (r1.mono e2).append r2, e, fun v F' H' x1 x2 x3 x4 rv => h2 v F' H' x1 (S2.grown x1 x2 x3 x4) rv⟩
    · exact h2.elim))
end
end En
namespace En
open PySem L2 PySem.Spec PyProof.Rows
/-! ## defs by their names -/
/-- a def of the module, as the top leaves it -/
structure DefAt (K : PySem.W.Frag) (mg : Str → Option Value) (x : Str) (st : Stmt) : Prop where
  ex : ∃ f fd, Fun K x x st f fd ∧ mg x = some (.ref f)
theorem defAt_mk {K : PySem.W.Frag} {h : Heap} {mg : Str → Option Value} {x : Str} {st : Stmt} {f : Addr} {oc : Value} {od an : Option Addr} {osl : Array (Option Value)} {kV doc pm cdv ct : Value} (X : K.In h) (G : h.Ns mainGlobals mg)
    (a : PySem.W.nsIn K mainGlobals x = some (some (.ref f))) (l : K.lookup f = some ⟨oc, od, .func (PySem.W.fnOf x x (defArgs st) (defBody st) (defScope st) .none kV doc pm an cdv ct), osl⟩) (c : PySem.W.codeIn K cdv x = true) (k : PySem.W.keepIn K (.ref f) = true) : DefAt K mg x st :=
  ⟨f, _, fun_mk l c k, PySem.W.mg_of X G a⟩
/-- a def that may be called -/
structure Cal (P : Program) (w : World) (K : PySem.W.Frag) (mg : Str → Option Value) (base : Heap) (k : Nat) (x : Str) (ps : List Str) (sp : Sp) : Prop where
  ex : ∃ f fd, mg x = some (.ref f) ∧ PySem.W.keepIn K (.ref f) = true ∧ FnG P w K mg base CX0 k f fd ps sp ∧ Binds K fd ps [] ∧ ∀ n, n ≤ ps.length → KwB K fd ps (ps.drop n) n
theorem Cal.up {P : Program} {w : World} {K : PySem.W.Frag} {mg : Str → Option Value} {base : Heap} {j k : Nat} {x : Str} {ps : List Str} {sp : Sp} (c : Cal P w K mg base j x ps sp) (h : j ≤ k) : Cal P w K mg base k x ps sp := by
  obtain ⟨f, fd, a, b, c, d, e⟩ := c.ex
  exact ⟨f, fd, a, b, c.up h, d, e⟩
/-- how the arguments come to the parameters: by place, and the last ones by name -/
def ArgsTo (st : Stmt) (x : Str) (ps : List Str) : Prop := ∀ (kV doc pm : Value) (an : Option Addr) (cdv ct : Value) (us ws : List Value), (us ++ ws).length = ps.length →
  bindArgs (PySem.W.fnOf x x (defArgs st) (defBody st) (defScope st) .none kV doc pm an cdv ct) ⟨us, (ps.drop us.length).zip ws⟩ = pure (ps.zip (us ++ ws))
section
variable {P : Program} {w : World} {K : PySem.W.Frag} {mg : Str → Option Value} {base : Heap}
theorem cal_mk {x : Str} {st : Stmt} {ps : List Str} {k : Nat} {sp : Sp} (d : DefAt K mg x st) (b : ArgsTo st x ps) (h : ∀ f fd, Fun K x x st f fd → FnG P w K mg base CX0 k f fd ps sp) : Cal P w K mg base k x ps sp := by
  obtain ⟨f, fd, F, m⟩ := d.ex
  refine ⟨f, fd, m, F.kp, h f fd F, ?_, ?_⟩
  · obtain ⟨oc, od, kV, doc, pm, an, cdv, ct, osl, rfl, lk, cd⟩ := F.ex
    refine .all fun us hl => ?_
    have z := b kV doc pm an cdv ct us [] (by rw [List.append_nil]; exact hl)
    rw [List.append_nil, List.zip_nil_right] at z
    exact z
  · obtain ⟨oc, od, kV, doc, pm, an, cdv, ct, osl, rfl, lk, cd⟩ := F.ex
    intro n hn s us ws _ h1 h2
    rw [List.length_drop] at h2
    have z := b kV doc pm an cdv ct us ws (by rw [List.length_append]; omega)
    rw [h1] at z
    exact .of_eq z
end
section
variable {X : Cx} {j k : Nat} {sp : Sp} {x : Str} {ps : List Str} {p pos : Pos} {e : Expr} {es : List Expr} {kws : List Keyword} {t tk : TA}
theorem pe_cal (c : Cal X.prog X.w X.K X.mg X.base j x ps sp) (gd : X.A.guards = some []) (hr : Room k X.A) (ha : PA X (e :: es) t) (hj : j ≤ k := by first | decide | omega) (hg : Gl X x := by rfl) (hdb : (x == ("__debug__" : Str)) = false := by decide)
    (he : starEach (e :: es) X.env = (false, eval e X.env) :: starEach es X.env := by rfl) (hpl : (backTo pos (starEach es X.env)).any (·.1) = false := by rfl) : PE X (.Call (.Name x p) (e :: es) [] pos) (tCall sp [] E0 t) := by
  obtain ⟨f, fd, a, b, F, d, _⟩ := c.ex
  exact pe_callG gd F (hr.mono hj) hg a b d .nil pass0 ha hdb he hpl
theorem pe_cal0 (c : Cal X.prog X.w X.K X.mg X.base j x ps sp) (gd : X.A.guards = some []) (hr : Room k X.A) (hj : j ≤ k := by first | decide | omega) (hg : Gl X x := by rfl) (hdb : (x == ("__debug__" : Str)) = false := by decide) : PE X (.Call (.Name x p) [] [] pos) (tCall sp [] E0 tNil) := by
  obtain ⟨f, fd, a, b, F, d, _⟩ := c.ex
  exact pe_callG0 gd F (hr.mono hj) hg a b d .nil pass0 hdb
/-- all arguments by name -/
theorem pe_calK0 (c : Cal X.prog X.w X.K X.mg X.base j x ps sp) (gd : X.A.guards = some []) (hr : Room k X.A) (hkw : PK X kws tk) (hj : j ≤ k := by first | decide | omega) (hg : Gl X x := by rfl)
    (hall : (backToKw pos (keywordEach kws X.env)).all (·.1.isSome) = true := by rfl) (hks : (backToKw pos (keywordEach kws X.env)).filterMap (·.1) = ps := by rfl) (hdb : (x == ("__debug__" : Str)) = false := by decide)
    (hpl : ((backTo pos (starEach [] X.env)).any (·.1) || (backToKw pos (keywordEach kws X.env)).any (·.1.isNone)) = false := by rfl) : PE X (.Call (.Name x p) [] kws pos) (tCallKw 0 ps.length sp E0 tNil tk) := by
  obtain ⟨f, fd, a, b, F, _, d⟩ := c.ex
  exact pe_callKw0 gd F (hr.mono hj) hg a b (d 0 (Nat.zero_le _)) pass0 hkw hall hks hdb hpl
/-- the last ones by name -/
theorem pe_calK (n : Nat) (c : Cal X.prog X.w X.K X.mg X.base j x ps sp) (gd : X.A.guards = some []) (hr : Room k X.A) (ha : PA X (e :: es) t) (hkw : PK X kws tk) (hn : n ≤ ps.length := by decide) (hj : j ≤ k := by first | decide | omega) (hg : Gl X x := by rfl)
    (hall : (backToKw pos (keywordEach kws X.env)).all (·.1.isSome) = true := by rfl) (hks : (backToKw pos (keywordEach kws X.env)).filterMap (·.1) = ps.drop n := by rfl) (hdb : (x == ("__debug__" : Str)) = false := by decide)
    (he : starEach (e :: es) X.env = (false, eval e X.env) :: starEach es X.env := by rfl) (hpl : ((backTo pos (starEach (e :: es) X.env)).any (·.1) || (backToKw pos (keywordEach kws X.env)).any (·.1.isNone)) = false := by rfl) :
    PE X (.Call (.Name x p) (e :: es) kws pos) (tCallKw n (ps.drop n).length sp E0 t tk) := by
  obtain ⟨f, fd, a, b, F, _, d⟩ := c.ex
  exact pe_callKw gd F (hr.mono hj) hg a b (d n hn) pass0 ha hkw hall hks hdb he hpl
/-- constants of the module -/
theorem pe_gi {i : Int} (h : ∃ t, X.mg x = some (.int i t)) (hg : Gl X x := by rfl) (hd : (x == ("__debug__" : Str)) = false := by decide) : PE X (.Name x pos) (tC (.int i)) := by
  obtain ⟨t, h⟩ := h
  exact pe_glob hg h ⟨t, rfl⟩ hd
theorem pe_gs {i : Str} (h : ∃ t, X.mg x = some (.str i t)) (hg : Gl X x := by rfl) (hd : (x == ("__debug__" : Str)) = false := by decide) : PE X (.Name x pos) (tC (.str i)) := by
  obtain ⟨t, h⟩ := h
  exact pe_glob hg h ⟨t, rfl⟩ hd
/-- a builtin class as a value -/
theorem pe_ty {T : String} (hm : X.mg x = none) (hg : Gl X x := by rfl) (hv : bootBuiltins x = some (.type T) := by decide +kernel) (hn : x ≠ "__name__" := by decide) (hd : (x == ("__debug__" : Str)) = false := by decide) : PE X (.Name x pos) (tC (.ty T)) :=
  pe_bltn hg hm hv rfl hn hd
end
/-! ## functions of mirrors -/
def fnP (N : List Str) (n : Nat) (m : MS) : List D → Option D := fun ds => if ds.length = n then (m (entry N ds)).val else none
def fnI (N : List Str) (n : Nat) (m : MS) : List D → List D → Option (D × List D) := fun cs ds => if ds.length + 1 = n then (m (entryI N cs ds)).valI else none
section
variable {P : Program} {w : World} {K : PySem.W.Frag} {mg : Str → Option Value} {base : Heap} {G : Cg}
theorem calP {x : Str} {st : Stmt} {N ps : List Str} {k : Nat} {m : MS} (d : DefAt K mg x st) (S : FnScope N ps (defScope st)) (b : ArgsTo st x ps)
    (hb : ∀ (f : Addr) (cdv : Value) (A : Around) (outer : List PySem.Env) (s : Shared) (H : Hp) (E : XK), A.guards = some [] → Room k (A.deeper (envOfC x (defScope st) s.heap.objs.size f cdv)) →
      ∃ t, PSs (bodyX CX0 P w K mg base N x st f cdv A outer s H E).nox (defBody st) t ∧ EvS G Wn t m) : Cal P w K mg base (k + 1) x ps (SpP G (fnP N ps.length m)) :=
  cal_mk d b fun f fd F => defP F S (hb f) fun ds d h => by
    unfold fnP at h
    split at h
    · exact ⟨by assumption, h⟩
    · cases h
theorem calI {x : Str} {st : Stmt} {N ps : List Str} {k : Nat} {m : MS} (d : DefAt K mg x st) (S : FnScope N ps (defScope st)) (b : ArgsTo st x ps)
    (hb : ∀ (f : Addr) (cdv : Value) (A : Around) (outer : List PySem.Env) (s : Shared) (H : Hp) (E : XK), A.guards = some [] → Room k (A.deeper (envOfC x (defScope st) s.heap.objs.size f cdv)) →
      ∃ t, PSs (bodyX CX0 P w K mg base N x st f cdv A outer s H E).nox (defBody st) t ∧ EvS G Wn t m) (hN : 1 ≤ N.length := by decide) : Cal P w K mg base (k + 1) x ps (SpI G (fnI N ps.length m)) :=
  cal_mk d b fun f fd F => defI F S hN (hb f) fun cs ds d h => by
    unfold fnI at h
    split at h
    · exact ⟨by assumption, h⟩
    · cases h
end
/-! ## a def that hands back a new list, for the caller to own -/
def SpN (G : Cg) (f : List D → Option (List D)) : Sp := fun vs H Q _ => ∃ F ds es, Ex F H ∧ Rps G F vs ds ∧ f ds = some es ∧
  ∀ p us F' H', Ex F F' → Ex F' H' → (∀ a, H a ≠ none → F' a = F a) → Ex H H' → H p = none → F' p = none → H' p = some (.lst us) → Rps G F' us es → Q (.ref p) H'
section
variable {P : Program} {w : World} {K : PySem.W.Frag} {mg : Str → Option Value} {base : Heap} {G : Cg}
def fnN (N : List Str) (n : Nat) (ma : MA) : List D → Option (List D) := fun ds => if ds.length = n then (match ma (entry N ds) with | .ok es _ => if es.length ≤ sizeLine then some es else none | _ => none) else none
/-- return [..] -/
theorem calN {x : Str} {st : Stmt} {N ps : List Str} {k : Nat} {ma : MA} (d : DefAt K mg x st) (S : FnScope N ps (defScope st)) (b : ArgsTo st x ps)
    (hb : ∀ (f : Addr) (cdv : Value) (A : Around) (outer : List PySem.Env) (s : Shared) (H : Hp) (E : XK), A.guards = some [] → Room k (A.deeper (envOfC x (defScope st) s.heap.objs.size f cdv)) →
      ∃ ta, PSs (bodyX CX0 P w K mg base N x st f cdv A outer s H E).nox (defBody st) (tRet (tLst ta)) ∧ EvA G Wn ta ma) :
    Cal P w K mg base (k + 1) x ps (SpN G (fnN N ps.length ma)) :=
  cal_mk d b fun f fd F => by
    refine fnG_of F S (fun vs H Q E h => ?_) fun cdv A outer s H vs Q E gd hr h => ?_
    · obtain ⟨F0, ds, es, _, r, e, _⟩ := h
      rw [r.length]
      unfold fnN at e
      split at e
      · assumption
      · cases e
    · obtain ⟨ta, dt, ev⟩ := hb f cdv A outer s H E gd hr
      refine ⟨_, dt.nox, ?_⟩
      obtain ⟨F0, ds, es, e0, r, e, q⟩ := h
      unfold fnN at e
      split at e
      · refine ev ⟨G, F0, H, fun _ => none, []⟩ F0 H (L2.start N vs) (entry N ds) _ rfl (Sta.entry e0 r) ?_
        cases eo : ma (entry N ds) with
        | ok es' ρ =>
          rw [eo] at e
          simp only at e
          split at e
          · rename_i hl
            cases e
            intro us F' H' x1 S' rr
            refine ⟨by rw [rr.length]; exact hl, fun p hp => ?_⟩
            exact q p us F' _ x1 (S'.toWd.own hp).sub S'.old (fun a o h => (S'.toWd.own hp).keep a o (by simp) h) (S'.fresh hp) (S'.sub.free hp) upd_same rr
          · cases e
        | err => rw [eo] at e; cases e
        | bad => rw [eo] at e; cases e
      · cases e
end
section
variable {G : Cg} {W : Wx}
def mOwnCall (i : Nat) (f : List D → Option (List D)) (ma : MA) : MS := fun ρ => (ma ρ).then fun ds ρ1 => match f ds with
  | some es => .nx (ρ1.set i (.own es))
  | none => .bad
theorem Sta.setOwn' {B : Bg} {F H F' H' : Hp} {σ : L2.St} {ρ : En.Env} {i : Nat} {p : Addr} {us : List V} {es : List D} (S : Sta B F H σ ρ) (x1 : Ex F F') (x2 : Ex F' H') (x3 : ∀ a, H a ≠ none → F' a = F a) (x4 : Ex H H') (hp : H p = none) (fp : F' p = none)
    (hq : H' p = some (.lst us)) (r : Rps B.G F' us es) : Sta B F' H' (σ.set i (some (.ref p))) (ρ.set i (.own es)) := by
  have hw : ∀ a, (fun b => if b = p then (none : Option HO) else H' b) a = if a = p then none else H' a := fun _ => rfl
  have S1 : Sta B F' (fun b => if b = p then none else H' b) σ ρ := S.grown x1 (fun a o h => by
    have n : a ≠ p := ne_of_none h fp
    show (if a = p then none else H' a) = _
    rw [if_neg n]; exact x2 a o h) x3 (fun a o h => by
    have n : a ≠ p := ne_of_none h hp
    show (if a = p then none else H' a) = _
    rw [if_neg n]; exact x4 a o h)
  have S2 := S1.setOwn (i := i) (p := p) (vs := us) (ds := es) (by show (if p = p then none else H' p) = none; rw [if_pos rfl]) r
  have e : upd (fun b => if b = p then none else H' b) p (.lst us) = H' := by
    funext b
    by_cases n : b = p
    · subst n; rw [upd_same, hq]
    · rw [upd_ne n]; show (if b = p then none else H' b) = _; rw [if_neg n]
  rw [e] at S2
  exact S2
theorem es_ownCall {f : List D → Option (List D)} {ta : TA} {ma : MA} {E : XK} (i : Nat) (ha : EvA G W ta ma) : EvS G W (tAsg (tCall (SpN G f) [] E ta) (gName i)) (mOwnCall i f ma) := fun B F H σ ρ D gg S h =>
  ha B F H σ ρ _ gg S (h.fst fun vs ds ρ1 F1 H1 e1 S1 r1 h1 => by
    cases e : f ds with
    | none => rw [e] at h1; exact h1.elim
    | some es =>
      rw [e] at h1
      refine ⟨F1, ds, es, S1.sub, by rw [List.append_nil]; exact r1, e, fun p us F' H' x1 x2 x3 x4 x5 x6 x7 x8 => ?_⟩
      exact h1 _ F' H' x1 (S1.setOwn' x1 x2 x3 x4 x5 x6 x7 (gg ▸ x8)))
end
end En
namespace En
open PySem L2 PySem.Spec PyProof.Rows
section
variable {G : Cg} {W : Wx}
def mYes : MT := fun ρ => .ok true ρ
theorem et_yes : EvT G W tYes mYes := fun B F H σ ρ Q g S h => h true F H (Ex.refl F) S rfl
def mFrz (i : Nat) (m : MS) : MS := fun ρ => m (frz i ρ)
def mRetN : MS := fun ρ => .rt .non ρ
/-- a, b = x, y -/
def mPar (i j : Nat) (ma : MA) : MS := fun ρ => (ma ρ).then fun ds ρ1 => match ds with
  | [a, b] => .nx ((ρ1.set i (.dat a)).set j (.dat b))
  | _ => .bad
theorem es_par {ta : TA} {ma : MA} (i j : Nat) (ha : EvA G W ta ma) : EvS G W (tPar i j ta) (mPar i j ma) := fun B F H σ ρ D gg S h =>
  ha B F H σ ρ _ gg S (h.fst fun vs ds ρ1 F1 H1 e1 S1 r1 h1 => by
    split at h1
    · obtain ⟨u, v, rfl, ru, rv⟩ := r1.two
      exact ⟨u, v, rfl, h1 _ F1 H1 (Ex.refl F1) ((S1.set (gg ▸ ru)).set (gg ▸ rv))⟩
    · exact h1.elim)
/-- xs.pop(i) of a list of one's own -/
def mPopAt (i : Nat) (me : ME) : ME := fun ρ => match held ρ[i]? with
  | none => .bad
  | some _ => (me ρ).bind fun d ρ1 => match ρ1[i]? with
    | some s => match held (some s), d with
      | some ds, .int n => if -(2 ^ 63) ≤ n ∧ n < 2 ^ 63 then (match seqIndex? n ds.length with
        | some k => match ds[k]? with
          | some y => .ok y (ρ1.set i (s.put (ds.eraseIdx k)))
          | none => .bad
        | none => .bad) else .bad
      | _, _ => .bad
    | none => .bad
theorem Rps.erase {F : Hp} : ∀ {vs : List V} {ds : List D} (k : Nat), Rps G F vs ds → Rps G F (vs.eraseIdx k) (ds.eraseIdx k)
  | _, _, _, .nil => .nil
  | _, _, 0, .cons _ t => t
  | _, _, k + 1, .cons h t => .cons h (Rps.erase k t)
theorem ev_popAt {te : TE} {me : ME} (i : Nat) (he : EvE G W te me) : EvE G W (tBM G.K "list" rPopAt (tVar i) (tCons te tNil)) (mPopAt i me) := fun B F H σ ρ Q gg S h => by
  unfold mPopAt at h
  split at h
  · exact h.elim
  · rename_i ds0 hd
    obtain ⟨s0, h1, h2⟩ := held_inv hd
    obtain ⟨a, vs, e1, e2, e3, _⟩ := S.mine h1 h2
    refine ⟨_, e1, Or.inl ⟨rfl, _, SqL.of e3⟩, he B F H σ ρ _ gg S (h.fst fun u b ρ1 F1 H1 ex1 S1 r1 h1 => ?_)⟩
    split at h1
    · rename_i s hs
      split at h1
      · rename_i ds n hds
        split at h1
        · rename_i hn
          split at h1
          · rename_i k hk
            split at h1
            · rename_i y hy
              obtain ⟨s', z1, z2⟩ := held_inv hds
              cases z1
              obtain ⟨a', ws, q1, q2, q3, q4, _⟩ := S1.mine hs z2
              rw [e1] at q1
              cases q1
              obtain ⟨v, y1, y2⟩ := q4.get hy
              exact ⟨a, ws, n, k, v, rfl, by rw [r1.int_inv], q3, hn.1, hn.2, by rw [q4.length]; exact hk, y1, h1 v F1 _ (Ex.refl F1) (S1.write hs z2 e1 (q4.erase k)) (gg ▸ y2)⟩
            · exact h1.elim
          · exact h1.elim
        · exact h1.elim
      · exact h1.elim
    · exact h1.elim
end
/-- a tuple that stands at the module's top -/
def TupC (K : PySem.W.Frag) (mg : Str → Option Value) (x : Str) (d : D) : Prop := ∃ a, mg x = some (.ref a) ∧ ∀ G : Cg, G.K = K → Rp G (fun _ => none) (.ref a) d
/-- no promise at all -/
theorem cal_none {P : Program} {w : World} {K : PySem.W.Frag} {mg : Str → Option Value} {base : Heap} {G : Cg} {x : Str} {st : Stmt} {ps : List Str} {k : Nat} (d : DefAt K mg x st) (b : ArgsTo st x ps) : Cal P w K mg base k x ps (SpI G fun _ _ => none) :=
  cal_mk d b fun f fd F => ⟨fun vs H Q E h => (by obtain ⟨_, _, _, _, _, _, _, _, _, _, _, _, _, _, e, _⟩ := h; cases e), fun A outer s H args us vs Q E _ _ _ _ _ h => by obtain ⟨_, _, _, _, _, _, _, _, _, _, _, _, _, _, e, _⟩ := h; cases e⟩
theorem cal_noneP {P : Program} {w : World} {K : PySem.W.Frag} {mg : Str → Option Value} {base : Heap} {G : Cg} {x : Str} {st : Stmt} {ps : List Str} {k : Nat} (d : DefAt K mg x st) (b : ArgsTo st x ps) : Cal P w K mg base k x ps (SpP G fun _ => none) :=
  cal_mk d b fun f fd F => ⟨fun vs H Q E h => (by obtain ⟨_, _, _, _, _, e, _⟩ := h; cases e), fun A outer s H args us vs Q E _ _ _ _ _ h => by obtain ⟨_, _, _, _, _, e, _⟩ := h; cases e⟩
end En
namespace En
open PySem L2 PySem.Spec PyProof.Rows
/-! ## the rules that speak of the written part, with that part told -/
section
variable {X : Cx} {K : PySem.W.Frag} {j k n : Nat} {a b e : Expr} {es rest : List Expr} {pos : Pos} {ta tb te : TE} {t : TA} {tg : Expr}
theorem u66 {A : Around} (hr : Room k A) : A.units + 66 < cLine := by have := hr.un; omega
theorem u70 {A : Around} (hr : Room k A) : A.units + 70 < cLine := by have := hr.un; omega
theorem addK (h : X.K = K) : OpR X (binaryOp .Add) (rAddAny K) := h ▸ op_addAny
theorem eqK (h : X.K = K) (hr : Room k X.A) : OpR X (compareOp .Eq) (rEqAny K) := h ▸ op_eqX hr
theorem neK (h : X.K = K) (hr : Room k X.A) : OpR X (compareOp .NotEq) (rNeAny K) := h ▸ op_neX hr
theorem inK (h : X.K = K) (hr : Room k X.A) : OpR X (compareOp .In) (rInAny K false) := h ▸ op_inA hr
theorem notInK (h : X.K = K) (hr : Room k X.A) : OpR X (compareOp .NotIn) (rInAny K true) := h ▸ op_notInA hr
theorem ixK (h : X.K = K) : IxR X (rIx K) := h ▸ ix_seq
theorem slK (h : X.K = K) : SlR X (rSlAny K) := h ▸ sl_any
theorem piK (h : X.K = K) (he : PE X e te) : PI X tg e (iAny K te) := h ▸ pi_any he
def rLenK (K : PySem.W.Frag) : List V → Hp → VK → Prop := fun xs H Q => ∃ x n, xs = [x] ∧ LenV K x H n ∧ Q (.int n) H
theorem lenK (h : X.K = K) : CallR X (.builtin "len") (rLenK K) := h ▸ call_len
theorem isiK (h : X.K = K) : CallR X (.builtin "isinstance") (rIsi K) := h ▸ call_isi
theorem isiTK (h : X.K = K) : CallR X (.builtin "isinstance") (rIsiT K) := h ▸ call_isiT
def rListK (K : PySem.W.Frag) : List V → Hp → VK → Prop := fun xs H Q => ∃ p ys, xs = [.ref p] ∧ (SqL K H p ys ∨ SqT K H p ys) ∧ ∀ l, H l = none → Q (.ref l) (upd H l (.lst ys))
theorem listK (h : X.K = K) : CallR X (.type "list") (rListK K) := h ▸ call_list_of
theorem tupleK (h : X.K = K) : CallR X (.type "tuple") (rTupOf K) := h ▸ call_tuple_of
theorem allK (h : X.K = K) (hc : X.calm = true) : CallR X (.builtin "all") (rAll K) := h ▸ cr_all hc
theorem anyK (h : X.K = K) (hc : X.calm = true) : CallR X (.builtin "any") (rAny K) := h ▸ cr_any hc
theorem andK (h : X.K = K) (ha : PE X a ta) (hb : PE X (.BoolOp .And (b :: rest) pos) tb) : PE X (.BoolOp .And (a :: b :: rest) pos) (tAndT K ta tb) := h ▸ pe_andT ha hb
theorem orK (h : X.K = K) (ha : PE X a ta) (hb : PE X (.BoolOp .Or (b :: rest) pos) tb) : PE X (.BoolOp .Or (a :: b :: rest) pos) (tOrT K ta tb) := h ▸ pe_orT ha hb
theorem notK (h : X.K = K) (ha : PE X a ta) : PE X (.UnaryOp .Not a pos) (tNotT K ta) := h ▸ pe_notT ha
theorem truK (h : X.K = K) (ha : PE X a ta) (he : ∀ whole, isTrue a X.env whole = (do let v ← whole; standAt a.pos; holding [v] (truthy v)) := by intro _; rfl) : PT X a (fun σ H Q => ta σ H fun x H1 => ∃ k, TruV K x H1 k ∧ Q k H1) := h ▸ pt_truth ha he
theorem tupG {g : TGs} {m : Nat} (h : X.K = K) (hc : X.calm = true) (hg : PGs X es g) (hn : (assignEach es X.env).length = n := by rfl) (hst : (assignEach es X.env).findIdx? (·.1) = none := by rfl) : PG X (.Tuple es m pos) (gTup K n g) := h ▸ pg_tup hc hg hn hst
theorem starG {es' : List Expr} {g : TGs} {m : Nat} (h : X.K = K) (hc : X.calm = true) (hg : PGs X es' g)
    (hm : (assignEach es X.env).map (·.2) = (assignEach es' X.env).map (·.2) := by rfl) (hn : (assignEach es X.env).length = 2 := by rfl) (hst : (assignEach es X.env).findIdx? (·.1) = some 1 := by rfl) : PG X (.Tuple es m pos) (gStar K g) := h ▸ pg_star hc hg hm hn hst
/-- a call under a told program, world, part and module -/
theorem callK {P : Program} {w : World} {mg : Str → Option Value} {base : Heap} {x : Str} {ps : List Str} {sp : Sp} {p : Pos} (c : Cal P w K mg base j x ps sp) (h : X.prog = P ∧ X.w = w ∧ X.K = K ∧ X.mg = mg ∧ X.base = base) (gd : X.A.guards = some []) (hr : Room k X.A) (ha : PA X (e :: es) t)
    (hj : j ≤ k := by first | decide | omega) (hg : Gl X x := by rfl) (hdb : (x == ("__debug__" : Str)) = false := by decide)
    (he : starEach (e :: es) X.env = (false, eval e X.env) :: starEach es X.env := by rfl) (hpl : (backTo pos (starEach es X.env)).any (·.1) = false := by rfl) : PE X (.Call (.Name x p) (e :: es) [] pos) (tCall sp [] E0 t) := by
  obtain ⟨rfl, rfl, rfl, rfl, rfl⟩ := h
  exact pe_cal c gd hr ha hj hg hdb he hpl
theorem callK0 {P : Program} {w : World} {mg : Str → Option Value} {base : Heap} {x : Str} {ps : List Str} {sp : Sp} {p : Pos} (c : Cal P w K mg base j x ps sp) (h : X.prog = P ∧ X.w = w ∧ X.K = K ∧ X.mg = mg ∧ X.base = base) (gd : X.A.guards = some []) (hr : Room k X.A)
    (hj : j ≤ k := by first | decide | omega) (hg : Gl X x := by rfl) (hdb : (x == ("__debug__" : Str)) = false := by decide) : PE X (.Call (.Name x p) [] [] pos) (tCall sp [] E0 tNil) := by
  obtain ⟨rfl, rfl, rfl, rfl, rfl⟩ := h
  exact pe_cal0 c gd hr hj hg hdb
theorem callKK0 {P : Program} {w : World} {mg : Str → Option Value} {base : Heap} {x : Str} {ps : List Str} {sp : Sp} {p : Pos} {kws : List Keyword} {tk : TA} (c : Cal P w K mg base j x ps sp) (h : X.prog = P ∧ X.w = w ∧ X.K = K ∧ X.mg = mg ∧ X.base = base) (gd : X.A.guards = some []) (hr : Room k X.A) (hkw : PK X kws tk)
    (hj : j ≤ k := by first | decide | omega) (hg : Gl X x := by rfl)
    (hall : (backToKw pos (keywordEach kws X.env)).all (·.1.isSome) = true := by rfl) (hks : (backToKw pos (keywordEach kws X.env)).filterMap (·.1) = ps := by rfl) (hdb : (x == ("__debug__" : Str)) = false := by decide)
    (hpl : ((backTo pos (starEach [] X.env)).any (·.1) || (backToKw pos (keywordEach kws X.env)).any (·.1.isNone)) = false := by rfl) : PE X (.Call (.Name x p) [] kws pos) (tCallKw 0 ps.length sp E0 tNil tk) := by
  obtain ⟨rfl, rfl, rfl, rfl, rfl⟩ := h
  exact pe_calK0 c gd hr hkw hj hg hall hks hdb hpl
theorem callKK {P : Program} {w : World} {mg : Str → Option Value} {base : Heap} {x : Str} {ps : List Str} {sp : Sp} {p : Pos} {kws : List Keyword} {tk : TA} (m : Nat) (c : Cal P w K mg base j x ps sp) (h : X.prog = P ∧ X.w = w ∧ X.K = K ∧ X.mg = mg ∧ X.base = base) (gd : X.A.guards = some []) (hr : Room k X.A) (ha : PA X (e :: es) t) (hkw : PK X kws tk)
    (hn : m ≤ ps.length := by decide) (hj : j ≤ k := by first | decide | omega) (hg : Gl X x := by rfl)
    (hall : (backToKw pos (keywordEach kws X.env)).all (·.1.isSome) = true := by rfl) (hks : (backToKw pos (keywordEach kws X.env)).filterMap (·.1) = ps.drop m := by rfl) (hdb : (x == ("__debug__" : Str)) = false := by decide)
    (he : starEach (e :: es) X.env = (false, eval e X.env) :: starEach es X.env := by rfl) (hpl : ((backTo pos (starEach (e :: es) X.env)).any (·.1) || (backToKw pos (keywordEach kws X.env)).any (·.1.isNone)) = false := by rfl) :
    PE X (.Call (.Name x p) (e :: es) kws pos) (tCallKw m (ps.drop m).length sp E0 t tk) := by
  obtain ⟨rfl, rfl, rfl, rfl, rfl⟩ := h
  exact pe_calK m c gd hr ha hkw hn hj hg hall hks hdb he hpl
/-- a method of a list that is one's own -/
theorem bmK {r : V → List V → Hp → VK → Prop} {m : Str} {apos : Pos} {o : Expr} {to : TE} (h : X.K = K) (hb : PE X (.Call (.Attribute o m apos) es [] pos) (tBM X.K "list" r to t)) : PE X (.Call (.Attribute o m apos) es [] pos) (tBM K "list" r to t) := h ▸ hb
end
end En
namespace En
open PySem L2 PySem.Spec PyProof.Rows
/-! ## a list of written lists, one of them picked and then changed -/
def Bg.with (B : Bg) (X : Hp) : Bg := { B with X := X }
theorem Sta.reX {B : Bg} {F H : Hp} {σ : L2.St} {ρ : En.Env} {q : Addr} {o : HO} (o' : HO) (S : Sta B F H σ ρ) (hq : B.X q = some o) (h0 : B.H0 q = none) : Sta (B.also q o') F (upd H q o') σ ρ ∧ H q = some o ∧ F q = none := by
  have e := S.ext q o hq
  have nm : ∀ a, B.X a = none → a ≠ q := fun a h z => by rw [z, hq] at h; cases h
  have hX : ∀ a, a ≠ q → (B.also q o').X a = B.X a := fun a n => upd_ne n
  refine ⟨⟨⟨fun a u h => ?_, S.old, fun a u hm h => ?_, fun i a m => ?_, fun a u h => ?_⟩, fun i s h => ?_, S.dist, S.len⟩, e⟩
  · rw [upd_ne (ne_of_none h e.2)]; exact S.sub a u h
  · have n : a ≠ q := fun z => by have h' : B.H0 a = some u := h; rw [z, h0] at h'; cases h'
    rw [upd_ne n]; exact S.keep a u hm h
  · by_cases n : a = q
    · rw [n, upd_same]; exact fun z => nomatch z
    · rw [upd_ne n]; exact S.pin i a m
  · by_cases n : a = q
    · subst n
      have h' : upd B.X a o' a = some u := h
      rw [upd_same] at h' ⊢
      exact ⟨h', e.2⟩
    · rw [hX a n] at h
      rw [upd_ne n]; exact S.ext a u h
  · have q0 := S.ok i s h
    cases s with
    | emp => trivial
    | dat d =>
      cases z : (σ[i]?).join with
      | none => rw [z] at q0; exact q0
      | some v => rw [z] at q0; exact q0
    | own ds =>
      cases z : (σ[i]?).join with
      | none => rw [z] at q0; exact q0
      | some v =>
        rw [z] at q0
        obtain ⟨a, vs, rfl, h1, h2, h3, h4, h5⟩ := q0
        have n := nm a h5
        exact ⟨a, vs, rfl, h1, by rw [upd_ne n]; exact h2, h3, h4, by rw [hX a n]; exact h5⟩
    | io ds =>
      cases z : (σ[i]?).join with
      | none => rw [z] at q0; exact q0
      | some v =>
        rw [z] at q0
        obtain ⟨a, vs, rfl, h1, h2, h3, h4, h5⟩ := q0
        have n := nm a h5
        exact ⟨a, vs, rfl, h1, by rw [upd_ne n]; exact h2, h3, h4, by rw [hX a n]; exact h5⟩
/-- less must stay -/
theorem Sta.lessX {B : Bg} {X' F H : Hp} {σ : L2.St} {ρ : En.Env} (S : Sta (B.with X') F H σ ρ) (hx : Ex B.X X') : Sta B F H σ ρ := by
  have nx : ∀ a, X' a = none → B.X a = none := fun a h => hx.free h
  refine ⟨⟨S.sub, S.old, S.keep, S.pin, fun a u h => S.ext a u (hx a u h)⟩, fun i s h => ?_, S.dist, S.len⟩
  have q0 := S.ok i s h
  cases s with
  | emp => trivial
  | dat d =>
    cases z : (σ[i]?).join with
    | none => rw [z] at q0; exact q0
    | some v => rw [z] at q0; exact q0
  | own ds =>
    cases z : (σ[i]?).join with
    | none => rw [z] at q0; exact q0
    | some v =>
      rw [z] at q0
      obtain ⟨a, vs, rfl, h1, h2, h3, h4, h5⟩ := q0
      exact ⟨a, vs, rfl, h1, h2, h3, h4, nx a h5⟩
  | io ds =>
    cases z : (σ[i]?).join with
    | none => rw [z] at q0; exact q0
    | some v =>
      rw [z] at q0
      obtain ⟨a, vs, rfl, h1, h2, h3, h4, h5⟩ := q0
      exact ⟨a, vs, rfl, h1, h2, h3, h4, nx a h5⟩
/-- a list that had to stay becomes one of one's own -/
theorem Sta.take {B : Bg} {X' F H : Hp} {σ : L2.St} {ρ : En.Env} {p : Addr} {vs : List V} {ds : List D} (j : Nat) (S : Sta (B.with X') F H σ ρ) (hx : Ex B.X X') (hp : X' p = some (.lst vs)) (xp : B.X p = none) (h0 : B.H0 p = none) (r : Rps B.G F vs ds) :
    Sta B F H (σ.set j (some (.ref p))) (ρ.set j (.own ds)) := by
  have S0 := S.lessX hx
  have e := S.ext p _ hp
  have apart : ∀ (l : Nat) (z : Sl), ρ[l]? = some z → z.mine = true → σ[l]? ≠ some (some (.ref p)) := fun l z hz mz q => by
    have k := S.ok l z hz
    rw [q] at k
    cases z with
    | emp => cases mz
    | dat => cases mz
    | own ds => obtain ⟨b, ws, e', _, _, _, _, h5⟩ := k; cases e'; have h5' : X' p = none := h5; rw [hp] at h5'; cases h5'
    | io ds => obtain ⟨b, ws, e', _, _, _, _, h5⟩ := k; cases e'; have h5' : X' p = none := h5; rw [hp] at h5'; cases h5'
  refine ⟨S0.toWd, fun i s h => ?_, fun i k s t a n hi hk ms mt ea => ?_, by rw [List.length_set, List.length_set]; exact S.len⟩
  · by_cases z : j = i
    · subst z
      have hl := (List.getElem?_eq_some_iff.mp h).1
      rw [List.length_set] at hl
      rw [List.getElem?_set_self hl] at h
      cases h
      rw [join_get (by rw [S.len]; exact hl)]
      exact ⟨p, vs, rfl, e.2, e.1, r, h0, xp⟩
    · rw [List.getElem?_set_ne z] at h ⊢
      exact S0.ok i s h
  · by_cases z : j = i
    · subst z
      have hl := (List.getElem?_eq_some_iff.mp hi).1
      rw [List.length_set, ← S.len] at hl
      rw [List.getElem?_set_self hl] at ea
      cases ea
      rw [List.getElem?_set_ne n] at hk ⊢
      exact apart k t hk mt
    · by_cases z' : j = k
      · subst z'
        have hl := (List.getElem?_eq_some_iff.mp hk).1
        rw [List.length_set, ← S.len] at hl
        rw [List.getElem?_set_self hl]
        rw [List.getElem?_set_ne z] at hi ea
        intro y
        cases y
        exact apart i s hi ms ea
      · rw [List.getElem?_set_ne z] at hi ea
        rw [List.getElem?_set_ne z'] at hk ⊢
        exact S0.dist i k s t a n hi hk ms mt ea
theorem Sta.emp {B : Bg} {F H : Hp} {σ : L2.St} {ρ : En.Env} (i : Nat) (v : Option V) (S : Sta B F H σ ρ) : Sta B F H (σ.set i v) (ρ.set i .emp) := by
  refine ⟨S.toWd, fun j s h => ?_, fun j k s t a n hj hk ms mt ea => ?_, by rw [List.length_set, List.length_set]; exact S.len⟩
  · by_cases z : i = j
    · subst z
      have hl := (List.getElem?_eq_some_iff.mp h).1
      rw [List.length_set] at hl
      rw [List.getElem?_set_self hl] at h
      cases h
      trivial
    · rw [List.getElem?_set_ne z] at h ⊢
      exact S.ok j s h
  · have other : ∀ (l : Nat) (s : Sl), (ρ.set i .emp)[l]? = some s → s.mine = true → i ≠ l := fun l s h m z => by
      subst z
      have hl := (List.getElem?_eq_some_iff.mp h).1
      rw [List.length_set] at hl
      rw [List.getElem?_set_self hl] at h
      cases h; cases m
    have n1 := other j s hj ms
    have n2 := other k t hk mt
    rw [List.getElem?_set_ne n1] at hj ea
    rw [List.getElem?_set_ne n2] at hk ⊢
    exact S.dist j k s t a n hj hk ms mt ea
def tStrs : List Str → TA
  | [] => tNil
  | x :: xs => tCons (tC (.str x)) (tStrs xs)
theorem tStrs_run {σ : L2.St} {H : Hp} : ∀ (l : List Str) (Q : List V → Hp → Prop), Q (l.map V.str) H → tStrs l σ H Q
  | [], _, h => h
  | x :: xs, Q, h => tStrs_run xs (fun vs H' => Q (.str x :: vs) H') h
theorem Rps.strs {G : Cg} {F : Hp} : ∀ (l : List Str), Rps G F (l.map V.str) (l.map .str)
  | [] => .nil
  | x :: xs => .cons (.str x) (Rps.strs xs)
section
variable {G : Cg} {W : Wx}
def mPick (i j : Nat) (ls : List (List Str)) (me : ME) (mr : MS) : MS := fun ρ => if i < ρ.length then (me (ρ.set i .emp)).then (fun d ρ1 => match d with
  | .int k => match atI ls k with
    | some l => mr (ρ1.set j (.own (l.map .str)))
    | none => .bad
  | _ => .bad) else .bad
theorem es_pick {l1 l2 l3 l4 : List Str} {te : TE} {me : ME} {tr : TS} {mr : MS} (i j : Nat) (he : EvE G W te me) (hr : EvS G W tr mr) (hl : l1.length ≤ 1000 ∧ l2.length ≤ 1000 ∧ l3.length ≤ 1000 ∧ l4.length ≤ 1000) :
    EvS G W (tSeq (tAsg (tLst (tCons (tLst (tStrs l1)) (tCons (tLst (tStrs l2)) tNil))) (gName i))
      (tSeq (tDrop (tBM G.K "list" rAppend (tVar i) (tCons (tLst (tStrs l3)) tNil)))
      (tSeq (tDrop (tBM G.K "list" rAppend (tVar i) (tCons (tLst (tStrs l4)) tNil)))
      (tSeq (tAsg (tOp (rIx G.K) (tVar i) te) (gName j)) tr)))) (mPick i j [l1, l2, l3, l4] me mr) := fun B F H σ ρ D gg S h => by
  have sz : ∀ {l : List Str}, l.length ≤ 1000 → (l.map V.str).length ≤ sizeLine := fun h => by rw [List.length_map, sizeLine_eq]; omega
  unfold mPick at h
  split at h
  · rename_i hi
    have hi' : i < σ.length := by rw [S.len]; exact hi
    refine tStrs_run l1 _ ⟨sz hl.1, fun p1 hp1 => ?_⟩
    have S1 := S.also (o := .lst (l1.map V.str)) hp1
    refine tStrs_run l2 _ ⟨sz hl.2.1, fun p2 hp2 => ?_⟩
    have S2 := S1.also (o := .lst (l2.map V.str)) hp2
    refine ⟨by show 2 ≤ sizeLine; decide, fun q hq => ?_⟩
    have S3 := (S2.also (o := .lst [.ref p1, .ref p2]) hq).emp i (some (.ref q))
    have si : (σ.set i (some (.ref q)))[i]? = some (some (.ref q)) := List.getElem?_set_self hi'
    have q0 : B.H0 q = none := S2.fresh hq
    refine ⟨_, si, Or.inl ⟨rfl, _, SqL.of upd_same⟩, ?_⟩
    refine tStrs_run l3 _ ⟨sz hl.2.2.1, fun p3 hp3 => ?_⟩
    have n3 : q ≠ p3 := ne_of_none upd_same hp3
    have S4 := S3.also (o := .lst (l3.map V.str)) hp3
    refine ⟨q, _, .ref p3, rfl, rfl, by rw [upd_ne n3, upd_same], by show 2 < sizeLine; decide, ?_⟩
    obtain ⟨S5, _, _⟩ := S4.reX (q := q) (.lst ([.ref p1, .ref p2] ++ [.ref p3])) (o := .lst [.ref p1, .ref p2]) (by show upd (upd _ q _) p3 _ q = _; rw [upd_ne n3, upd_same]) q0
    refine ⟨_, si, Or.inl ⟨rfl, _, SqL.of upd_same⟩, ?_⟩
    refine tStrs_run l4 _ ⟨sz hl.2.2.2, fun p4 hp4 => ?_⟩
    have n4 : q ≠ p4 := ne_of_none upd_same hp4
    have S6 := S5.also (o := .lst (l4.map V.str)) hp4
    refine ⟨q, _, .ref p4, rfl, rfl, by rw [upd_ne n4, upd_same], by show 3 < sizeLine; decide, ?_⟩
    obtain ⟨S7, _, _⟩ := S6.reX (q := q) (.lst ([.ref p1, .ref p2] ++ [.ref p3] ++ [.ref p4])) (o := .lst ([.ref p1, .ref p2] ++ [.ref p3])) (by show upd (upd _ q _) p4 _ q = _; rw [upd_ne n4, upd_same]) q0
    -- what stands at the four places
    have a12 : p1 ≠ p2 := ne_of_none upd_same hp2
    have a1q : p1 ≠ q := ne_of_none (by rw [upd_ne a12]; exact upd_same) hq
    have a2q : p2 ≠ q := ne_of_none upd_same hq
    have a13 : p1 ≠ p3 := ne_of_none (by rw [upd_ne a1q, upd_ne a12]; exact upd_same) hp3
    have a23 : p2 ≠ p3 := ne_of_none (by rw [upd_ne a2q]; exact upd_same) hp3
    have a14 : p1 ≠ p4 := ne_of_none (by rw [upd_ne a1q, upd_ne a13, upd_ne a1q, upd_ne a12]; exact upd_same) hp4
    have a24 : p2 ≠ p4 := ne_of_none (by rw [upd_ne a2q, upd_ne a23, upd_ne a2q]; exact upd_same) hp4
    have a34 : p3 ≠ p4 := ne_of_none (by rw [upd_ne n3.symm]; exact upd_same) hp4
    have f1 : B.X p1 = none := S.xfree hp1
    have f2 : B.X p2 = none := by have z := S1.xfree hp2; have z' : upd B.X p1 _ p2 = none := z; rw [upd_ne a12.symm] at z'; exact z'
    have fq : B.X q = none := by have z := S2.xfree hq; have z' : upd (upd B.X p1 _) p2 _ q = none := z; rw [upd_ne a2q.symm, upd_ne a1q.symm] at z'; exact z'
    have f3 : B.X p3 = none := by have z := S3.xfree hp3; have z' : upd (upd (upd B.X p1 _) p2 _) q _ p3 = none := z; rw [upd_ne n3.symm, upd_ne a23.symm, upd_ne a13.symm] at z'; exact z'
    have f4 : B.X p4 = none := by have z := S5.xfree hp4; have z' : upd (upd (upd (upd (upd B.X p1 _) p2 _) q _) p3 _) q _ p4 = none := z; rw [upd_ne n4.symm, upd_ne a34.symm, upd_ne n4.symm, upd_ne a24.symm, upd_ne a14.symm] at z'; exact z'
    have g1 : B.H0 p1 = none := S.fresh hp1
    have g2 : B.H0 p2 = none := S1.fresh hp2
    have g3 : B.H0 p3 = none := S3.fresh hp3
    have g4 : B.H0 p4 = none := S5.fresh hp4
    obtain ⟨X7, hX7⟩ : ∃ X7 : Hp, (upd (upd (upd (upd (upd (upd (upd B.X p1 (.lst (l1.map V.str))) p2 (.lst (l2.map V.str))) q (.lst [.ref p1, .ref p2])) p3 (.lst (l3.map V.str))) q (.lst ([.ref p1, .ref p2] ++ [.ref p3]))) p4 (.lst (l4.map V.str))) q (.lst ([.ref p1, .ref p2] ++ [.ref p3] ++ [.ref p4])) : Hp) = X7 := ⟨_, rfl⟩
    have eX : Ex B.X X7 := fun a o z => by
      have k1 : a ≠ p1 := fun y => by rw [y, f1] at z; cases z
      have k2 : a ≠ p2 := fun y => by rw [y, f2] at z; cases z
      have k3 : a ≠ p3 := fun y => by rw [y, f3] at z; cases z
      have k4 : a ≠ p4 := fun y => by rw [y, f4] at z; cases z
      have kq : a ≠ q := fun y => by rw [y, fq] at z; cases z
      rw [← hX7, upd_ne kq, upd_ne k4, upd_ne kq, upd_ne k3, upd_ne kq, upd_ne k2, upd_ne k1]; exact z
    have x1 : X7 p1 = some (.lst (l1.map V.str)) := by rw [← hX7, upd_ne a1q, upd_ne a14, upd_ne a1q, upd_ne a13, upd_ne a1q, upd_ne a12, upd_same]
    have x2 : X7 p2 = some (.lst (l2.map V.str)) := by rw [← hX7, upd_ne a2q, upd_ne a24, upd_ne a2q, upd_ne a23, upd_ne a2q, upd_same]
    have x3 : X7 p3 = some (.lst (l3.map V.str)) := by rw [← hX7, upd_ne n3.symm, upd_ne a34, upd_ne n3.symm, upd_same]
    have x4 : X7 p4 = some (.lst (l4.map V.str)) := by rw [← hX7, upd_ne n4.symm, upd_same]
    have xq : X7 q = some (.lst [.ref p1, .ref p2, .ref p3, .ref p4]) := by rw [← hX7, upd_same]; rfl
    refine ⟨_, si, he (B.with X7) F _ _ (ρ.set i .emp) _ gg (by rw [← hX7]; exact S7) ?_⟩
    cases em : me (ρ.set i .emp) with
    | bad => rw [em] at h; exact h.elim
    | err c fs ρ1 =>
      rw [em] at h
      exact fun F' H' C dd vfs y1 y2 y3 y4 y5 => h _ F' H' C dd vfs y1 (y2.lessX eX) y3 y4 y5
    | ok d ρ1 =>
      rw [em] at h
      intro u F1 H1 e1 S9 ru
      have h1 := FitS.mono e1 h
      simp only [R.then] at h1
      split at h1
      · rename_i k
        split at h1
        · rename_i l hk
          have hq1 := (S9.ext q _ xq).1
          have pick : ∃ pk, L2.atI [V.ref p1, V.ref p2, V.ref p3, V.ref p4] k = some (.ref pk) ∧ X7 pk = some (.lst (l.map V.str)) ∧ B.X pk = none ∧ B.H0 pk = none := by
            unfold L2.atI at hk ⊢
            simp only [List.length_cons, List.length_nil] at hk ⊢
            cases z : ixN (0 + 1 + 1 + 1 + 1) k with
            | none => rw [z] at hk; cases hk
            | some m =>
              rw [z] at hk
              simp only [Option.bind_some] at hk ⊢
              match m, hk with
              | 0, hk => cases hk; exact ⟨p1, rfl, x1, f1, g1⟩
              | 1, hk => cases hk; exact ⟨p2, rfl, x2, f2, g2⟩
              | 2, hk => cases hk; exact ⟨p3, rfl, x3, f3, g3⟩
              | 3, hk => cases hk; exact ⟨p4, rfl, x4, f4, g4⟩
              | m + 4, hk => cases hk
          obtain ⟨pk, y1, y2, y3, y4⟩ := pick
          refine .inl ⟨q, _, k, .ref pk, rfl, ru.int_inv, SqL.of hq1, y1, ?_⟩
          exact hr B F1 H1 _ _ D gg (S9.take j eX y2 y3 y4 (Rps.strs l)) h1
        · exact h1.elim
      · exact h1.elim
  · exact h.elim
end
end En
namespace En
open PySem L2 PySem.Spec PyProof.Rows
/-! ## len of a list of one's own -/
section
variable {G : Cg} {W : Wx}
def mLenO (i : Nat) : ME := fun ρ => match held ρ[i]? with
  | some ds => .ok (.int ds.length) ρ
  | none => .bad
theorem ev_lenO (i : Nat) : EvE G W (tCB (rLenK G.K) (tCons (tVar i) tNil)) (mLenO i) := fun B F H σ ρ Q g S h => by
  unfold mLenO at h
  split at h
  · rename_i ds hd
    obtain ⟨s, h1, h2⟩ := held_inv hd
    obtain ⟨a, vs, e1, e2, e3, e4, _⟩ := S.mine h1 h2
    refine ⟨_, e1, _, vs.length, rfl, .inl ⟨vs, SqL.of e3, rfl⟩, ?_⟩
    rw [e4.length]; exact h _ F H (Ex.refl F) S (.int _)
  · exact h.elim
end
/-! ## t[::-1] of a tuple -/
theorem adjust_rev (n : Nat) : Builtin.Slice.sliceAdjust none none (-1) (n : Int) = ((n : Int) - 1, -1) := by
  unfold Builtin.Slice.sliceAdjust; simp
theorem places_rev (n : Nat) : Builtin.Slice.slicePlaces ((n : Int) - 1) (-1) (-1) = n := by
  unfold Builtin.Slice.slicePlaces
  rw [if_neg (by decide)]
  by_cases h : n = 0
  · subst h; rfl
  · rw [if_pos (by omega), show (-(-1) : Int) = 1 from rfl, Int.ediv_one]; omega
theorem fm_congr {α β : Type} {f g : α → Option β} : ∀ (l : List α), (∀ x ∈ l, f x = g x) → l.filterMap f = l.filterMap g
  | [], _ => rfl
  | a :: l, h => by rw [List.filterMap_cons, List.filterMap_cons, h a List.mem_cons_self, fm_congr l fun x hx => h x (List.mem_cons_of_mem _ hx)]
theorem pick_rev (xs : Array Value) : ((List.range xs.size).filterMap fun (k : Nat) => xs[((xs.size : Int) - 1 + (k : Int) * (-1)).toNat]?).toArray = xs.toList.reverse.toArray := by
  congr 1
  have e : (List.range xs.size).filterMap (fun (k : Nat) => xs[((xs.size : Int) - 1 + (k : Int) * (-1)).toNat]?) = ((List.range xs.size).map fun k => xs.size - 1 - k).filterMap (xs[·]?) := by
    rw [List.filterMap_map]
    apply fm_congr
    intro k hk
    rw [List.mem_range] at hk
    have z : ((xs.size : Int) - 1 + (k : Int) * (-1)).toNat = xs.size - 1 - k := by omega
    rw [z]; rfl
  rw [e, PySem.W.krv_range, List.filterMap_reverse, PySem.W.krv_all]
section
variable {prog : Program} {w : World} {A : Around} {E : Value → Shared → Prop} {s : Shared}
theorem tuple_rev {t sl : Addr} {items : Array Value} {vl vu vk : Value} {Q : Value → Shared → Prop} (ht : IsTup s.heap t items) (hs : s.heap.IsSliceOf sl vl vu vk) (pl : IsPart vl none) (pu : IsPart vu none) (pk : IsPart vk (some (-1)))
    (h : Q (.ref s.heap.objs.size) { s with heap := s.heap.push { cls := .type "tuple", data := .seq items.toList.reverse.toArray } }) (hz : items.size ≤ sizeLine) : wpAny (model prog w) A (getItem (.ref t) (.ref sl)) Q E s := by
  obtain ⟨os, hos, hcs, hds⟩ := id hs
  have ts : s.TypeIs (.ref sl) "slice" := ⟨os, hos, hcs⟩
  have sz : sizeOk (.seq items.toList.reverse.toArray) := by
    show items.toList.reverse.toArray.size ≤ sizeLine
    simpa using hz
  unfold getItem
  try with_reducible refine wpAny_holding ?_
  first
    | refine wpAny_bind (wpAny_pure ?_)
    | skip
  refine wpAny_bind (wpAny_sequenceKey ht.typeIs (by decide) (wpAny_bind ?_))
  refine wpAny_callSpecial?_slot (name := Str.ofString "__getitem__") ht.typeIs PyProof.Rows.slot_tuple_getitem (wpAny_call_entry PyProof.Rows.slot_tuple_getitem ht.typeIs entry_tuple_getitem ?_ (args_tuple_getitem _ _))
  show wpAny _ _ (Builtin.Tuple.tupleItemsOf (.ref t) >>= _) _ _ s
  refine wpAny_bind (tupleItemsOf_ ht (wpAny_bind (wpAny_typeOf ts ?_)))
  rw [if_pos (by decide)]
  refine wpAny_bind ?_
  unfold Builtin.Slice.sliceApplied Builtin.Slice.sliceFields
  refine wpAny_bind (wpAny_bind (wpAny_field hos hds (x := vl) rfl (wpAny_bind (wpAny_field hos hds (x := vu) rfl (wpAny_bind (wpAny_field hos hds (x := vk) rfl (wpAny_pure ?_)))))))
  refine wpAny_bind (HT.slicePart_ pk ?_)
  show wpAny _ _ (if ((-1 : Int) == 0) = true then _ else _) _ _ s
  rw [if_neg (by decide)]
  refine wpAny_bind (HT.slicePart_ pl (wpAny_bind (HT.slicePart_ pu (wpAny_bind (wpAny_pure ?_)))))
  show wpAny _ _ (match Builtin.Slice.sliceAdjust none none (-1) (items.size : Int) with | (lo, hi) => pure (lo, (-1 : Int), Builtin.Slice.slicePlaces lo hi (-1))) _ _ s
  rw [adjust_rev]
  show wpAny _ _ (pure ((items.size : Int) - 1, (-1 : Int), Builtin.Slice.slicePlaces ((items.size : Int) - 1) (-1) (-1))) _ _ s
  rw [places_rev]
  refine wpAny_pure ?_
  show wpAny _ _ (if (((items.size : Int) - 1 == 0 && (-1 : Int) == 1 && items.size == items.size)) = true then _ else _) _ _ s
  rw [if_neg (by simp), pick_rev]
  first
    | exact wpAny_bind (m := Builtin.Tuple.tupleExact _) (wpAny_newObj_type (wpAny_pure ⟨_, rfl, wpAny_pure h⟩) sz)
    | exact wpAny_bind (m := Builtin.Tuple.tupleExact _) (wpAny_newObj_type (wpAny_bind (wpAny_pure (wpAny_pure ⟨_, rfl, wpAny_pure h⟩))) sz)
    | exact wpAny_bind (wpAny_bind (m := Builtin.Tuple.tupleExact _) (wpAny_newObj_type (wpAny_pure (wpAny_pure ⟨_, rfl, wpAny_pure h⟩)) sz))
    | exact wpAny_bind (wpAny_bind (m := Builtin.Tuple.tupleExact _) (wpAny_newObj_type (wpAny_pure ⟨_, rfl, wpAny_pure h⟩) sz))
end
def tRevT (K : PySem.W.Frag) (te : TE) : TE := fun σ H Q => te σ H fun x H1 => ∃ a xs, x = .ref a ∧ SqT K H1 a xs ∧ ∀ p, H1 p = none → Q (.ref p) (upd H1 p (.tup xs.reverse))
theorem vals_rev {xs : List V} {us : List Value} (r : Vals xs us) : Vals xs.reverse us.reverse := by
  induction r with
  | nil => exact .nil
  | cons h _ ih => rw [List.reverse_cons, List.reverse_cons]; exact ih.append (.cons h .nil)
theorem pe_revT {X : Cx} {e : Expr} {te : TE} {k : Nat} {p1 p2 p3 pos : Pos} {K : PySem.W.Frag} (hK : X.K = K) (he : PE X e te) : PE X (.Subscript e (.Slice none none (some (.UnaryOp .USub (.Constant (.int 1) k p1) p2)) p3) pos) (tRevT K te) := by
  subst hK
  refine ⟨fun pins s σ H Q I h => ?_⟩
  refine Subscript_ (thn (he.run pins s σ H _ I h) ?_)
  intro v s1 ⟨x, H1, I1, r1, a, xs, ex, hx, q⟩
  subst ex
  cases r1
  have hst : PO X (some (.UnaryOp .USub (.Constant (.int 1) k p1) p2)) (tPart (tUn (rU fun i => .int (-i)) (tC (.int 1)))) := po_some (pe_un un_neg pe_int)
  refine wpAny_Slice (thn (po_none.run pins s1 σ H1 (fun o Z => o = none ∧ Z = H1) I1 ⟨rfl, rfl⟩) ?_)
  rintro vl s2 ⟨l, H2, I2, pl, rfl, rfl⟩
  refine thn (po_none.run pins s2 σ H2 (fun o Z => o = none ∧ Z = H2) I2 ⟨rfl, rfl⟩) ?_
  rintro vu s3 ⟨u, H3, I3, pu, rfl, rfl⟩
  refine thn (hst.run pins s3 σ H3 (fun o Z => o = some (-1) ∧ Z = H3) I3 ⟨1, rfl, -1, rfl, rfl, rfl⟩) ?_
  rintro vs s4 ⟨o, H4, I4, ps, rfl, rfl⟩
  have I5 : Inv X pins σ H4 { s4 with heap := s4.heap.push { cls := .type "slice", data := .fields #[vl, vu, vs] } } := I4.kept (t' := s4.toks) (fun b ob q => Heap.get?_push_of_some _ q)
  obtain ⟨its, r, ht, hz⟩ := I5.tuple hx
  have ln := r.length
  show wpAny (model X.prog X.w) X.A (subscriptTail e (.Slice none none (some (.UnaryOp .USub (.Constant (.int 1) k p1) p2)) p3) (.ref a) (.ref s4.heap.objs.size)) (EP X pins σ Q) X.xe
    { s4 with heap := s4.heap.push { cls := .type "slice", data := .fields #[vl, vu, vs] } }
  refine tail_any (ops := [.ref a, .ref s4.heap.objs.size]) ht.typeIs PyProof.Rows.slot_tuple_getitem.lookup ?_ (by with_unfolding_all rfl)
  refine tuple_rev ht (Heap.IsSliceOf.new _ vl vu vs) pl pu ps ?_ (by rw [List.size_toArray]; omega)
  refine ⟨.ref _, _, I5.laid (t' := s4.toks) (o := .tup xs.reverse) (fun b ob q => Heap.get?_push_of_some _ q) (Nat.le_refl _) ?_, rfl, q _ (I5.hok.fresh (Nat.le_refl _))⟩
  exact ⟨by rw [List.length_reverse]; exact hz, _, vals_rev r, ⟨_, Heap.get?_push_size _ rfl, rfl, _, rfl⟩⟩
section
variable {G : Cg} {W : Wx}
theorem Rps.rev {F : Hp} {vs : List V} {ds : List D} (h : Rps G F vs ds) : Rps G F vs.reverse ds.reverse := by
  induction ds generalizing vs with
  | nil => cases h; exact .nil
  | cons d ds ih =>
    cases h with
    | cons a b => rw [List.reverse_cons, List.reverse_cons]; exact (ih b).append (.cons a .nil)
def mRevT (me : ME) : ME := fun ρ => (me ρ).bind fun d ρ1 => match d with
  | .tup ds => .ok (.tup ds.reverse) ρ1
  | _ => .bad
theorem ev_revT {te : TE} {me : ME} (he : EvE G W te me) : EvE G W (tRevT G.K te) (mRevT me) := fun B F H σ ρ Q g S h =>
  he B F H σ ρ _ g S (h.fst fun v a ρ1 F1 H1 e1 S1 r1 h1 => by
    split at h1
    · obtain ⟨b, vs, rfl, hb, rb⟩ := r1.tup_inv
      exact ⟨b, vs, rfl, ex_t S1.sub hb, fun p hp => h1 _ _ _ (Ex.new (S1.sub.free hp)) (S1.new hp) (.tup (SqT.of upd_same) (rb.rev.mono (Ex.new (S1.sub.free hp))))⟩
    · exact h1.elim)
end
/-! ## sorted of texts -/
def leS (a b : Str) : Bool := !ltS b a
def sortStr (xs : List Str) : List Str := xs.mergeSort leS
theorem str_ext {a b : Str} (h : a.cps.toList = b.cps.toList) : a = b := by
  obtain ⟨⟨x⟩⟩ := a
  obtain ⟨⟨y⟩⟩ := b
  simp only at h
  rw [h]
theorem leS_iff {a b : Str} : leS a b = true ↔ a.cps.toList ≤ b.cps.toList := by
  unfold leS ltS
  simp only [Bool.not_eq_true', decide_eq_false_iff_not]
  exact Iff.rfl
theorem leS_trans (a b c : Str) (h1 : leS a b = true) (h2 : leS b c = true) : leS a c = true := leS_iff.mpr (List.le_trans (leS_iff.mp h1) (leS_iff.mp h2))
theorem leS_total (a b : Str) : (leS a b || leS b a) = true := by
  rcases List.le_total a.cps.toList b.cps.toList with h | h
  · rw [leS_iff.mpr h]; rfl
  · rw [leS_iff.mpr h, Bool.or_true]
theorem rising_pair : ∀ (l : List Str) (p : Str), risingS p l = true → (p :: l).Pairwise fun a b => leS a b = true
  | [], p, _ => by simp
  | x :: r, p, h => by
    simp only [risingS, Bool.and_eq_true, Bool.not_eq_true'] at h
    have ih := rising_pair r x h.2
    have px : leS p x = true := by
      unfold leS ltS
      rw [← ltCps_eq, h.1]; rfl
    refine List.Pairwise.cons ?_ ih
    intro y hy
    rcases List.mem_cons.mp hy with rfl | hy
    · exact px
    · exact leS_trans p x y px ((List.pairwise_cons.mp ih).1 y hy)
theorem sorted_pair : ∀ (l : List Str), sortedS l = true → l.Pairwise fun a b => leS a b = true
  | [], _ => .nil
  | x :: r, h => rising_pair r x h
theorem sortStr_unique {xs ys : List Str} (hp : ys.Perm xs) (hs : sortedS ys = true) : ys = sortStr xs := by
  have h1 := sorted_pair ys hs
  have h2 : (sortStr xs).Pairwise fun a b => leS a b = true := List.pairwise_mergeSort leS_trans leS_total xs
  have h3 : ys.Perm (sortStr xs) := hp.trans (List.mergeSort_perm xs leS).symm
  exact h3.eq_of_pairwise (fun x y _ _ q1 q2 => str_ext (List.le_antisymm (leS_iff.mp q1) (leS_iff.mp q2))) h1 h2
section
variable {G : Cg} {W : Wx}
def strsD : List D → Option (List Str)
  | [] => some []
  | .str b :: ds => (strsD ds).map fun r => b :: r
  | _ => none
theorem strsD_inv {F : Hp} : ∀ {ds : List D} {bs : List Str} {vs : List V}, strsD ds = some bs → Rps G F vs ds → vs = bs.map V.str
  | [], _, _, h, r => by cases h; cases r; rfl
  | .str b :: ds, _, _, h, r => by
    simp only [strsD, Option.map_eq_some_iff] at h
    obtain ⟨r', h, rfl⟩ := h
    cases r with
    | cons a t => rw [a.str_inv, strsD_inv h t]; rfl
  | .non :: _, _, _, h, _ => by cases h
  | .int _ :: _, _, _, h, _ => by cases h
  | .bl _ :: _, _, _, h, _ => by cases h
  | .lst _ :: _, _, _, h, _ => by cases h
  | .tup _ :: _, _, _, h, _ => by cases h
  | .dct _ :: _, _, _, h, _ => by cases h
  | .obj _ _ :: _, _, _, h, _ => by cases h
  | .scr _ :: _, _, _, h, _ => by cases h
def dSortS : List D → Option D
  | [.lst ds] => (strsD ds).bind fun xs => if xs.length < 64 then some (.lst ((sortStr xs).map .str)) else none
  | _ => none
theorem cd_sortS : Cad G W (rSortedS G.K) dSortS := fun B F H σ ρ xs ds Q g S r h => by
  obtain ⟨d, e, q, qn⟩ := lift_fits S h
  unfold dSortS at e
  split at e
  · rw [Option.bind_eq_some_iff] at e
    obtain ⟨bs, e1, e2⟩ := e
    split at e2
    · cases e2
      obtain ⟨v, rfl, rv⟩ := r.one
      obtain ⟨a, vs, rfl, ha, ra⟩ := rv.lst_inv
      cases strsD_inv e1 ra
      refine ⟨a, bs, rfl, SqL.of (S.sub _ _ ha), by assumption, fun ys p h1 h2 hp => ?_⟩
      have z := sortStr_unique h1 h2
      subst z
      exact qn p _ _ hp (.lst upd_same (Rps.strs _))
    · cases e2
  · cases e
theorem sortSK {X : Cx} {K : PySem.W.Frag} (h : X.K = K) : CallR X (.builtin "sorted") (rSortedS K) := h ▸ cr_sortedS
/-! ## str of a list, a tuple, a dict -/
def rStrD (G : Cg) : List V → Hp → VK → Prop := fun xs H Q => ∃ F x d z, xs = [x] ∧ Ex F H ∧ Rp G F x d ∧ (∃ a, x = .ref a) ∧ shownD d = some z ∧ Q (.str z) H
theorem call_strD {X : Cx} (gd : X.A.guards = some []) (hs : ∃ o, X.base.get? sysModules = some o) (hu : X.A.units + 70 < cLine) (hG : G.K = X.K) : CallR X (.type "str") (rStrD G) := by
  intro pins s σ H xs us Q I r h
  obtain ⟨F, x, d, z, rfl, ex, rp, ⟨a, rfl⟩, hz, q⟩ := h
  obtain ⟨u, rfl, ru⟩ := vals1 r
  cases ru
  unfold shownD at hz
  rw [Option.bind_eq_some_iff] at hz
  obtain ⟨p, hp, hz⟩ := hz
  split at hz
  · rename_i hc
    simp only [Bool.and_eq_true, decide_eq_true_eq] at hc
    obtain ⟨⟨h1, h2⟩, h3⟩ := hc
    cases hz
    obtain ⟨as, rd, ns⟩ := rp.reads I hs hG ex hp rfl
    exact PySem.str_of_reads rd h1 (fun _ => ns) gd (by omega) (fun _ _ q => q) (fun h' u tk kp => ⟨.str _, H, I.kept kp, ⟨_, rfl⟩, q⟩) h3
  · cases hz
def D.isRef : D → Bool
  | .lst _ => true
  | .tup _ => true
  | .dct _ => true
  | _ => false
def dStr : List D → Option D
  | [d] => if d.isRef then (shownD d).map .str else none
  | _ => none
theorem Rp.isRef {F : Hp} {v : V} {d : D} (h : Rp G F v d) (hd : d.isRef = true) : ∃ a, v = .ref a := by
  cases h <;> first | exact ⟨_, rfl⟩ | cases hd
theorem cd_str : Cad G W (rStrD G) dStr := fun B F H σ ρ xs ds Q g S r h => by
  obtain ⟨d, e, q, qn⟩ := lift_fits S h
  unfold dStr at e
  split at e
  · split at e
    · rename_i hd
      rw [Option.map_eq_some_iff] at e
      obtain ⟨z, hz, rfl⟩ := e
      obtain ⟨v, rfl, rv⟩ := r.one
      exact ⟨F, v, _, z, rfl, S.sub, rv, rv.isRef hd, hz, q _ (.str _)⟩
    · cases e
  · cases e
end
end En
namespace En
open PySem L2
/-! ## reckoning with mirrors -/
theorem lcD_pure {vs : List Nat} {mg : D → Env → Option Env} {mt : MT} {me : ME} {ρ : Env} (p : D → Bool) (g : D → D) : ∀ (ds acc : List D),
    (∀ d ∈ ds, ∃ ρ1 ρ2, mg d ρ = some ρ1 ∧ mt ρ1 = .ok (p d) ρ2 ∧ (p d = false → wipeE ρ2 vs = ρ) ∧ (p d = true → ∃ ρ3, me ρ2 = .ok (g d) ρ3 ∧ wipeE ρ3 vs = ρ)) →
    acc.length + ds.length ≤ sizeLine → lcD vs mg mt me ds acc ρ = .ok (acc ++ (ds.filter p).map g) ρ
  | [], acc, _, _ => by simp [lcD]
  | d :: ds, acc, h, hl => by
    obtain ⟨ρ1, ρ2, e1, e2, e3, e4⟩ := h d (List.mem_cons_self ..)
    rw [List.length_cons] at hl
    have h' := fun x hx => h x (List.mem_cons_of_mem _ hx)
    cases hp : p d with
    | false =>
      rw [hp] at e2 e3
      simp only [lcD, e1, e2, e3 rfl]
      rw [lcD_pure p g ds acc h' (by omega), List.filter_cons_of_neg (by simp [hp])]
    | true =>
      rw [hp] at e2 e4
      obtain ⟨ρ3, e5, e6⟩ := e4 rfl
      have hlt : acc.length < sizeLine := by omega
      simp only [lcD, e1, e2, e5, e6, if_pos hlt]
      rw [lcD_pure p g ds (acc ++ [g d]) h' (by rw [List.length_append, List.length_singleton]; omega), List.filter_cons_of_pos hp, List.map_cons, List.append_assoc]
      rfl
theorem bools_map {α : Type} (f : α → Bool) : ∀ l : List α, bools (l.map fun x => D.bl (f x)) = some (l.map f)
  | [] => rfl
  | x :: l => by rw [List.map_cons, bools, bools_map f l]; rfl
theorem oneSign_one (c : Nat) : oneSign ⟨#[c]⟩ = some c := rfl
end En
namespace En
open PySem L2
/-! ## how long a shown text is -/
/-- all signs are small -/
def Low (z : Str) : Prop := ∀ c ∈ z.cps.toList, c < 16 ^ 8
theorem low_app {a b : Str} (ha : Low a) (hb : Low b) : Low (a ++ b) := fun c hc => by
  have e : (a ++ b).cps.toList = a.cps.toList ++ b.cps.toList := by
    show (a.cps ++ b.cps).toList = _
    simp
  rw [e, List.mem_append] at hc
  exact hc.elim (ha c) (hb c)
theorem low_of (s : String) : Low (Str.ofString s) := fun c hc => by
  rw [Str.ofString_eq_toList] at hc
  obtain ⟨k, _, rfl⟩ := List.mem_map.mp hc
  exact k.val.toNat_lt
theorem low_char {q c : Nat} (hq : q < 16 ^ 8) (hc : c < 16 ^ 8) : ∀ x ∈ Builtin.Str.reprChar q c, x < 16 ^ 8 := by
  have hex : ∀ w, ∀ x ∈ List.replicate (w - ((Nat.toDigits 16 c).map Char.toNat).length) 48 ++ (Nat.toDigits 16 c).map Char.toNat, x < 16 ^ 8 := fun w x hx => by
    rw [List.mem_append] at hx
    rcases hx with hx | hx
    · rw [(List.mem_replicate.mp hx).2]; decide
    · obtain ⟨k, _, rfl⟩ := List.mem_map.mp hx
      exact k.val.toNat_lt
  intro x hx
  unfold Builtin.Str.reprChar at hx
  dsimp only at hx
  have two : ∀ a b : Nat, a < 16 ^ 8 → b < 16 ^ 8 → x ∈ [a, b] → x < 16 ^ 8 := fun a b h1 h2 h => by
    simp only [List.mem_cons, List.not_mem_nil, or_false] at h
    rcases h with rfl | rfl <;> assumption
  repeat' split at hx
  · exact two _ _ (by decide) hc hx
  · exact two _ _ (by decide) (by decide) hx
  · exact two _ _ (by decide) (by decide) hx
  · exact two _ _ (by decide) (by decide) hx
  · simp only [List.mem_cons, List.not_mem_nil, or_false] at hx; subst hx; exact hc
  all_goals (rcases List.mem_append.mp hx with h | h <;> first | exact two _ _ (by decide) (by decide) h | exact hex _ x h)
theorem low_fold {q : Nat} (hq : q < 16 ^ 8) : ∀ (l : List Nat) (acc : Array Nat), (∀ c ∈ l, c < 16 ^ 8) → (∀ c ∈ acc.toList, c < 16 ^ 8) → ∀ c ∈ (l.foldl (fun out c => out ++ (Builtin.Str.reprChar q c).toArray) acc).toList, c < 16 ^ 8
  | [], acc, _, h => h
  | k :: l, acc, h1, h2 => by
    rw [List.foldl_cons]
    refine low_fold hq l _ (fun c hc => h1 c (List.mem_cons_of_mem _ hc)) fun c hc => ?_
    rw [Array.toList_append, List.mem_append] at hc
    exact hc.elim (h2 c) (low_char hq (h1 k (List.mem_cons_self ..)) c)
theorem low_repr {x : Str} (h : Low x) : Low (reprText x) := fun c hc => by
  have hq : reprQuote x < 16 ^ 8 := by unfold reprQuote; split <;> decide
  have e : (reprText x).cps.toList = (x.cps.toList.foldl (fun out c => out ++ (Builtin.Str.reprChar (reprQuote x) c).toArray) #[reprQuote x]).toList ++ [reprQuote x] := by
    unfold reprText
    rw [Array.toList_push, ← Array.foldl_toList]
  rw [e, List.mem_append] at hc
  rcases hc with hc | hc
  · refine low_fold hq _ _ h (fun c hc => ?_) c hc
    simp only [List.mem_cons, List.not_mem_nil, or_false] at hc
    subst hc; exact hq
  · simp only [List.mem_cons, List.not_mem_nil, or_false] at hc
    subst hc; exact hq
theorem low_join {s : Str} (hs : Low s) : ∀ ts : List Str, (∀ t ∈ ts, Low t) → Low (Str.join s ts)
  | [], _ => fun c hc => by cases hc
  | [x], h => h x (List.mem_cons_self ..)
  | x :: y :: r, h => by
    show Low (x ++ s ++ Str.join s (y :: r))
    exact low_app (low_app (h x (List.mem_cons_self ..)) hs) (low_join hs (y :: r) fun t ht => h t (List.mem_cons_of_mem _ ht))
theorem low_from : ∀ (ts : List Str) (k : Nat) (acc : Str), Low acc → (∀ t ∈ ts, Low t) → Low (textFrom k acc ts)
  | [], k, acc, h, _ => h
  | t :: ts, k, acc, h, h' => low_from ts (k + 1) _ (low_app (low_app h (by split <;> exact low_of _)) (h' t (List.mem_cons_self ..))) fun x hx => h' x (List.mem_cons_of_mem _ hx)
mutual
theorem low_shown {B : Nat} : ∀ p : PyData, p.leavesShort B = true → Low p.shown
  | .none, _ => low_of _
  | .bool b, _ => by cases b <;> exact low_of _
  | .int i, _ => low_of _
  | .str x, h => by
    have hx : Low x := by
      intro c hc
      simp only [PyData.leavesShort, List.all_eq_true, decide_eq_true_eq] at h
      exact h c hc
    simp only [PyData.shown]
    exact low_repr hx
  | .list xs, h => by
    simp only [PyData.shown]
    exact low_app (low_from _ _ _ (low_of _) (low_shownAll xs (by simpa only [PyData.leavesShort] using h))) (low_of _)
  | .tuple xs, h => by
    simp only [PyData.shown]
    unfold tupleText
    exact low_app (low_app (low_of _) (low_join (low_of _) _ (low_shownAll xs (by simpa only [PyData.leavesShort] using h)))) (by split <;> exact low_of _)
  | .dict xs, h => by
    simp only [PyData.shown]
    exact low_app (low_app (low_of _) (low_join (low_of _) _ (low_shownKv xs (by simpa only [PyData.leavesShort] using h)))) (low_of _)
theorem low_shownAll {B : Nat} : ∀ ps : List PyData, PyData.leavesShortAll B ps = true → ∀ t ∈ PyData.shownAll ps, Low t
  | [], _, t, ht => by simp [PyData.shownAll] at ht
  | p :: ps, h, t, ht => by
    simp only [PyData.leavesShortAll, Bool.and_eq_true] at h
    simp only [PyData.shownAll, List.mem_cons] at ht
    rcases ht with rfl | ht
    · exact low_shown p h.1
    · exact low_shownAll ps h.2 t ht
theorem low_shownKv {B : Nat} : ∀ ps : List (PyData × PyData), PyData.leavesShortKv B ps = true → ∀ t ∈ PyData.shownKv ps, Low t
  | [], _, t, ht => by simp [PyData.shownKv] at ht
  | (k, p) :: ps, h, t, ht => by
    simp only [PyData.leavesShortKv, Bool.and_eq_true] at h
    simp only [PyData.shownKv, List.mem_cons] at ht
    rcases ht with rfl | ht
    · exact low_app (low_app (low_shown k h.1.1) (low_of _)) (low_shown p h.1.2)
    · exact low_shownKv ps h.2 t ht
end
/-- data that can be shown: how deep, how great -/
def Shw (B n b : Nat) (d : D) : Prop := ∃ p, toPyd d = some p ∧ p.showable = true ∧ p.depth ≤ n ∧ p.leavesShort B = true ∧ p.bulk ≤ b
theorem Shw.mono {B n n' b b' : Nat} {d : D} (h : Shw B n b d) (h1 : n ≤ n') (h2 : b ≤ b') : Shw B n' b' d := by
  obtain ⟨p, q1, q2, q3, q4, q5⟩ := h
  exact ⟨p, q1, q2, by omega, q4, by omega⟩
theorem Shw.shown {B n b : Nat} {d : D} (h : Shw B n b d) (hB : 8 ≤ B) (hn : n ≤ 64) (hb : (B + 2) * b + B ≤ sizeLine) : ∃ z, shownD d = some z ∧ z.length ≤ (B + 2) * b + B ∧ Low z := by
  obtain ⟨p, q1, q2, q3, q4, q5⟩ := h
  have h1 := PyData.shown_le_bulk B hB p q4
  have h2 : (B + 2) * p.bulk ≤ (B + 2) * b := Nat.mul_le_mul_left _ q5
  have h3 : p.depth ≤ 64 := by omega
  have h4 : p.shown.length ≤ sizeLine := by omega
  refine ⟨p.shown, ?_, by omega, low_shown p q4⟩
  unfold shownD
  rw [q1, Option.bind_some, if_pos (by rw [q2, decide_eq_true h3, decide_eq_true h4]; rfl)]
theorem shw_all {B n b : Nat} : ∀ ds : List D, (∀ d ∈ ds, Shw B n b d) → ∃ ps, toPyds ds = some ps ∧ PyData.showableAll ps = true ∧ PyData.depthAll ps ≤ n ∧ PyData.leavesShortAll B ps = true ∧ PyData.bulkAll ps ≤ ds.length * (b + 1)
  | [], _ => ⟨[], rfl, rfl, Nat.zero_le _, rfl, Nat.zero_le _⟩
  | d :: ds, h => by
    obtain ⟨p, q1, q2, q3, q4, q5⟩ := h d (List.mem_cons_self ..)
    obtain ⟨ps, r1, r2, r3, r4, r5⟩ := shw_all ds fun x hx => h x (List.mem_cons_of_mem _ hx)
    refine ⟨p :: ps, by simp only [toPyds, q1, r1], by simp only [PyData.showableAll, q2, r2, Bool.and_self], ?_, by simp only [PyData.leavesShortAll, q4, r4, Bool.and_self], ?_⟩
    · simp only [PyData.depthAll]; omega
    · simp only [PyData.bulkAll, List.length_cons, Nat.add_mul, Nat.one_mul]; omega
theorem Shw.tup {B n b : Nat} {ds : List D} (h : ∀ d ∈ ds, Shw B n b d) : Shw B (n + 1) (ds.length * (b + 1)) (.tup ds) := by
  obtain ⟨ps, r1, r2, r3, r4, r5⟩ := shw_all ds h
  exact ⟨.tuple ps, by simp only [toPyd, r1, Option.map_some], by simpa only [PyData.showable] using r2, by simp only [PyData.depth]; omega, by simpa only [PyData.leavesShort] using r4, by simpa only [PyData.bulk] using r5⟩
theorem Shw.lst {B n b : Nat} {ds : List D} (h : ∀ d ∈ ds, Shw B n b d) : Shw B (n + 1) (ds.length * (b + 1)) (.lst ds) := by
  obtain ⟨ps, r1, r2, r3, r4, r5⟩ := shw_all ds h
  exact ⟨.list ps, by simp only [toPyd, r1, Option.map_some], by simpa only [PyData.showable] using r2, by simp only [PyData.depth]; omega, by simpa only [PyData.leavesShort] using r4, by simpa only [PyData.bulk] using r5⟩
theorem Shw.str {B : Nat} {x : Str} (h : Low x) : Shw B 0 x.length (.str x) :=
  ⟨.str x, rfl, rfl, Nat.le_refl _, by simp only [PyData.leavesShort, List.all_eq_true, decide_eq_true_eq]; exact h, Nat.le_refl _⟩
theorem Shw.int {B : Nat} {i : Int} (h : i.natAbs.log2 < 1920) (h' : (PyData.shown (.int i)).length ≤ B) : Shw B 0 0 (.int i) :=
  ⟨.int i, rfl, by simpa only [PyData.showable, decide_eq_true_eq] using h, Nat.le_refl _, by simpa only [PyData.leavesShort, decide_eq_true_eq] using h', Nat.le_refl _⟩
theorem Shw.bl {B : Nat} (c : Bool) : Shw B 0 0 (.bl c) := ⟨.bool c, rfl, rfl, Nat.le_refl _, rfl, Nat.le_refl _⟩
theorem Shw.non {B : Nat} : Shw B 0 0 .non := ⟨.none, rfl, rfl, Nat.le_refl _, rfl, Nat.le_refl _⟩
theorem Shw.dct0 {B : Nat} : Shw B 1 0 (.dct []) := ⟨.dict [], rfl, rfl, Nat.le_refl _, rfl, Nat.le_refl _⟩
theorem low_ok {x : Str} (h : PyData.strOk x = true) : Low x := fun c hc => by
  have q := Array.all_eq_true_iff_forall_mem.mp h c (Array.mem_toList_iff.mp hc)
  have q' : c < 1114112 := by simpa using q
  exact Nat.lt_trans q' (by decide)
/-! ## the end -/
theorem Cal.law {P : Program} {w : World} {K : PySem.W.Frag} {mg : Str → Option Value} {base : Heap} {k : Nat} {x p : Str} {sp : Sp} {fa : Addr} (c : Cal P w K mg base k x [p] sp) (h : mg x = some (.ref fa)) :
    ∃ fd : FuncData, (∀ (s : Shared) (u : Value), K.In s.heap → BindsTo s fd ⟨[u], []⟩ [(p, u)]) ∧ FnG P w K mg base CX0 k fa fd [p] sp := by
  obtain ⟨f, fd, a, _, F, b, _⟩ := c.ex
  rw [h] at a
  cases a
  exact ⟨fd, fun s u hk => b s [u] hk rfl, F⟩
theorem tupC_mk {K : PySem.W.Frag} {h : Heap} {mg : Str → Option Value} {x : Str} {a : Addr} {od : Option Addr} {its : Array Value} {n : Nat} {sl : Array (Option Value)} {vs : List V} {ds : List D} (X : K.In h) (G : h.Ns mainGlobals mg)
    (e : PySem.W.nsIn K mainGlobals x = some (some (.ref a))) (l : K.lookup a = some ⟨.type "tuple", od, .seq its n, sl⟩) (z : its.size ≤ sizeLine) (r : Vals vs its.toList) (q : ∀ G : Cg, G.K = K → Rps G (fun _ => none) vs ds) : TupC K mg x (.tup ds) :=
  ⟨a, PySem.W.mg_of X G e, fun G hG => .tup (.inr ⟨_, its, n, by rw [hG]; exact l, rfl, rfl, z, r⟩) (q G hG)⟩
theorem tupC_str {K : PySem.W.Frag} {h : Heap} {mg : Str → Option Value} {x y : Str} {a : Addr} {t : Tok} {od : Option Addr} {n : Nat} {sl : Array (Option Value)} (X : K.In h) (G : h.Ns mainGlobals mg)
    (e : PySem.W.nsIn K mainGlobals x = some (some (.ref a))) (l : K.lookup a = some ⟨.type "tuple", od, .seq #[.str y t] n, sl⟩) : TupC K mg x (.tup [.str y]) :=
  tupC_mk (vs := [.str y]) X G e l (by show 1 ≤ sizeLine; decide) (.cons ⟨t, rfl⟩ .nil) fun G hG => .cons (.str y) .nil
/-- the law's promise at its one argument -/
theorem law_sp {f : List D → Option D} {K : PySem.W.Frag} {H : Hp} {a : Addr} {ns : List Int} {E : XK} (hf : f [.scr ns] = some (.bl true)) (h : SqL K H a (ns.map V.int)) : SpP ⟨K, fun _ => none⟩ f [.ref a] H (fun v _ => v = .bl true) E :=
  ⟨H, [.scr ns], .bl true, Ex.refl H, .cons (.scr h) .nil, hf, fun v F' H' _ _ _ _ r => r.bl_inv⟩
end En
namespace W23
open PySem L2 PySem.Spec PyProof.Rows En
def top (i : Nat) : Stmt := PySem.Challenge.pw_jamtally_k23_what_is_a_demand.main.body.getD i (.Pass ⟨0, 0, 0, 0⟩)
abbrev s_is_integer : Stmt := top 4
abbrev s_is_word : Stmt := top 5
abbrev s_is_pipe : Stmt := top 6
abbrev s_is_ask : Stmt := top 10
abbrev s_is_demand : Stmt := top 11
abbrev s_law_pen : Stmt := top 13
abbrev s_law_draw : Stmt := top 14
abbrev s_law_pick : Stmt := top 15
abbrev s_law_names : Stmt := top 16
abbrev s_law_is_name : Stmt := top 17
abbrev s_law_is_ask : Stmt := top 18
abbrev s_law_due : Stmt := top 19
abbrev s_law_right_one : Stmt := top 20
abbrev s_law_bent : Stmt := top 21
abbrev s_law : Stmt := top 22
structure Txt (K : PySem.W.Frag) (mg : Str → Option Value) : Prop where
  d_is_integer : DefAt K mg "is_integer" s_is_integer
  d_is_word : DefAt K mg "is_word" s_is_word
  d_is_pipe : DefAt K mg "is_pipe" s_is_pipe
  d_is_ask : DefAt K mg "is_ask" s_is_ask
  d_is_demand : DefAt K mg "is_demand" s_is_demand
  d_law_pen : DefAt K mg "_law_pen" s_law_pen
  d_law_draw : DefAt K mg "_law_draw" s_law_draw
  d_law_pick : DefAt K mg "_law_pick" s_law_pick
  d_law_names : DefAt K mg "_law_names" s_law_names
  d_law_is_name : DefAt K mg "_law_is_name" s_law_is_name
  d_law_is_ask : DefAt K mg "_law_is_ask" s_law_is_ask
  d_law_due : DefAt K mg "_law_due" s_law_due
  d_law_right_one : DefAt K mg "_law_right_one" s_law_right_one
  d_law_bent : DefAt K mg "_law_bent" s_law_bent
  d_law : DefAt K mg "law" s_law
  n_abs : mg "abs" = none
  n_all : mg "all" = none
  n_bool : mg "bool" = none
  n_int : mg "int" = none
  n_isinstance : mg "isinstance" = none
  n_len : mg "len" = none
  n_list : mg "list" = none
  n_range : mg "range" = none
  n_repr : mg "repr" = none
  n_sorted : mg "sorted" = none
  n_str : mg "str" = none
  n_tuple : mg "tuple" = none
  c_LETTERS : ∃ t, mg "LETTERS" = some (.str "abcdefghijklmnopqrstuvwxyz" t)
  c_LONGEST_NAME : ∃ t, mg "LONGEST_NAME" = some (.int 8 t)
  c_NOTHING : TupC K mg "NOTHING" (.tup [(.str "nothing")])
  c_NOT_A_PIPE : ∃ t, mg "NOT_A_PIPE" = some (.str "self" t)
  c_STARVED : TupC K mg "STARVED" (.tup [(.str "starved")])
section
variable {P : Program} {w : World} {K : PySem.W.Frag} {mg : Str → Option Value} {base : Heap} {G : Cg}
/-! ### is_integer -/
abbrev N_is_integer : List Str := ["thing"]
theorem sc_is_integer : FnScope N_is_integer ["thing"] (defScope s_is_integer) := ⟨rfl, rfl, rfl, by decide +kernel, rfl, by decide +kernel, by decide +kernel⟩
theorem at_is_integer : ArgsTo s_is_integer "is_integer" ["thing"] := fun _ _ _ _ _ _ us ws h => match us, ws, h with
  | [], [_], _ => rfl
  | [_], [], _ => rfl
def m_is_integer : MS :=
  (mRet (mAndV (mUn (dIsi .int) (mVar 0)) (mNotV (mUn (dIsi .bool) (mVar 0)))))
def f_is_integer : List D → Option D := fnP N_is_integer 1 m_is_integer
theorem k_is_integer (T : Txt K mg) (hG : G.K = K) (hs : ∃ o, base.get? sysModules = some o) : Cal P w K mg base 1 "is_integer" ["thing"] (SpP G f_is_integer) := by
  subst hG
  have sc := sc_is_integer
  refine calP (k := 0) T.d_is_integer sc at_is_integer fun f cdv A outer s H E gd hr => ?_
  refine ⟨_, (pss_one (ps_ret (andK (K := G.K) rfl (pe_callB (isiK (K := G.K) rfl) (by rfl) T.n_isinstance PyProof.Rows.boot_isinstance (pa_cons (pv 0) (pa_cons (pe_ty (T := "int") T.n_int) pa_nil))) (pe_one (notK (K := G.K) rfl (pe_callB (isiK (K := G.K) rfl) (by rfl) T.n_isinstance PyProof.Rows.boot_isinstance (pa_cons (pv 0) (pa_cons (pe_ty (T := "bool") T.n_bool) pa_nil)))))))), ?_⟩
  unfold m_is_integer
  exact (es_ret (ev_andV (ev_isi .int (ev_var 0)) (ev_notV (ev_isi .bool (ev_var 0)))))
/-! ### is_word -/
abbrev N_is_word : List Str := ["thing", "sign"]
theorem sc_is_word : FnScope N_is_word ["thing"] (defScope s_is_word) := ⟨rfl, rfl, rfl, by decide +kernel, rfl, by decide +kernel, by decide +kernel⟩
theorem at_is_word : ArgsTo s_is_word "is_word" ["thing"] := fun _ _ _ _ _ _ us ws h => match us, ws, h with
  | [], [_], _ => rfl
  | [_], [], _ => rfl
def m_is_word : MS :=
  (mSeq (mIf (mOr (mNot (mTru (mUn (dIsi .str) (mVar 0)))) (mNot (mTB (mChain (pur dLe) (pur dLe) (mC (.int 1)) (mCB dLen (mCons (mVar 0) mNil)) (mC (.int 8)))))) (mRet (mC (.bl false))) mNext)
    (mRet (mCB dAll (mCons (mLc [1] (mItems (mVar 0)) (gSet 1) mYes (mOp (pur (dIn false)) (mVar 1) (mC (.str "abcdefghijklmnopqrstuvwxyz")))) mNil))))
def f_is_word : List D → Option D := fnP N_is_word 1 m_is_word
theorem k_is_word (T : Txt K mg) (hG : G.K = K) (hs : ∃ o, base.get? sysModules = some o) : Cal P w K mg base 1 "is_word" ["thing"] (SpP G f_is_word) := by
  subst hG
  have sc := sc_is_word
  refine calP (k := 0) T.d_is_word sc at_is_word fun f cdv A outer s H E gd hr => ?_
  refine ⟨_, (pss_cons (ps_if (PW.pt (pw_or (pt_not (truK (K := G.K) rfl (pe_callB (isiK (K := G.K) rfl) (by rfl) T.n_isinstance PyProof.Rows.boot_isinstance (pa_cons (pv 0) (pa_cons (pe_ty (T := "str") T.n_str) pa_nil))))) (pw_or1 (pt_not (pt_chain op_leA op_leA pe_int (pe_callB (lenK (K := G.K) rfl) (by rfl) T.n_len PySem.boot_len (pa_cons (pv 0) pa_nil)) (pe_gi T.c_LONGEST_NAME)))))) (pss_one (ps_ret pe_bl)) pss_nil)
    (pss_one (ps_ret (pe_callB (allK (K := G.K) rfl rfl) (by rfl) T.n_all (by decide +kernel) (pa_cons (pe_lc (own := [("sign", 1)]) rfl sc.nd (piK (K := G.K) rfl (pv 0)) (blkOk_by (own := [("sign", 1)]) (N := N_is_word) (sc := defScope s_is_word) (by decide +kernel)) (fun _ _ _ _ _ => (pg_name (i := 1) sc.nd rfl (by first | exact Or.inl rfl | exact Or.inr rfl))) (fun _ _ _ _ _ => pts_nil) (fun _ _ _ _ _ => (pe_cmpR (inK (K := G.K) rfl hr) (pv 1) (pe_gs T.c_LETTERS) (by rfl)))) pa_nil))))), ?_⟩
  unfold m_is_word
  exact (es_seq (es_if (et_or (et_not (et_truth (ev_isi .str (ev_var 0)))) (et_not (et_B (ev_chain od_le od_le (ev_int 1) (ev_cb cd_len (ea_cons (ev_var 0) ea_nil)) (ev_int 8))))) (es_ret (ev_bl false)) es_next)
    (es_ret (ev_cb cd_all (ea_cons (ev_lc (vs := [1]) (ei_any (ev_var 0)) (eg_name 1) et_yes (ev_op (od_in false) (ev_var 1) (ev_str "abcdefghijklmnopqrstuvwxyz"))) ea_nil))))
/-! ### is_pipe -/
abbrev N_is_pipe : List Str := ["thing"]
theorem sc_is_pipe : FnScope N_is_pipe ["thing"] (defScope s_is_pipe) := ⟨rfl, rfl, rfl, by decide +kernel, rfl, by decide +kernel, by decide +kernel⟩
theorem at_is_pipe : ArgsTo s_is_pipe "is_pipe" ["thing"] := fun _ _ _ _ _ _ us ws h => match us, ws, h with
  | [], [_], _ => rfl
  | [_], [], _ => rfl
def m_is_pipe : MS :=
  (mRet (mAndV (mCB f_is_word (mCons (mVar 0) mNil)) (mOp (pur dNeX) (mVar 0) (mC (.str "self")))))
def f_is_pipe : List D → Option D := fnP N_is_pipe 1 m_is_pipe
theorem k_is_pipe (T : Txt K mg) (hG : G.K = K) (hs : ∃ o, base.get? sysModules = some o) (c_is_word : Cal P w K mg base 1 "is_word" ["thing"] (SpP G f_is_word)) : Cal P w K mg base 2 "is_pipe" ["thing"] (SpP G f_is_pipe) := by
  subst hG
  have sc := sc_is_pipe
  refine calP (k := 1) T.d_is_pipe sc at_is_pipe fun f cdv A outer s H E gd hr => ?_
  refine ⟨_, (pss_one (ps_ret (andK (K := G.K) rfl (callK c_is_word ⟨rfl, rfl, rfl, rfl, rfl⟩ gd hr (pa_cons (pv 0) pa_nil)) (pe_one (pe_cmpR (neK (K := G.K) rfl hr) (pv 0) (pe_gs T.c_NOT_A_PIPE) (nomark _)))))), ?_⟩
  unfold m_is_pipe
  exact (es_ret (ev_andV (ev_callP (ea_cons (ev_var 0) ea_nil)) (ev_op od_neX (ev_var 0) (ev_str "self"))))
/-! ### is_ask -/
abbrev N_is_ask : List Str := ["pipe", "number"]
theorem sc_is_ask : FnScope N_is_ask ["pipe", "number"] (defScope s_is_ask) := ⟨rfl, rfl, rfl, by decide +kernel, rfl, by decide +kernel, by decide +kernel⟩
theorem at_is_ask : ArgsTo s_is_ask "is_ask" ["pipe", "number"] := fun _ _ _ _ _ _ us ws h => match us, ws, h with
  | [], [_, _], _ => rfl
  | [_], [_], _ => rfl
  | [_, _], [], _ => rfl
def m_is_ask : MS :=
  (mRet (mAndV (mCB f_is_pipe (mCons (mVar 0) mNil)) (mAndV (mCB f_is_integer (mCons (mVar 1) mNil)) (mOp (pur dGe) (mVar 1) (mC (.int 1))))))
def f_is_ask : List D → Option D := fnP N_is_ask 2 m_is_ask
theorem k_is_ask (T : Txt K mg) (hG : G.K = K) (hs : ∃ o, base.get? sysModules = some o) (c_is_pipe : Cal P w K mg base 2 "is_pipe" ["thing"] (SpP G f_is_pipe)) (c_is_integer : Cal P w K mg base 1 "is_integer" ["thing"] (SpP G f_is_integer)) : Cal P w K mg base 3 "is_ask" ["pipe", "number"] (SpP G f_is_ask) := by
  subst hG
  have sc := sc_is_ask
  refine calP (k := 2) T.d_is_ask sc at_is_ask fun f cdv A outer s H E gd hr => ?_
  refine ⟨_, (pss_one (ps_ret (andK (K := G.K) rfl (callK c_is_pipe ⟨rfl, rfl, rfl, rfl, rfl⟩ gd hr (pa_cons (pv 0) pa_nil)) (andK (K := G.K) rfl (callK c_is_integer ⟨rfl, rfl, rfl, rfl, rfl⟩ gd hr (pa_cons (pv 1) pa_nil)) (pe_one (pe_cmpR op_geA (pv 1) pe_int (nomark _))))))), ?_⟩
  unfold m_is_ask
  exact (es_ret (ev_andV (ev_callP (ea_cons (ev_var 0) ea_nil)) (ev_andV (ev_callP (ea_cons (ev_var 1) ea_nil)) (ev_op od_ge (ev_var 1) (ev_int 1)))))
/-! ### is_demand -/
abbrev N_is_demand : List Str := ["thing"]
theorem sc_is_demand : FnScope N_is_demand ["thing"] (defScope s_is_demand) := ⟨rfl, rfl, rfl, by decide +kernel, rfl, by decide +kernel, by decide +kernel⟩
theorem at_is_demand : ArgsTo s_is_demand "is_demand" ["thing"] := fun _ _ _ _ _ _ us ws h => match us, ws, h with
  | [], [_], _ => rfl
  | [_], [], _ => rfl
def m_is_demand : MS :=
  (mSeq (mIf (mOr (mNot (mTru (mUn (dIsi .tup) (mVar 0)))) (mOr (mTB (mOp (pur (dIn true)) (mCB dLen (mCons (mVar 0) mNil)) (mTup (mCons (mC (.int 1)) (mCons (mC (.int 3)) (mCons (mC (.int 5)) mNil)))))) (mNot (mTru (mUn (dIsi .str) (mOp (pur dIx) (mVar 0) (mC (.int 0)))))))) (mRet (mC (.bl false))) mNext)
    (mSeq (mIf (mTB (mOp (pur dEqX) (mCB dLen (mCons (mVar 0) mNil)) (mC (.int 1)))) (mRet (mOp (pur (dIn false)) (mVar 0) (mTup (mCons (mC (.tup [(.str "nothing")])) (mCons (mC (.tup [(.str "starved")])) mNil))))) mNext)
    (mSeq (mIf (mTB (mOp (pur dEqX) (mCB dLen (mCons (mVar 0) mNil)) (mC (.int 3)))) (mRet (mAndV (mOp (pur dEqX) (mOp (pur dIx) (mVar 0) (mC (.int 0))) (mC (.str "one"))) (mCB f_is_ask (mCons (mOp (pur dIx) (mVar 0) (mC (.int 1))) (mCons (mOp (pur dIx) (mVar 0) (mC (.int 2))) mNil))))) mNext)
    (mSeq (mIf (mOr (mTB (mOp (pur dNeX) (mOp (pur dIx) (mVar 0) (mC (.int 0))) (mC (.str "either")))) (mOr (mNot (mTru (mCB f_is_ask (mCons (mOp (pur dIx) (mVar 0) (mC (.int 1))) (mCons (mOp (pur dIx) (mVar 0) (mC (.int 2))) mNil))))) (mNot (mTru (mCB f_is_ask (mCons (mOp (pur dIx) (mVar 0) (mC (.int 3))) (mCons (mOp (pur dIx) (mVar 0) (mC (.int 4))) mNil))))))) (mRet (mC (.bl false))) mNext)
    (mRet (mOp (pur dLt) (mOp (pur dIx) (mVar 0) (mC (.int 1))) (mOp (pur dIx) (mVar 0) (mC (.int 3)))))))))
def f_is_demand : List D → Option D := fnP N_is_demand 1 m_is_demand
theorem k_is_demand (T : Txt K mg) (hG : G.K = K) (hs : ∃ o, base.get? sysModules = some o) (c_is_ask : Cal P w K mg base 3 "is_ask" ["pipe", "number"] (SpP G f_is_ask)) : Cal P w K mg base 4 "is_demand" ["thing"] (SpP G f_is_demand) := by
  subst hG
  have sc := sc_is_demand
  obtain ⟨a_NOTHING, g_NOTHING, r_NOTHING⟩ := T.c_NOTHING
  obtain ⟨a_STARVED, g_STARVED, r_STARVED⟩ := T.c_STARVED
  refine calP (k := 3) T.d_is_demand sc at_is_demand fun f cdv A outer s H E gd hr => ?_
  refine ⟨_, (pss_cons (ps_if (PW.pt (pw_or (pt_not (truK (K := G.K) rfl (pe_callB (isiK (K := G.K) rfl) (by rfl) T.n_isinstance PyProof.Rows.boot_isinstance (pa_cons (pv 0) (pa_cons (pe_ty (T := "tuple") T.n_tuple) pa_nil))))) (pw_or (pt_cmpR (notInK (K := G.K) rfl hr) (pe_callB (lenK (K := G.K) rfl) (by rfl) T.n_len PySem.boot_len (pa_cons (pv 0) pa_nil)) (pe_tup (pa_cons pe_int (pa_cons pe_int (pa_cons pe_int pa_nil)))) (by rfl)) (pw_or1 (pt_not (truK (K := G.K) rfl (pe_callB (isiK (K := G.K) rfl) (by rfl) T.n_isinstance PyProof.Rows.boot_isinstance (pa_cons (pe_ix (ixK (K := G.K) rfl) (pv 0) pe_int (fun _ _ => rfl)) (pa_cons (pe_ty (T := "str") T.n_str) pa_nil))))))))) (pss_one (ps_ret pe_bl)) pss_nil)
    (pss_cons (ps_if (pt_cmpR (eqK (K := G.K) rfl hr) (pe_callB (lenK (K := G.K) rfl) (by rfl) T.n_len PySem.boot_len (pa_cons (pv 0) pa_nil)) pe_int (nomark _)) (pss_one (ps_ret (pe_cmpR (inK (K := G.K) rfl hr) (pv 0) (pe_tup (pa_cons (pe_glob (v := .ref a_NOTHING) rfl g_NOTHING rfl) (pa_cons (pe_glob (v := .ref a_STARVED) rfl g_STARVED rfl) pa_nil))) (by rfl)))) pss_nil)
    (pss_cons (ps_if (pt_cmpR (eqK (K := G.K) rfl hr) (pe_callB (lenK (K := G.K) rfl) (by rfl) T.n_len PySem.boot_len (pa_cons (pv 0) pa_nil)) pe_int (nomark _)) (pss_one (ps_ret (andK (K := G.K) rfl (pe_cmpR (eqK (K := G.K) rfl hr) (pe_ix (ixK (K := G.K) rfl) (pv 0) pe_int (fun _ _ => rfl)) pe_str (nomark _)) (pe_one (callK c_is_ask ⟨rfl, rfl, rfl, rfl, rfl⟩ gd hr (pa_cons (pe_ix (ixK (K := G.K) rfl) (pv 0) pe_int (fun _ _ => rfl)) (pa_cons (pe_ix (ixK (K := G.K) rfl) (pv 0) pe_int (fun _ _ => rfl)) pa_nil))))))) pss_nil)
    (pss_cons (ps_if (PW.pt (pw_or (pt_cmpR (neK (K := G.K) rfl hr) (pe_ix (ixK (K := G.K) rfl) (pv 0) pe_int (fun _ _ => rfl)) pe_str (nomark _)) (pw_or (pt_not (truK (K := G.K) rfl (callK c_is_ask ⟨rfl, rfl, rfl, rfl, rfl⟩ gd hr (pa_cons (pe_ix (ixK (K := G.K) rfl) (pv 0) pe_int (fun _ _ => rfl)) (pa_cons (pe_ix (ixK (K := G.K) rfl) (pv 0) pe_int (fun _ _ => rfl)) pa_nil))))) (pw_or1 (pt_not (truK (K := G.K) rfl (callK c_is_ask ⟨rfl, rfl, rfl, rfl, rfl⟩ gd hr (pa_cons (pe_ix (ixK (K := G.K) rfl) (pv 0) pe_int (fun _ _ => rfl)) (pa_cons (pe_ix (ixK (K := G.K) rfl) (pv 0) pe_int (fun _ _ => rfl)) pa_nil))))))))) (pss_one (ps_ret pe_bl)) pss_nil)
    (pss_one (ps_ret (pe_cmpR op_ltA (pe_ix (ixK (K := G.K) rfl) (pv 0) pe_int (fun _ _ => rfl)) (pe_ix (ixK (K := G.K) rfl) (pv 0) pe_int (fun _ _ => rfl)) (nomark _)))))))), ?_⟩
  unfold m_is_demand
  exact (es_seq (es_if (et_or (et_not (et_truth (ev_isi .tup (ev_var 0)))) (et_or (et_B (ev_op (od_in true) (ev_cb cd_len (ea_cons (ev_var 0) ea_nil)) (ev_tup (ea_cons (ev_int 1) (ea_cons (ev_int 3) (ea_cons (ev_int 5) ea_nil)))))) (et_not (et_truth (ev_isi .str (ev_op od_ix (ev_var 0) (ev_int 0))))))) (es_ret (ev_bl false)) es_next)
    (es_seq (es_if (et_B (ev_op od_eqX (ev_cb cd_len (ea_cons (ev_var 0) ea_nil)) (ev_int 1))) (es_ret (ev_op (od_in false) (ev_var 0) (ev_tup (ea_cons (ev_c fun F => (r_NOTHING G rfl).mono (fun _ _ e => by cases e)) (ea_cons (ev_c fun F => (r_STARVED G rfl).mono (fun _ _ e => by cases e)) ea_nil))))) es_next)
    (es_seq (es_if (et_B (ev_op od_eqX (ev_cb cd_len (ea_cons (ev_var 0) ea_nil)) (ev_int 3))) (es_ret (ev_andV (ev_op od_eqX (ev_op od_ix (ev_var 0) (ev_int 0)) (ev_str "one")) (ev_callP (ea_cons (ev_op od_ix (ev_var 0) (ev_int 1)) (ea_cons (ev_op od_ix (ev_var 0) (ev_int 2)) ea_nil))))) es_next)
    (es_seq (es_if (et_or (et_B (ev_op od_neX (ev_op od_ix (ev_var 0) (ev_int 0)) (ev_str "either"))) (et_or (et_not (et_truth (ev_callP (ea_cons (ev_op od_ix (ev_var 0) (ev_int 1)) (ea_cons (ev_op od_ix (ev_var 0) (ev_int 2)) ea_nil))))) (et_not (et_truth (ev_callP (ea_cons (ev_op od_ix (ev_var 0) (ev_int 3)) (ea_cons (ev_op od_ix (ev_var 0) (ev_int 4)) ea_nil))))))) (es_ret (ev_bl false)) es_next)
    (es_ret (ev_op od_lt (ev_op od_ix (ev_var 0) (ev_int 1)) (ev_op od_ix (ev_var 0) (ev_int 3))))))))
/-! ### _law_pen -/
abbrev N_law_pen : List Str := ["_law_script"]
theorem sc_law_pen : FnScope N_law_pen ["_law_script"] (defScope s_law_pen) := ⟨rfl, rfl, rfl, by decide +kernel, rfl, by decide +kernel, by decide +kernel⟩
theorem at_law_pen : ArgsTo s_law_pen "_law_pen" ["_law_script"] := fun _ _ _ _ _ _ us ws h => match us, ws, h with
  | [], [_], _ => rfl
  | [_], [], _ => rfl
def m_law_pen : MA :=
  (mCons (mCB dList (mCons (mSl (mVar 0) (mC none) (mPart (mC (.int 63)))) mNil)) (mCons (mC (.int 0)) (mCons (mC (.int 0)) mNil)))
def f_law_pen : List D → Option (List D) := fnN N_law_pen 1 m_law_pen
theorem k_law_pen (T : Txt K mg) (hG : G.K = K) (hs : ∃ o, base.get? sysModules = some o) : Cal P w K mg base 1 "_law_pen" ["_law_script"] (SpN G f_law_pen) := by
  subst hG
  have sc := sc_law_pen
  refine calN (k := 0) T.d_law_pen sc at_law_pen fun f cdv A outer s H E gd hr => ?_
  refine ⟨_, (pss_one (ps_ret (pe_lst (pa_cons (pe_callTy (listK (K := G.K) rfl) (by rfl) T.n_list (by decide +kernel) (pa_cons (pe_slice (slK (K := G.K) rfl) (pv 0) po_none (po_some pe_int)) pa_nil)) (pa_cons pe_int (pa_cons pe_int pa_nil)))))), ?_⟩
  unfold m_law_pen
  exact (ea_cons (ev_cb cd_list (ea_cons (ev_sl (ev_var 0) eo_none (eo_some (ev_int 63))) ea_nil)) (ea_cons (ev_int 0) (ea_cons (ev_int 0) ea_nil)))
/-! ### _law_draw -/
abbrev N_law_draw : List Str := ["_law_pen_here", "_law_many", "_law_at", "_law_cell", "_law_mixed", "_law_digit", "_law_whole"]
theorem sc_law_draw : FnScope N_law_draw ["_law_pen_here", "_law_many"] (defScope s_law_draw) := ⟨rfl, rfl, rfl, by decide +kernel, rfl, by decide +kernel, by decide +kernel⟩
theorem at_law_draw : ArgsTo s_law_draw "_law_draw" ["_law_pen_here", "_law_many"] := fun _ _ _ _ _ _ us ws h => match us, ws, h with
  | [], [_, _], _ => rfl
  | [_], [_], _ => rfl
  | [_, _], [], _ => rfl
def m_law_draw : MS :=
  (mSeq (mIf (mTB (mOp (pur dGt) (mIxO 0 (mC (.int 2))) (mC (.int 0)))) (mSeq (mAsg (mOp (pur dMod) (mIxO 0 (mC (.int 2))) (mVar 1)) (gSet 5))
    (mSeq (mPut 0 (mC (.int 2)) (mOp (pur dFdiv) (mIxO 0 (mC (.int 2))) (mVar 1)))
    (mRet (mVar 5)))) mNext)
    (mSeq (mAsg (mIxO 0 (mC (.int 1))) (gSet 2))
    (mSeq (mPut 0 (mC (.int 1)) (mOp (pur dAdd) (mVar 2) (mC (.int 1))))
    (mSeq (mAsg (mOp (pur dAdd) (mOp (pur dMul) (mC (.int 60795)) (mVar 2)) (mC (.int 1439))) (gSet 3))
    (mSeq (mIf (mTB (mOp (pur dNeX) (mIxO 0 (mC (.int 0))) (mLst mNil))) (mAsg (mOp (pur dIx) (mIxO 0 (mC (.int 0))) (mOp (pur dMod) (mVar 2) (mCB dLen (mCons (mIxO 0 (mC (.int 0))) mNil)))) (gSet 3)) mNext)
    (mSeq (mIf (mAnd (mTB (mOp (pur dLt) (mVar 2) (mCB dLen (mCons (mIxO 0 (mC (.int 0))) mNil)))) (mTB (mOp (pur dGe) (mCB dAbs (mCons (mVar 3) mNil)) (mOp (pur dPow) (mC (.int 10)) (mC (.int 18)))))) (mSeq (mAsg (mOp (pur dAdd) (mOp (pur dMul) (mC (.int 2)) (mCB dAbs (mCons (mVar 3) mNil))) (mCB dInt (mCons (mOp (pur dLt) (mVar 3) (mC (.int 0))) mNil))) (gSet 6))
    (mSeq (mPut 0 (mC (.int 2)) (mOp (pur dFdiv) (mVar 6) (mVar 1)))
    (mRet (mOp (pur dMod) (mVar 6) (mVar 1))))) mNext)
    (mSeq (mAsg (mOp (pur dMod) (mOp (pur dPow) (mOp (pur dAdd) (mOp (pur dAdd) (mOp (pur dMod) (mVar 3) (mC (.int 2147483249))) (mOp (pur dMul) (mC (.int 60795)) (mVar 2))) (mC (.int 1439))) (mC (.int 3))) (mC (.int 2147483647))) (gSet 4))
    (mSeq (mAsg (mOp (pur dMod) (mOp (pur dPow) (mOp (pur dAdd) (mOp (pur dAdd) (mOp (pur dMul) (mVar 4) (mOp (pur dAdd) (mVar 2) (mC (.int 20333)))) (mOp (pur dMul) (mOp (pur dMul) (mC (.int 7)) (mVar 2)) (mVar 2))) (mC (.int 3))) (mC (.int 3))) (mC (.int 2147483629))) (gSet 4))
    (mRet (mOp (pur dMod) (mOp (pur dFdiv) (mVar 4) (mC (.int 64))) (mVar 1)))))))))))
def f_law_draw : List D → List D → Option (D × List D) := fnI N_law_draw 2 m_law_draw
theorem k_law_draw (T : Txt K mg) (hG : G.K = K) (hs : ∃ o, base.get? sysModules = some o) : Cal P w K mg base 1 "_law_draw" ["_law_pen_here", "_law_many"] (SpI G f_law_draw) := by
  subst hG
  have sc := sc_law_draw
  refine calI (k := 0) T.d_law_draw sc at_law_draw fun f cdv A outer s H E gd hr => ?_
  refine ⟨_, (pss_cons (ps_if (pt_cmpR op_gtA (pe_ix (ixK (K := G.K) rfl) (pv 0) pe_int (fun _ _ => rfl)) pe_int (nomark _)) (pss_cons (ps_set (i := 5) sc.nd rfl (Or.inl rfl) (pe_op op_modN (pe_ix (ixK (K := G.K) rfl) (pv 0) pe_int (fun _ _ => rfl)) (pv 1)))
    (pss_cons (ps_asg (pe_op op_fdivN (pe_ix (ixK (K := G.K) rfl) (pv 0) pe_int (fun _ _ => rfl)) (pv 1)) (pg_sub (pv 0) pe_int set_list))
    (pss_one (ps_ret (pv 5))))) pss_nil)
    (pss_cons (ps_set (i := 2) sc.nd rfl (Or.inl rfl) (pe_ix (ixK (K := G.K) rfl) (pv 0) pe_int (fun _ _ => rfl)))
    (pss_cons (ps_asg (pe_op (addK (K := G.K) rfl) (pv 2) pe_int) (pg_sub (pv 0) pe_int set_list))
    (pss_cons (ps_set (i := 3) sc.nd rfl (Or.inl rfl) (pe_op (addK (K := G.K) rfl) (pe_op op_mul pe_int (pv 2)) pe_int))
    (pss_cons (ps_if (pt_cmpR (neK (K := G.K) rfl hr) (pe_ix (ixK (K := G.K) rfl) (pv 0) pe_int (fun _ _ => rfl)) (pe_lst pa_nil) (nomark _)) (pss_one (ps_set (i := 3) sc.nd rfl (Or.inl rfl) (pe_ix (ixK (K := G.K) rfl) (pe_ix (ixK (K := G.K) rfl) (pv 0) pe_int (fun _ _ => rfl)) (pe_op op_modN (pv 2) (pe_callB (lenK (K := G.K) rfl) (by rfl) T.n_len PySem.boot_len (pa_cons (pe_ix (ixK (K := G.K) rfl) (pv 0) pe_int (fun _ _ => rfl)) pa_nil))) (fun _ _ => rfl)))) pss_nil)
    (pss_cons (ps_if (PW.pt (pw_and (pt_cmpR op_ltA (pv 2) (pe_callB (lenK (K := G.K) rfl) (by rfl) T.n_len PySem.boot_len (pa_cons (pe_ix (ixK (K := G.K) rfl) (pv 0) pe_int (fun _ _ => rfl)) pa_nil)) (nomark _)) (pw_and1 (pt_cmpR op_geA (pe_callB call_abs (by rfl) T.n_abs (by decide +kernel) (pa_cons (pv 3) pa_nil)) (pe_op op_pow pe_int pe_int) (nomark _))))) (pss_cons (ps_set (i := 6) sc.nd rfl (Or.inl rfl) (pe_op (addK (K := G.K) rfl) (pe_op op_mul pe_int (pe_callB call_abs (by rfl) T.n_abs (by decide +kernel) (pa_cons (pv 3) pa_nil))) (pe_callTy call_int1 (by rfl) T.n_int (by decide +kernel) (pa_cons (pe_cmpR op_ltA (pv 3) pe_int (nomark _)) pa_nil))))
    (pss_cons (ps_asg (pe_op op_fdivN (pv 6) (pv 1)) (pg_sub (pv 0) pe_int set_list))
    (pss_one (ps_ret (pe_op op_modN (pv 6) (pv 1)))))) pss_nil)
    (pss_cons (ps_set (i := 4) sc.nd rfl (Or.inl rfl) (pe_op op_modN (pe_op op_pow (pe_op (addK (K := G.K) rfl) (pe_op (addK (K := G.K) rfl) (pe_op op_modN (pv 3) pe_int) (pe_op op_mul pe_int (pv 2))) pe_int) pe_int) pe_int))
    (pss_cons (ps_set (i := 4) sc.nd rfl (Or.inl rfl) (pe_op op_modN (pe_op op_pow (pe_op (addK (K := G.K) rfl) (pe_op (addK (K := G.K) rfl) (pe_op op_mul (pv 4) (pe_op (addK (K := G.K) rfl) (pv 2) pe_int)) (pe_op op_mul (pe_op op_mul pe_int (pv 2)) (pv 2))) pe_int) pe_int) pe_int))
    (pss_one (ps_ret (pe_op op_modN (pe_op op_fdivN (pv 4) pe_int) (pv 1)))))))))))), ?_⟩
  unfold m_law_draw
  exact (es_seq (es_if (et_B (ev_op od_gt (ev_ixO 0 (ev_int 2)) (ev_int 0))) (es_seq (es_asg (ev_op od_mod (ev_ixO 0 (ev_int 2)) (ev_var 1)) (eg_name 5))
    (es_seq (es_put 0 (ev_op od_fdiv (ev_ixO 0 (ev_int 2)) (ev_var 1)) (ev_int 2))
    (es_ret (ev_var 5)))) es_next)
    (es_seq (es_asg (ev_ixO 0 (ev_int 1)) (eg_name 2))
    (es_seq (es_put 0 (ev_op od_add (ev_var 2) (ev_int 1)) (ev_int 1))
    (es_seq (es_asg (ev_op od_add (ev_op od_mul (ev_int 60795) (ev_var 2)) (ev_int 1439)) (eg_name 3))
    (es_seq (es_if (et_B (ev_op od_neX (ev_ixO 0 (ev_int 0)) (ev_lst ea_nil))) (es_asg (ev_op od_ix (ev_ixO 0 (ev_int 0)) (ev_op od_mod (ev_var 2) (ev_cb cd_len (ea_cons (ev_ixO 0 (ev_int 0)) ea_nil)))) (eg_name 3)) es_next)
    (es_seq (es_if (et_and (et_B (ev_op od_lt (ev_var 2) (ev_cb cd_len (ea_cons (ev_ixO 0 (ev_int 0)) ea_nil)))) (et_B (ev_op od_ge (ev_cb cd_abs (ea_cons (ev_var 3) ea_nil)) (ev_op od_pow (ev_int 10) (ev_int 18))))) (es_seq (es_asg (ev_op od_add (ev_op od_mul (ev_int 2) (ev_cb cd_abs (ea_cons (ev_var 3) ea_nil))) (ev_cb cd_int (ea_cons (ev_op od_lt (ev_var 3) (ev_int 0)) ea_nil))) (eg_name 6))
    (es_seq (es_put 0 (ev_op od_fdiv (ev_var 6) (ev_var 1)) (ev_int 2))
    (es_ret (ev_op od_mod (ev_var 6) (ev_var 1))))) es_next)
    (es_seq (es_asg (ev_op od_mod (ev_op od_pow (ev_op od_add (ev_op od_add (ev_op od_mod (ev_var 3) (ev_int 2147483249)) (ev_op od_mul (ev_int 60795) (ev_var 2))) (ev_int 1439)) (ev_int 3)) (ev_int 2147483647)) (eg_name 4))
    (es_seq (es_asg (ev_op od_mod (ev_op od_pow (ev_op od_add (ev_op od_add (ev_op od_mul (ev_var 4) (ev_op od_add (ev_var 2) (ev_int 20333))) (ev_op od_mul (ev_op od_mul (ev_int 7) (ev_var 2)) (ev_var 2))) (ev_int 3)) (ev_int 3)) (ev_int 2147483629)) (eg_name 4))
    (es_ret (ev_op od_mod (ev_op od_fdiv (ev_var 4) (ev_int 64)) (ev_var 1)))))))))))
/-! ### _law_pick -/
abbrev N_law_pick : List Str := ["_law_pen_here", "_law_some"]
theorem sc_law_pick : FnScope N_law_pick ["_law_pen_here", "_law_some"] (defScope s_law_pick) := ⟨rfl, rfl, rfl, by decide +kernel, rfl, by decide +kernel, by decide +kernel⟩
theorem at_law_pick : ArgsTo s_law_pick "_law_pick" ["_law_pen_here", "_law_some"] := fun _ _ _ _ _ _ us ws h => match us, ws, h with
  | [], [_, _], _ => rfl
  | [_], [_], _ => rfl
  | [_, _], [], _ => rfl
def m_law_pick : MS :=
  (mRet (mOp (pur dIx) (mVar 1) (mCallI f_law_draw 0 (mCons (mCB dLen (mCons (mVar 1) mNil)) mNil))))
def f_law_pick : List D → List D → Option (D × List D) := fnI N_law_pick 2 m_law_pick
theorem k_law_pick (T : Txt K mg) (hG : G.K = K) (hs : ∃ o, base.get? sysModules = some o) (c_law_draw : Cal P w K mg base 1 "_law_draw" ["_law_pen_here", "_law_many"] (SpI G f_law_draw)) : Cal P w K mg base 2 "_law_pick" ["_law_pen_here", "_law_some"] (SpI G f_law_pick) := by
  subst hG
  have sc := sc_law_pick
  refine calI (k := 1) T.d_law_pick sc at_law_pick fun f cdv A outer s H E gd hr => ?_
  refine ⟨_, (pss_one (ps_ret (pe_ix (ixK (K := G.K) rfl) (pv 1) (callK c_law_draw ⟨rfl, rfl, rfl, rfl, rfl⟩ gd hr (pa_cons (pv 0) (pa_cons (pe_callB (lenK (K := G.K) rfl) (by rfl) T.n_len PySem.boot_len (pa_cons (pv 1) pa_nil)) pa_nil))) (fun _ _ => rfl)))), ?_⟩
  unfold m_law_pick
  exact (es_ret (ev_op od_ix (ev_var 1) (ev_callI 0 (ea_cons (ev_cb cd_len (ea_cons (ev_var 1) ea_nil)) ea_nil))))
/-! ### _law_names -/
abbrev N_law_names : List Str := ["_law_pen_here", "_law_many", "_law_some", "_law_kept", "_law_k"]
theorem sc_law_names : FnScope N_law_names ["_law_pen_here", "_law_many"] (defScope s_law_names) := ⟨rfl, rfl, rfl, by decide +kernel, rfl, by decide +kernel, by decide +kernel⟩
theorem at_law_names : ArgsTo s_law_names "_law_names" ["_law_pen_here", "_law_many"] := fun _ _ _ _ _ _ us ws h => match us, ws, h with
  | [], [_, _], _ => rfl
  | [_], [_], _ => rfl
  | [_, _], [], _ => rfl
def m_law_names : MS :=
  (mPick 2 3 [(["a", "b", "c", "d", "e", "f"] : List Str), (["x", "xx", "xxx", "xy", "xyx", "y"] : List Str), (["aaaaaaaa", "aaaaaaab", "b", "zzzzzzzz", "zz", "z"] : List Str), (["put", "get", "pass", "in", "one", "either"] : List Str)] (mCallI f_law_draw 0 (mCons (mC (.int 4)) mNil)) (mRet (mLc [4] (mRange dRange1 (mCons (mVar 1) mNil)) (gSet 4) mYes (mPopAt 3 (mCallI f_law_draw 0 (mCons (mLenO 3) mNil))))))
def f_law_names : List D → List D → Option (D × List D) := fnI N_law_names 2 m_law_names
theorem k_law_names (T : Txt K mg) (hG : G.K = K) (hs : ∃ o, base.get? sysModules = some o) (c_law_draw : Cal P w K mg base 1 "_law_draw" ["_law_pen_here", "_law_many"] (SpI G f_law_draw)) : Cal P w K mg base 2 "_law_names" ["_law_pen_here", "_law_many"] (SpI G f_law_names) := by
  subst hG
  have sc := sc_law_names
  refine calI (k := 1) T.d_law_names sc at_law_names fun f cdv A outer s H E gd hr => ?_
  refine ⟨_, (pss_cons (ps_set (i := 2) sc.nd rfl (by first | exact Or.inl rfl | exact Or.inr rfl) (pe_lst (pa_cons (pe_lst (pa_cons pe_str (pa_cons pe_str (pa_cons pe_str (pa_cons pe_str (pa_cons pe_str (pa_cons pe_str pa_nil))))))) (pa_cons (pe_lst (pa_cons pe_str (pa_cons pe_str (pa_cons pe_str (pa_cons pe_str (pa_cons pe_str (pa_cons pe_str pa_nil))))))) pa_nil)))) (pss_cons (ps_expr (bmK (K := G.K) rfl (pe_bm PySem.F.plainAttrs_list PySem.F.slot_list_append PySem.F.type_list_append mt_append (pv 2) (pa_cons (pe_lst (pa_cons pe_str (pa_cons pe_str (pa_cons pe_str (pa_cons pe_str (pa_cons pe_str (pa_cons pe_str pa_nil))))))) pa_nil)))) (pss_cons (ps_expr (bmK (K := G.K) rfl (pe_bm PySem.F.plainAttrs_list PySem.F.slot_list_append PySem.F.type_list_append mt_append (pv 2) (pa_cons (pe_lst (pa_cons pe_str (pa_cons pe_str (pa_cons pe_str (pa_cons pe_str (pa_cons pe_str (pa_cons pe_str pa_nil))))))) pa_nil)))) (pss_cons (ps_set (i := 3) sc.nd rfl (by first | exact Or.inl rfl | exact Or.inr rfl) (pe_ix (ixK (K := G.K) rfl) (pv 2) (callK c_law_draw ⟨rfl, rfl, rfl, rfl, rfl⟩ gd hr (pa_cons (pv 0) (pa_cons pe_int pa_nil))) (fun _ _ => rfl)))
    (pss_one (ps_ret (pe_lc (own := [("_law_k", 4)]) rfl sc.nd (pi_range1 (by rfl) T.n_range (pa_cons (pv 1) pa_nil)) (blkOk_by (own := [("_law_k", 4)]) (N := N_law_names) (sc := defScope s_law_names) (by decide +kernel)) (fun _ _ _ _ _ => (pg_name (i := 4) sc.nd rfl (by first | exact Or.inl rfl | exact Or.inr rfl))) (fun _ _ _ _ _ => pts_nil) (fun _ _ _ _ _ => (bmK (K := G.K) rfl (pe_bm PySem.F.plainAttrs_list PySem.F.slot_list_pop PySem.F.type_list_pop mt_popAt (pv 3) (pa_cons (callK c_law_draw ⟨rfl, rfl, rfl, rfl, rfl⟩ gd hr (pa_cons (pv 0) (pa_cons (pe_callB (lenK (K := G.K) rfl) (by rfl) T.n_len PySem.boot_len (pa_cons (pv 3) pa_nil)) pa_nil))) pa_nil))))))))))), ?_⟩
  unfold m_law_names
  exact (es_pick (l1 := (["a", "b", "c", "d", "e", "f"] : List Str)) (l2 := (["x", "xx", "xxx", "xy", "xyx", "y"] : List Str)) (l3 := (["aaaaaaaa", "aaaaaaab", "b", "zzzzzzzz", "zz", "z"] : List Str)) (l4 := (["put", "get", "pass", "in", "one", "either"] : List Str)) 2 3 (ev_callI 0 (ea_cons (ev_int 4) ea_nil)) (es_ret (ev_lc (vs := [4]) (ei_range1 (ea_cons (ev_var 1) ea_nil)) (eg_name 4) et_yes (ev_popAt 3 (ev_callI 0 (ea_cons (ev_lenO 3) ea_nil))))) (by decide))
/-! ### _law_is_name -/
abbrev N_law_is_name : List Str := ["_law_matter", "_law_sign"]
theorem sc_law_is_name : FnScope N_law_is_name ["_law_matter"] (defScope s_law_is_name) := ⟨rfl, rfl, rfl, by decide +kernel, rfl, by decide +kernel, by decide +kernel⟩
theorem at_law_is_name : ArgsTo s_law_is_name "_law_is_name" ["_law_matter"] := fun _ _ _ _ _ _ us ws h => match us, ws, h with
  | [], [_], _ => rfl
  | [_], [], _ => rfl
def m_law_is_name : MS :=
  (mSeq (mIf (mOr (mNot (mTru (mUn (dIsi .str) (mVar 0)))) (mOr (mNot (mTB (mChain (pur dLe) (pur dLe) (mC (.int 1)) (mCB dLen (mCons (mVar 0) mNil)) (mC (.int 8))))) (mTB (mOp (pur dEqX) (mVar 0) (mC (.str "self")))))) (mRet (mC (.bl false))) mNext)
    (mRet (mOp (pur dEqX) (mLc [1] (mItems (mVar 0)) (gSet 1) (mTB (mOp (pur (dIn true)) (mVar 1) (mC (.str "abcdefghijklmnopqrstuvwxyz")))) (mVar 1)) (mLst mNil))))
def f_law_is_name : List D → Option D := fnP N_law_is_name 1 m_law_is_name
theorem k_law_is_name (T : Txt K mg) (hG : G.K = K) (hs : ∃ o, base.get? sysModules = some o) : Cal P w K mg base 1 "_law_is_name" ["_law_matter"] (SpP G f_law_is_name) := by
  subst hG
  have sc := sc_law_is_name
  refine calP (k := 0) T.d_law_is_name sc at_law_is_name fun f cdv A outer s H E gd hr => ?_
  refine ⟨_, (pss_cons (ps_if (PW.pt (pw_or (pt_not (truK (K := G.K) rfl (pe_callB (isiK (K := G.K) rfl) (by rfl) T.n_isinstance PyProof.Rows.boot_isinstance (pa_cons (pv 0) (pa_cons (pe_ty (T := "str") T.n_str) pa_nil))))) (pw_or (pt_not (pt_chain op_leA op_leA pe_int (pe_callB (lenK (K := G.K) rfl) (by rfl) T.n_len PySem.boot_len (pa_cons (pv 0) pa_nil)) pe_int)) (pw_or1 (pt_cmpR (eqK (K := G.K) rfl hr) (pv 0) pe_str (nomark _)))))) (pss_one (ps_ret pe_bl)) pss_nil)
    (pss_one (ps_ret (pe_cmpR (eqK (K := G.K) rfl hr) (pe_lc (own := [("_law_sign", 1)]) rfl sc.nd (piK (K := G.K) rfl (pv 0)) (blkOk_by (own := [("_law_sign", 1)]) (N := N_law_is_name) (sc := defScope s_law_is_name) (by decide +kernel)) (fun _ _ _ _ _ => (pg_name (i := 1) sc.nd rfl (by first | exact Or.inl rfl | exact Or.inr rfl))) (fun _ _ _ _ _ => (pts_one (pt_cmpR (notInK (K := G.K) rfl hr) (pv 1) pe_str (by rfl)))) (fun _ _ _ _ _ => (pv 1))) (pe_lst pa_nil) (nomark _))))), ?_⟩
  unfold m_law_is_name
  exact (es_seq (es_if (et_or (et_not (et_truth (ev_isi .str (ev_var 0)))) (et_or (et_not (et_B (ev_chain od_le od_le (ev_int 1) (ev_cb cd_len (ea_cons (ev_var 0) ea_nil)) (ev_int 8)))) (et_B (ev_op od_eqX (ev_var 0) (ev_str "self"))))) (es_ret (ev_bl false)) es_next)
    (es_ret (ev_op od_eqX (ev_lc (vs := [1]) (ei_any (ev_var 0)) (eg_name 1) (et_B (ev_op (od_in true) (ev_var 1) (ev_str "abcdefghijklmnopqrstuvwxyz"))) (ev_var 1)) (ev_lst ea_nil))))
/-! ### _law_is_ask -/
abbrev N_law_is_ask : List Str := ["_law_row"]
theorem sc_law_is_ask : FnScope N_law_is_ask ["_law_row"] (defScope s_law_is_ask) := ⟨rfl, rfl, rfl, by decide +kernel, rfl, by decide +kernel, by decide +kernel⟩
theorem at_law_is_ask : ArgsTo s_law_is_ask "_law_is_ask" ["_law_row"] := fun _ _ _ _ _ _ us ws h => match us, ws, h with
  | [], [_], _ => rfl
  | [_], [], _ => rfl
def m_law_is_ask : MS :=
  (mSeq (mIf (mOr (mNot (mTru (mCB f_law_is_name (mCons (mOp (pur dIx) (mVar 0) (mC (.int 0))) mNil)))) (mOr (mNot (mTru (mUn (dIsi .int) (mOp (pur dIx) (mVar 0) (mC (.int 1)))))) (mTru (mUn (dIsi .bool) (mOp (pur dIx) (mVar 0) (mC (.int 1))))))) (mRet (mC (.bl false))) mNext)
    (mRet (mOp (pur dGt) (mOp (pur dIx) (mVar 0) (mC (.int 1))) (mC (.int 0)))))
def f_law_is_ask : List D → Option D := fnP N_law_is_ask 1 m_law_is_ask
theorem k_law_is_ask (T : Txt K mg) (hG : G.K = K) (hs : ∃ o, base.get? sysModules = some o) (c_law_is_name : Cal P w K mg base 1 "_law_is_name" ["_law_matter"] (SpP G f_law_is_name)) : Cal P w K mg base 2 "_law_is_ask" ["_law_row"] (SpP G f_law_is_ask) := by
  subst hG
  have sc := sc_law_is_ask
  refine calP (k := 1) T.d_law_is_ask sc at_law_is_ask fun f cdv A outer s H E gd hr => ?_
  refine ⟨_, (pss_cons (ps_if (PW.pt (pw_or (pt_not (truK (K := G.K) rfl (callK c_law_is_name ⟨rfl, rfl, rfl, rfl, rfl⟩ gd hr (pa_cons (pe_ix (ixK (K := G.K) rfl) (pv 0) pe_int (fun _ _ => rfl)) pa_nil)))) (pw_or (pt_not (truK (K := G.K) rfl (pe_callB (isiK (K := G.K) rfl) (by rfl) T.n_isinstance PyProof.Rows.boot_isinstance (pa_cons (pe_ix (ixK (K := G.K) rfl) (pv 0) pe_int (fun _ _ => rfl)) (pa_cons (pe_ty (T := "int") T.n_int) pa_nil))))) (pw_or1 (truK (K := G.K) rfl (pe_callB (isiK (K := G.K) rfl) (by rfl) T.n_isinstance PyProof.Rows.boot_isinstance (pa_cons (pe_ix (ixK (K := G.K) rfl) (pv 0) pe_int (fun _ _ => rfl)) (pa_cons (pe_ty (T := "bool") T.n_bool) pa_nil)))))))) (pss_one (ps_ret pe_bl)) pss_nil)
    (pss_one (ps_ret (pe_cmpR op_gtA (pe_ix (ixK (K := G.K) rfl) (pv 0) pe_int (fun _ _ => rfl)) pe_int (nomark _))))), ?_⟩
  unfold m_law_is_ask
  exact (es_seq (es_if (et_or (et_not (et_truth (ev_callP (ea_cons (ev_op od_ix (ev_var 0) (ev_int 0)) ea_nil)))) (et_or (et_not (et_truth (ev_isi .int (ev_op od_ix (ev_var 0) (ev_int 1))))) (et_truth (ev_isi .bool (ev_op od_ix (ev_var 0) (ev_int 1)))))) (es_ret (ev_bl false)) es_next)
    (es_ret (ev_op od_gt (ev_op od_ix (ev_var 0) (ev_int 1)) (ev_int 0))))
/-! ### _law_due -/
abbrev N_law_due : List Str := ["_law_matter"]
theorem sc_law_due : FnScope N_law_due ["_law_matter"] (defScope s_law_due) := ⟨rfl, rfl, rfl, by decide +kernel, rfl, by decide +kernel, by decide +kernel⟩
theorem at_law_due : ArgsTo s_law_due "_law_due" ["_law_matter"] := fun _ _ _ _ _ _ us ws h => match us, ws, h with
  | [], [_], _ => rfl
  | [_], [], _ => rfl
def m_law_due : MS :=
  (mSeq (mIf (mOr (mNot (mTru (mUn (dIsi .tup) (mVar 0)))) (mOr (mTB (mOp (pur dEqX) (mVar 0) (mTup mNil))) (mNot (mTru (mUn (dIsi .str) (mOp (pur dIx) (mVar 0) (mC (.int 0)))))))) (mRet (mC (.bl false))) mNext)
    (mSeq (mIf (mTB (mOp (pur (dIn false)) (mOp (pur dIx) (mVar 0) (mC (.int 0))) (mTup (mCons (mC (.str "nothing")) (mCons (mC (.str "starved")) mNil))))) (mRet (mOp (pur dEqX) (mCB dLen (mCons (mVar 0) mNil)) (mC (.int 1)))) mNext)
    (mSeq (mIf (mTB (mOp (pur dEqX) (mOp (pur dIx) (mVar 0) (mC (.int 0))) (mC (.str "one")))) (mRet (mAndV (mOp (pur dEqX) (mCB dLen (mCons (mVar 0) mNil)) (mC (.int 3))) (mCB f_law_is_ask (mCons (mSl (mVar 0) (mPart (mC (.int 1))) (mC none)) mNil)))) mNext)
    (mSeq (mIf (mOr (mTB (mOp (pur dNeX) (mOp (pur dIx) (mVar 0) (mC (.int 0))) (mC (.str "either")))) (mOr (mTB (mOp (pur dNeX) (mCB dLen (mCons (mVar 0) mNil)) (mC (.int 5)))) (mOr (mNot (mTru (mCB f_law_is_ask (mCons (mSl (mVar 0) (mPart (mC (.int 1))) (mPart (mC (.int 3)))) mNil)))) (mNot (mTru (mCB f_law_is_ask (mCons (mSl (mVar 0) (mPart (mC (.int 3))) (mC none)) mNil))))))) (mRet (mC (.bl false))) mNext)
    (mRet (mOp (pur dLt) (mOp (pur dIx) (mVar 0) (mC (.int 1))) (mOp (pur dIx) (mVar 0) (mC (.int 3)))))))))
def f_law_due : List D → Option D := fnP N_law_due 1 m_law_due
theorem k_law_due (T : Txt K mg) (hG : G.K = K) (hs : ∃ o, base.get? sysModules = some o) (c_law_is_ask : Cal P w K mg base 2 "_law_is_ask" ["_law_row"] (SpP G f_law_is_ask)) : Cal P w K mg base 3 "_law_due" ["_law_matter"] (SpP G f_law_due) := by
  subst hG
  have sc := sc_law_due
  refine calP (k := 2) T.d_law_due sc at_law_due fun f cdv A outer s H E gd hr => ?_
  refine ⟨_, (pss_cons (ps_if (PW.pt (pw_or (pt_not (truK (K := G.K) rfl (pe_callB (isiK (K := G.K) rfl) (by rfl) T.n_isinstance PyProof.Rows.boot_isinstance (pa_cons (pv 0) (pa_cons (pe_ty (T := "tuple") T.n_tuple) pa_nil))))) (pw_or (pt_cmpR (eqK (K := G.K) rfl hr) (pv 0) (pe_tup pa_nil) (nomark _)) (pw_or1 (pt_not (truK (K := G.K) rfl (pe_callB (isiK (K := G.K) rfl) (by rfl) T.n_isinstance PyProof.Rows.boot_isinstance (pa_cons (pe_ix (ixK (K := G.K) rfl) (pv 0) pe_int (fun _ _ => rfl)) (pa_cons (pe_ty (T := "str") T.n_str) pa_nil))))))))) (pss_one (ps_ret pe_bl)) pss_nil)
    (pss_cons (ps_if (pt_cmpR (inK (K := G.K) rfl hr) (pe_ix (ixK (K := G.K) rfl) (pv 0) pe_int (fun _ _ => rfl)) (pe_tup (pa_cons pe_str (pa_cons pe_str pa_nil))) (by rfl)) (pss_one (ps_ret (pe_cmpR (eqK (K := G.K) rfl hr) (pe_callB (lenK (K := G.K) rfl) (by rfl) T.n_len PySem.boot_len (pa_cons (pv 0) pa_nil)) pe_int (nomark _)))) pss_nil)
    (pss_cons (ps_if (pt_cmpR (eqK (K := G.K) rfl hr) (pe_ix (ixK (K := G.K) rfl) (pv 0) pe_int (fun _ _ => rfl)) pe_str (nomark _)) (pss_one (ps_ret (andK (K := G.K) rfl (pe_cmpR (eqK (K := G.K) rfl hr) (pe_callB (lenK (K := G.K) rfl) (by rfl) T.n_len PySem.boot_len (pa_cons (pv 0) pa_nil)) pe_int (nomark _)) (pe_one (callK c_law_is_ask ⟨rfl, rfl, rfl, rfl, rfl⟩ gd hr (pa_cons (pe_slice (slK (K := G.K) rfl) (pv 0) (po_some pe_int) po_none) pa_nil)))))) pss_nil)
    (pss_cons (ps_if (PW.pt (pw_or (pt_cmpR (neK (K := G.K) rfl hr) (pe_ix (ixK (K := G.K) rfl) (pv 0) pe_int (fun _ _ => rfl)) pe_str (nomark _)) (pw_or (pt_cmpR (neK (K := G.K) rfl hr) (pe_callB (lenK (K := G.K) rfl) (by rfl) T.n_len PySem.boot_len (pa_cons (pv 0) pa_nil)) pe_int (nomark _)) (pw_or (pt_not (truK (K := G.K) rfl (callK c_law_is_ask ⟨rfl, rfl, rfl, rfl, rfl⟩ gd hr (pa_cons (pe_slice (slK (K := G.K) rfl) (pv 0) (po_some pe_int) (po_some pe_int)) pa_nil)))) (pw_or1 (pt_not (truK (K := G.K) rfl (callK c_law_is_ask ⟨rfl, rfl, rfl, rfl, rfl⟩ gd hr (pa_cons (pe_slice (slK (K := G.K) rfl) (pv 0) (po_some pe_int) po_none) pa_nil))))))))) (pss_one (ps_ret pe_bl)) pss_nil)
    (pss_one (ps_ret (pe_cmpR op_ltA (pe_ix (ixK (K := G.K) rfl) (pv 0) pe_int (fun _ _ => rfl)) (pe_ix (ixK (K := G.K) rfl) (pv 0) pe_int (fun _ _ => rfl)) (nomark _)))))))), ?_⟩
  unfold m_law_due
  exact (es_seq (es_if (et_or (et_not (et_truth (ev_isi .tup (ev_var 0)))) (et_or (et_B (ev_op od_eqX (ev_var 0) (ev_tup ea_nil))) (et_not (et_truth (ev_isi .str (ev_op od_ix (ev_var 0) (ev_int 0))))))) (es_ret (ev_bl false)) es_next)
    (es_seq (es_if (et_B (ev_op (od_in false) (ev_op od_ix (ev_var 0) (ev_int 0)) (ev_tup (ea_cons (ev_str "nothing") (ea_cons (ev_str "starved") ea_nil))))) (es_ret (ev_op od_eqX (ev_cb cd_len (ea_cons (ev_var 0) ea_nil)) (ev_int 1))) es_next)
    (es_seq (es_if (et_B (ev_op od_eqX (ev_op od_ix (ev_var 0) (ev_int 0)) (ev_str "one"))) (es_ret (ev_andV (ev_op od_eqX (ev_cb cd_len (ea_cons (ev_var 0) ea_nil)) (ev_int 3)) (ev_callP (ea_cons (ev_sl (ev_var 0) (eo_some (ev_int 1)) eo_none) ea_nil)))) es_next)
    (es_seq (es_if (et_or (et_B (ev_op od_neX (ev_op od_ix (ev_var 0) (ev_int 0)) (ev_str "either"))) (et_or (et_B (ev_op od_neX (ev_cb cd_len (ea_cons (ev_var 0) ea_nil)) (ev_int 5))) (et_or (et_not (et_truth (ev_callP (ea_cons (ev_sl (ev_var 0) (eo_some (ev_int 1)) (eo_some (ev_int 3))) ea_nil)))) (et_not (et_truth (ev_callP (ea_cons (ev_sl (ev_var 0) (eo_some (ev_int 3)) eo_none) ea_nil))))))) (es_ret (ev_bl false)) es_next)
    (es_ret (ev_op od_lt (ev_op od_ix (ev_var 0) (ev_int 1)) (ev_op od_ix (ev_var 0) (ev_int 3))))))))
/-! ### _law_right_one -/
abbrev N_law_right_one : List Str := ["_law_pen_here", "_law_names_here", "_law_asks", "_law_some", "_law_k"]
theorem sc_law_right_one : FnScope N_law_right_one ["_law_pen_here"] (defScope s_law_right_one) := ⟨rfl, rfl, rfl, by decide +kernel, rfl, by decide +kernel, by decide +kernel⟩
theorem at_law_right_one : ArgsTo s_law_right_one "_law_right_one" ["_law_pen_here"] := fun _ _ _ _ _ _ us ws h => match us, ws, h with
  | [], [_], _ => rfl
  | [_], [], _ => rfl
def m_law_right_one : MS :=
  (mSeq (mAsg (mCB dSortS (mCons (mCallI f_law_names 0 (mCons (mC (.int 2)) mNil)) mNil)) (gSet 1))
    (mSeq (mAsg (mLc [4] (mRange dRange1 (mCons (mC (.int 2)) mNil)) (gSet 4) mYes (mOp (pur dIx) (mLst (mCons (mC (.int 1)) (mCons (mC (.int 2)) (mCons (mC (.int 24)) (mCons (mOp (pur dPow) (mC (.int 10)) (mC (.int 59))) mNil))))) (mCallI f_law_draw 0 (mCons (mC (.int 4)) mNil)))) (gSet 2))
    (mSeq (mAsg (mLst (mCons (mTup (mCons (mC (.str "nothing")) mNil)) (mCons (mTup (mCons (mC (.str "starved")) mNil)) (mCons (mTup (mCons (mC (.str "one")) (mCons (mOp (pur dIx) (mVar 1) (mC (.int 0))) (mCons (mOp (pur dIx) (mVar 2) (mC (.int 0))) mNil)))) (mCons (mTup (mCons (mC (.str "either")) (mCons (mOp (pur dIx) (mVar 1) (mC (.int 0))) (mCons (mOp (pur dIx) (mVar 2) (mC (.int 0))) (mCons (mOp (pur dIx) (mVar 1) (mC (.int 1))) (mCons (mOp (pur dIx) (mVar 2) (mC (.int 1))) mNil)))))) mNil))))) (gSet 3))
    (mRet (mOp (pur dIx) (mVar 3) (mOp (pur dIx) (mLst (mCons (mC (.int 0)) (mCons (mC (.int 1)) (mCons (mC (.int 2)) (mCons (mC (.int 3)) (mCons (mC (.int 3)) (mCons (mC (.int 3)) (mCons (mC (.int 2)) (mCons (mC (.int 3)) mNil))))))))) (mCallI f_law_draw 0 (mCons (mC (.int 8)) mNil))))))))
def f_law_right_one : List D → List D → Option (D × List D) := fnI N_law_right_one 1 m_law_right_one
theorem k_law_right_one (T : Txt K mg) (hG : G.K = K) (hs : ∃ o, base.get? sysModules = some o) (c_law_names : Cal P w K mg base 2 "_law_names" ["_law_pen_here", "_law_many"] (SpI G f_law_names)) (c_law_draw : Cal P w K mg base 1 "_law_draw" ["_law_pen_here", "_law_many"] (SpI G f_law_draw)) : Cal P w K mg base 3 "_law_right_one" ["_law_pen_here"] (SpI G f_law_right_one) := by
  subst hG
  have sc := sc_law_right_one
  refine calI (k := 2) T.d_law_right_one sc at_law_right_one fun f cdv A outer s H E gd hr => ?_
  refine ⟨_, (pss_cons (ps_set (i := 1) sc.nd rfl (Or.inl rfl) (pe_callB (sortSK (K := G.K) rfl) (by rfl) T.n_sorted (by decide +kernel) (pa_cons (callK c_law_names ⟨rfl, rfl, rfl, rfl, rfl⟩ gd hr (pa_cons (pv 0) (pa_cons pe_int pa_nil))) pa_nil)))
    (pss_cons (ps_setLc (i := 2) (own := [("_law_k", 4)]) rfl sc.nd rfl rfl (sw_true rfl rfl rfl (by decide +kernel)) (pi_range1 (by rfl) T.n_range (pa_cons pe_int pa_nil)) (blkOk_by (own := [("_law_k", 4)]) (N := N_law_right_one) (sc := defScope s_law_right_one) (by decide +kernel)) (fun _ _ _ _ _ => (pg_name (i := 4) sc.nd rfl (by first | exact Or.inl rfl | exact Or.inr rfl))) (fun _ _ _ _ _ => pts_nil) (fun _ _ _ _ _ => (pe_ix (ixK (K := G.K) rfl) (pe_lst (pa_cons pe_int (pa_cons pe_int (pa_cons pe_int (pa_cons (pe_op op_pow pe_int pe_int) pa_nil))))) (callK c_law_draw ⟨rfl, rfl, rfl, rfl, rfl⟩ gd hr (pa_cons (pv 0) (pa_cons pe_int pa_nil))) (fun _ _ => rfl))))
    (pss_cons (ps_set (i := 3) sc.nd rfl (Or.inl rfl) (pe_lst (pa_cons (pe_tup (pa_cons pe_str pa_nil)) (pa_cons (pe_tup (pa_cons pe_str pa_nil)) (pa_cons (pe_tup (pa_cons pe_str (pa_cons (pe_ix (ixK (K := G.K) rfl) (pv 1) pe_int (fun _ _ => rfl)) (pa_cons (pe_ix (ixK (K := G.K) rfl) (pv 2) pe_int (fun _ _ => rfl)) pa_nil)))) (pa_cons (pe_tup (pa_cons pe_str (pa_cons (pe_ix (ixK (K := G.K) rfl) (pv 1) pe_int (fun _ _ => rfl)) (pa_cons (pe_ix (ixK (K := G.K) rfl) (pv 2) pe_int (fun _ _ => rfl)) (pa_cons (pe_ix (ixK (K := G.K) rfl) (pv 1) pe_int (fun _ _ => rfl)) (pa_cons (pe_ix (ixK (K := G.K) rfl) (pv 2) pe_int (fun _ _ => rfl)) pa_nil)))))) pa_nil))))))
    (pss_one (ps_ret (pe_ix (ixK (K := G.K) rfl) (pv 3) (pe_ix (ixK (K := G.K) rfl) (pe_lst (pa_cons pe_int (pa_cons pe_int (pa_cons pe_int (pa_cons pe_int (pa_cons pe_int (pa_cons pe_int (pa_cons pe_int (pa_cons pe_int pa_nil))))))))) (callK c_law_draw ⟨rfl, rfl, rfl, rfl, rfl⟩ gd hr (pa_cons (pv 0) (pa_cons pe_int pa_nil))) (fun _ _ => rfl)) (fun _ _ => rfl))))))), ?_⟩
  unfold m_law_right_one
  exact (es_seq (es_asg (ev_cb cd_sortS (ea_cons (ev_callI 0 (ea_cons (ev_int 2) ea_nil)) ea_nil)) (eg_name 1))
    (es_seq (es_asg (ev_lc (vs := [4]) (ei_range1 (ea_cons (ev_int 2) ea_nil)) (eg_name 4) et_yes (ev_op od_ix (ev_lst (ea_cons (ev_int 1) (ea_cons (ev_int 2) (ea_cons (ev_int 24) (ea_cons (ev_op od_pow (ev_int 10) (ev_int 59)) ea_nil))))) (ev_callI 0 (ea_cons (ev_int 4) ea_nil)))) (eg_name 2))
    (es_seq (es_asg (ev_lst (ea_cons (ev_tup (ea_cons (ev_str "nothing") ea_nil)) (ea_cons (ev_tup (ea_cons (ev_str "starved") ea_nil)) (ea_cons (ev_tup (ea_cons (ev_str "one") (ea_cons (ev_op od_ix (ev_var 1) (ev_int 0)) (ea_cons (ev_op od_ix (ev_var 2) (ev_int 0)) ea_nil)))) (ea_cons (ev_tup (ea_cons (ev_str "either") (ea_cons (ev_op od_ix (ev_var 1) (ev_int 0)) (ea_cons (ev_op od_ix (ev_var 2) (ev_int 0)) (ea_cons (ev_op od_ix (ev_var 1) (ev_int 1)) (ea_cons (ev_op od_ix (ev_var 2) (ev_int 1)) ea_nil)))))) ea_nil))))) (eg_name 3))
    (es_ret (ev_op od_ix (ev_var 3) (ev_op od_ix (ev_lst (ea_cons (ev_int 0) (ea_cons (ev_int 1) (ea_cons (ev_int 2) (ea_cons (ev_int 3) (ea_cons (ev_int 3) (ea_cons (ev_int 3) (ea_cons (ev_int 2) (ea_cons (ev_int 3) ea_nil))))))))) (ev_callI 0 (ea_cons (ev_int 8) ea_nil))))))))
/-! ### _law_bent -/
abbrev N_law_bent : List Str := ["_law_pen_here", "_law_matter", "_law_at", "_law_odd", "_law_part", "_law_some"]
theorem sc_law_bent : FnScope N_law_bent ["_law_pen_here", "_law_matter"] (defScope s_law_bent) := ⟨rfl, rfl, rfl, by decide +kernel, rfl, by decide +kernel, by decide +kernel⟩
theorem at_law_bent : ArgsTo s_law_bent "_law_bent" ["_law_pen_here", "_law_matter"] := fun _ _ _ _ _ _ us ws h => match us, ws, h with
  | [], [_, _], _ => rfl
  | [_], [_], _ => rfl
  | [_, _], [], _ => rfl
def m_law_bent : MS :=
  (mSeq (mAsg (mCallI f_law_draw 0 (mCons (mCB dLen (mCons (mVar 1) mNil)) mNil)) (gSet 2))
    (mSeq (mAsg (mLst (mCons (mC .non) (mCons (mC (.bl true)) (mCons (mC (.bl false)) (mCons (mC (.int 0)) (mCons (mUn dNeg (mC (.int 1))) (mCons (mC (.int 1)) (mCons (mC (.str "one")) (mCons (mC (.str "either")) (mCons (mC (.str "")) (mCons (mC (.str "x")) (mCons (mC (.str "self")) (mCons (mC (.str "X")) (mCons (mC (.str "abcdefghi")) (mCons (mC (.str "x1")) (mCons (mC (.str " x")) (mCons (mTup (mCons (mC (.str "x")) (mCons (mC (.int 1)) mNil))) (mCons (mLst mNil) mNil)))))))))))))))))) (gSet 3))
    (mSeq (mAsg (mOp (pur dAdd) (mVar 3) (mLst (mCons (mC (.dct [])) (mCons (mC (.str "nothing")) (mCons (mC (.str "starved")) (mCons (mC (.str "1")) (mCons (mOp (pur dPow) (mC (.int 10)) (mC (.int 59))) (mCons (mC (.str "x\n")) mNil)))))))) (gSet 3))
    (mSeq (mAsg (mOp (pur dIx) (mVar 3) (mCallI f_law_draw 0 (mCons (mCB dLen (mCons (mVar 3) mNil)) mNil))) (gSet 4))
    (mSeq (mAsg (mLst (mCons (mOp (pur dAdd) (mOp (pur dAdd) (mSl (mVar 1) (mC none) (mPart (mVar 2))) (mTup (mCons (mVar 4) mNil))) (mSl (mVar 1) (mPart (mOp (pur dAdd) (mVar 2) (mC (.int 1)))) (mC none))) (mCons (mOp (pur dAdd) (mOp (pur dAdd) (mSl (mVar 1) (mC none) (mPart (mVar 2))) (mTup (mCons (mVar 4) mNil))) (mSl (mVar 1) (mPart (mVar 2)) (mC none))) (mCons (mOp (pur dAdd) (mSl (mVar 1) (mC none) (mPart (mVar 2))) (mSl (mVar 1) (mPart (mOp (pur dAdd) (mVar 2) (mC (.int 1)))) (mC none))) mNil)))) (gSet 5))
    (mSeq (mAsg (mOp (pur dAdd) (mVar 5) (mLst (mCons (mCB dList (mCons (mVar 1) mNil)) (mCons (mOp (pur dAdd) (mOp (pur dAdd) (mSl (mVar 1) (mC none) (mPart (mC (.int 1)))) (mSl (mVar 1) (mPart (mC (.int 3))) (mC none))) (mSl (mVar 1) (mPart (mC (.int 1))) (mPart (mC (.int 3))))) (mCons (mOp (pur dAdd) (mVar 1) (mSl (mVar 1) (mPart (mC (.int 1))) (mC none))) (mCons (mRevT (mVar 1)) (mCons (mCB dStr (mCons (mVar 1) mNil)) mNil))))))) (gSet 5))
    (mSeq (mAsg (mOp (pur dAdd) (mVar 5) (mLst (mCons (mVar 4) (mCons (mTup (mCons (mVar 1) mNil)) (mCons (mOp (pur dAdd) (mOp (pur dAdd) (mSl (mVar 1) (mC none) (mPart (mC (.int 1)))) (mSl (mVar 1) (mPart (mC (.int 1))) (mPart (mC (.int 3))))) (mSl (mVar 1) (mPart (mC (.int 1))) (mPart (mC (.int 3))))) (mCons (mSl (mVar 1) (mC none) (mPart (mC (.int 3)))) (mCons (mDict1 "x" (mC (.int 1))) mNil))))))) (gSet 5))
    (mRet (mOp (pur dIx) (mVar 5) (mCallI f_law_draw 0 (mCons (mCB dLen (mCons (mVar 5) mNil)) mNil)))))))))))
def f_law_bent : List D → List D → Option (D × List D) := fnI N_law_bent 2 m_law_bent
theorem k_law_bent (T : Txt K mg) (hG : G.K = K) (hs : ∃ o, base.get? sysModules = some o) (c_law_draw : Cal P w K mg base 1 "_law_draw" ["_law_pen_here", "_law_many"] (SpI G f_law_draw)) : Cal P w K mg base 2 "_law_bent" ["_law_pen_here", "_law_matter"] (SpI G f_law_bent) := by
  subst hG
  have sc := sc_law_bent
  refine calI (k := 1) T.d_law_bent sc at_law_bent fun f cdv A outer s H E gd hr => ?_
  refine ⟨_, (pss_cons (ps_set (i := 2) sc.nd rfl (Or.inl rfl) (callK c_law_draw ⟨rfl, rfl, rfl, rfl, rfl⟩ gd hr (pa_cons (pv 0) (pa_cons (pe_callB (lenK (K := G.K) rfl) (by rfl) T.n_len PySem.boot_len (pa_cons (pv 1) pa_nil)) pa_nil))))
    (pss_cons (ps_set (i := 3) sc.nd rfl (Or.inl rfl) (pe_lst (pa_cons pe_non (pa_cons pe_bl (pa_cons pe_bl (pa_cons pe_int (pa_cons (pe_un un_neg pe_int) (pa_cons pe_int (pa_cons pe_str (pa_cons pe_str (pa_cons pe_str (pa_cons pe_str (pa_cons pe_str (pa_cons pe_str (pa_cons pe_str (pa_cons pe_str (pa_cons pe_str (pa_cons (pe_tup (pa_cons pe_str (pa_cons pe_int pa_nil))) (pa_cons (pe_lst pa_nil) pa_nil)))))))))))))))))))
    (pss_cons (ps_set (i := 3) sc.nd rfl (Or.inl rfl) (pe_op (addK (K := G.K) rfl) (pv 3) (pe_lst (pa_cons pe_dnewK (pa_cons pe_str (pa_cons pe_str (pa_cons pe_str (pa_cons (pe_op op_pow pe_int pe_int) (pa_cons pe_str pa_nil)))))))))
    (pss_cons (ps_set (i := 4) sc.nd rfl (Or.inl rfl) (pe_ix (ixK (K := G.K) rfl) (pv 3) (callK c_law_draw ⟨rfl, rfl, rfl, rfl, rfl⟩ gd hr (pa_cons (pv 0) (pa_cons (pe_callB (lenK (K := G.K) rfl) (by rfl) T.n_len PySem.boot_len (pa_cons (pv 3) pa_nil)) pa_nil))) (fun _ _ => rfl)))
    (pss_cons (ps_set (i := 5) sc.nd rfl (Or.inl rfl) (pe_lst (pa_cons (pe_op (addK (K := G.K) rfl) (pe_op (addK (K := G.K) rfl) (pe_slice (slK (K := G.K) rfl) (pv 1) po_none (po_some (pv 2))) (pe_tup (pa_cons (pv 4) pa_nil))) (pe_slice (slK (K := G.K) rfl) (pv 1) (po_some (pe_op (addK (K := G.K) rfl) (pv 2) pe_int)) po_none)) (pa_cons (pe_op (addK (K := G.K) rfl) (pe_op (addK (K := G.K) rfl) (pe_slice (slK (K := G.K) rfl) (pv 1) po_none (po_some (pv 2))) (pe_tup (pa_cons (pv 4) pa_nil))) (pe_slice (slK (K := G.K) rfl) (pv 1) (po_some (pv 2)) po_none)) (pa_cons (pe_op (addK (K := G.K) rfl) (pe_slice (slK (K := G.K) rfl) (pv 1) po_none (po_some (pv 2))) (pe_slice (slK (K := G.K) rfl) (pv 1) (po_some (pe_op (addK (K := G.K) rfl) (pv 2) pe_int)) po_none)) pa_nil)))))
    (pss_cons (ps_set (i := 5) sc.nd rfl (Or.inl rfl) (pe_op (addK (K := G.K) rfl) (pv 5) (pe_lst (pa_cons (pe_callTy (listK (K := G.K) rfl) (by rfl) T.n_list (by decide +kernel) (pa_cons (pv 1) pa_nil)) (pa_cons (pe_op (addK (K := G.K) rfl) (pe_op (addK (K := G.K) rfl) (pe_slice (slK (K := G.K) rfl) (pv 1) po_none (po_some pe_int)) (pe_slice (slK (K := G.K) rfl) (pv 1) (po_some pe_int) po_none)) (pe_slice (slK (K := G.K) rfl) (pv 1) (po_some pe_int) (po_some pe_int))) (pa_cons (pe_op (addK (K := G.K) rfl) (pv 1) (pe_slice (slK (K := G.K) rfl) (pv 1) (po_some pe_int) po_none)) (pa_cons (pe_revT (K := G.K) rfl (pv 1)) (pa_cons (pe_callTy (call_strD gd hs (u70 hr) rfl) (by rfl) T.n_str (by decide +kernel) (pa_cons (pv 1) pa_nil)) pa_nil))))))))
    (pss_cons (ps_set (i := 5) sc.nd rfl (Or.inl rfl) (pe_op (addK (K := G.K) rfl) (pv 5) (pe_lst (pa_cons (pv 4) (pa_cons (pe_tup (pa_cons (pv 1) pa_nil)) (pa_cons (pe_op (addK (K := G.K) rfl) (pe_op (addK (K := G.K) rfl) (pe_slice (slK (K := G.K) rfl) (pv 1) po_none (po_some pe_int)) (pe_slice (slK (K := G.K) rfl) (pv 1) (po_some pe_int) (po_some pe_int))) (pe_slice (slK (K := G.K) rfl) (pv 1) (po_some pe_int) (po_some pe_int))) (pa_cons (pe_slice (slK (K := G.K) rfl) (pv 1) po_none (po_some pe_int)) (pa_cons (pe_disp (pps_cons pe_str pe_int pps_nil) (by rfl) (by rfl) (fun z => by cases z) (by decide)) pa_nil))))))))
    (pss_one (ps_ret (pe_ix (ixK (K := G.K) rfl) (pv 5) (callK c_law_draw ⟨rfl, rfl, rfl, rfl, rfl⟩ gd hr (pa_cons (pv 0) (pa_cons (pe_callB (lenK (K := G.K) rfl) (by rfl) T.n_len PySem.boot_len (pa_cons (pv 5) pa_nil)) pa_nil))) (fun _ _ => rfl))))))))))), ?_⟩
  unfold m_law_bent
  exact (es_seq (es_asg (ev_callI 0 (ea_cons (ev_cb cd_len (ea_cons (ev_var 1) ea_nil)) ea_nil)) (eg_name 2))
    (es_seq (es_asg (ev_lst (ea_cons ev_non (ea_cons (ev_bl true) (ea_cons (ev_bl false) (ea_cons (ev_int 0) (ea_cons (ev_neg (ev_int 1)) (ea_cons (ev_int 1) (ea_cons (ev_str "one") (ea_cons (ev_str "either") (ea_cons (ev_str "") (ea_cons (ev_str "x") (ea_cons (ev_str "self") (ea_cons (ev_str "X") (ea_cons (ev_str "abcdefghi") (ea_cons (ev_str "x1") (ea_cons (ev_str " x") (ea_cons (ev_tup (ea_cons (ev_str "x") (ea_cons (ev_int 1) ea_nil))) (ea_cons (ev_lst ea_nil) ea_nil)))))))))))))))))) (eg_name 3))
    (es_seq (es_asg (ev_op od_add (ev_var 3) (ev_lst (ea_cons ev_d0 (ea_cons (ev_str "nothing") (ea_cons (ev_str "starved") (ea_cons (ev_str "1") (ea_cons (ev_op od_pow (ev_int 10) (ev_int 59)) (ea_cons (ev_str "x\n") ea_nil)))))))) (eg_name 3))
    (es_seq (es_asg (ev_op od_ix (ev_var 3) (ev_callI 0 (ea_cons (ev_cb cd_len (ea_cons (ev_var 3) ea_nil)) ea_nil))) (eg_name 4))
    (es_seq (es_asg (ev_lst (ea_cons (ev_op od_add (ev_op od_add (ev_sl (ev_var 1) eo_none (eo_some (ev_var 2))) (ev_tup (ea_cons (ev_var 4) ea_nil))) (ev_sl (ev_var 1) (eo_some (ev_op od_add (ev_var 2) (ev_int 1))) eo_none)) (ea_cons (ev_op od_add (ev_op od_add (ev_sl (ev_var 1) eo_none (eo_some (ev_var 2))) (ev_tup (ea_cons (ev_var 4) ea_nil))) (ev_sl (ev_var 1) (eo_some (ev_var 2)) eo_none)) (ea_cons (ev_op od_add (ev_sl (ev_var 1) eo_none (eo_some (ev_var 2))) (ev_sl (ev_var 1) (eo_some (ev_op od_add (ev_var 2) (ev_int 1))) eo_none)) ea_nil)))) (eg_name 5))
    (es_seq (es_asg (ev_op od_add (ev_var 5) (ev_lst (ea_cons (ev_cb cd_list (ea_cons (ev_var 1) ea_nil)) (ea_cons (ev_op od_add (ev_op od_add (ev_sl (ev_var 1) eo_none (eo_some (ev_int 1))) (ev_sl (ev_var 1) (eo_some (ev_int 3)) eo_none)) (ev_sl (ev_var 1) (eo_some (ev_int 1)) (eo_some (ev_int 3)))) (ea_cons (ev_op od_add (ev_var 1) (ev_sl (ev_var 1) (eo_some (ev_int 1)) eo_none)) (ea_cons (ev_revT (ev_var 1)) (ea_cons (ev_cb cd_str (ea_cons (ev_var 1) ea_nil)) ea_nil))))))) (eg_name 5))
    (es_seq (es_asg (ev_op od_add (ev_var 5) (ev_lst (ea_cons (ev_var 4) (ea_cons (ev_tup (ea_cons (ev_var 1) ea_nil)) (ea_cons (ev_op od_add (ev_op od_add (ev_sl (ev_var 1) eo_none (eo_some (ev_int 1))) (ev_sl (ev_var 1) (eo_some (ev_int 1)) (eo_some (ev_int 3)))) (ev_sl (ev_var 1) (eo_some (ev_int 1)) (eo_some (ev_int 3)))) (ea_cons (ev_sl (ev_var 1) eo_none (eo_some (ev_int 3))) (ea_cons (ev_d1 "x" (ev_int 1)) ea_nil))))))) (eg_name 5))
    (es_ret (ev_op od_ix (ev_var 5) (ev_callI 0 (ea_cons (ev_cb cd_len (ea_cons (ev_var 5) ea_nil)) ea_nil)))))))))))
/-! ### law -/
abbrev N_law : List Str := ["_law_script", "_law_pen_here", "_law_turn", "_law_some", "_law_matter", "_law_k", "_law_kept", "_law_due_here"]
theorem sc_law : FnScope N_law ["_law_script"] (defScope s_law) := ⟨rfl, rfl, rfl, by decide +kernel, rfl, by decide +kernel, by decide +kernel⟩
theorem at_law : ArgsTo s_law "law" ["_law_script"] := fun _ _ _ _ _ _ us ws h => match us, ws, h with
  | [], [_], _ => rfl
  | [_], [], _ => rfl
def m_law : MS :=
  (mSeq (mOwnCall 1 f_law_pen (mCons (mVar 0) mNil))
    (mSeq (mFor (mRange dRange1 (mCons (mC (.int 12)) mNil)) (gSet 2) (mSeq (mAsg (mCallI f_law_right_one 1 mNil) (gSet 4))
    (mSeq (mFor (mRange dRange1 (mCons (mOp (pur dIx) (mLst (mCons (mC (.int 0)) (mCons (mC (.int 1)) (mCons (mC (.int 1)) (mCons (mC (.int 2)) mNil))))) (mCallI f_law_draw 1 (mCons (mC (.int 4)) mNil))) mNil)) (gSet 5) (mAsg (mIfE (mAnd (mTru (mUn (dIsi .tup) (mVar 4))) (mTB (mOp (pur dNeX) (mVar 4) (mTup mNil)))) (mCallI f_law_bent 1 (mCons (mVar 4) mNil)) (mVar 4)) (gSet 4)))
    (mSeq (mAsg (mCB dRepr (mCons (mVar 4) mNil)) (gSet 6))
    (mSeq (mAsg (mCB f_law_due (mCons (mVar 4) mNil)) (gSet 7))
    (mIf (mOr (mTB (mOp (pur dNeX) (mCB dRepr (mCons (mCB f_is_demand (mCons (mVar 4) mNil)) mNil)) (mCB dRepr (mCons (mVar 7) mNil)))) (mOr (mTB (mOp (pur dNeX) (mCB dRepr (mCons (mCallKw 0 1 f_is_demand mNil (mCons (mVar 4) mNil)) mNil)) (mCB dRepr (mCons (mVar 7) mNil)))) (mTB (mOp (pur dNeX) (mCB dRepr (mCons (mVar 4) mNil)) (mVar 6))))) (mRet (mC (.bl false))) mNext))))))
    (mSeq (mAsg (mLst (mCons (mTup (mCons (mC (.str "either")) (mCons (mC (.str "x")) (mCons (mC (.int 1)) (mCons (mC (.str "x")) (mCons (mC (.int 1)) mNil)))))) (mCons (mTup (mCons (mC (.str "either")) (mCons (mC (.str "y")) (mCons (mC (.int 1)) (mCons (mC (.str "x")) (mCons (mC (.int 1)) mNil)))))) (mCons (mTup (mCons (mC (.str "one")) (mCons (mC (.str "x")) (mCons (mC (.bl true)) mNil)))) (mCons (mTup (mCons (mC (.str "one")) (mCons (mC (.str "x")) (mCons (mC (.int 0)) mNil)))) (mCons (mTup (mCons (mC (.str "nothing")) (mCons (mC (.int 1)) mNil))) mNil)))))) (gSet 3))
    (mSeq (mAsg (mOp (pur dAdd) (mVar 3) (mLst (mCons (mTup (mCons (mC (.str "one")) (mCons (mC (.str "self")) (mCons (mC (.int 1)) mNil)))) (mCons (mTup (mCons (mC (.str "one")) (mCons (mC (.str "x")) mNil))) (mCons (mLst (mCons (mC (.str "nothing")) mNil)) (mCons (mC (.str "nothing")) (mCons (mTup mNil) (mCons (mTup (mCons (mC (.str "Nothing")) mNil)) (mCons (mTup (mCons (mC (.str "starved")) (mCons (mC (.str "x")) (mCons (mC (.int 1)) mNil)))) mNil))))))))) (gSet 3))
    (mSeq (mIf (mTB (mOp (pur dNeX) (mLc [4] (mItems (mVar 3)) (gSet 4) (mTB (mOp (pur dIsNot) (mCB f_is_demand (mCons (mVar 4) mNil)) (mC (.bl false)))) (mVar 4)) (mLst mNil))) (mRet (mC (.bl false))) mNext)
    (mRet (mAndV (mOp (pur dIsN) (mCB f_is_demand (mCons (mTup (mCons (mC (.str "either")) (mCons (mC (.str "x")) (mCons (mC (.int 1)) (mCons (mC (.str "xx")) (mCons (mC (.int 1)) mNil)))))) mNil)) (mC (.bl true))) (mOp (pur dIsN) (mCB f_is_demand (mCons (mTup (mCons (mC (.str "one")) (mCons (mC (.str "in")) (mCons (mOp (pur dPow) (mC (.int 10)) (mC (.int 60))) mNil)))) mNil)) (mC (.bl true))))))))))
def f_law : List D → Option D := fnP N_law 1 m_law
theorem k_law (T : Txt K mg) (hG : G.K = K) (hs : ∃ o, base.get? sysModules = some o) (c_law_pen : Cal P w K mg base 1 "_law_pen" ["_law_script"] (SpN G f_law_pen)) (c_law_right_one : Cal P w K mg base 3 "_law_right_one" ["_law_pen_here"] (SpI G f_law_right_one)) (c_law_draw : Cal P w K mg base 1 "_law_draw" ["_law_pen_here", "_law_many"] (SpI G f_law_draw)) (c_law_bent : Cal P w K mg base 2 "_law_bent" ["_law_pen_here", "_law_matter"] (SpI G f_law_bent)) (c_law_due : Cal P w K mg base 3 "_law_due" ["_law_matter"] (SpP G f_law_due)) (c_is_demand : Cal P w K mg base 4 "is_demand" ["thing"] (SpP G f_is_demand)) : Cal P w K mg base 5 "law" ["_law_script"] (SpP G f_law) := by
  subst hG
  have sc := sc_law
  refine calP (k := 4) T.d_law sc at_law fun f cdv A outer s H E gd hr => ?_
  refine ⟨_, (pss_cons (ps_set (i := 1) sc.nd rfl (Or.inl rfl) (callK c_law_pen ⟨rfl, rfl, rfl, rfl, rfl⟩ gd hr (pa_cons (pv 0) pa_nil)))
    (pss_cons (ps_for PassesOwn.never rfl (pi_range1 (by rfl) T.n_range (pa_cons pe_int pa_nil)) (pg_name (i := 2) sc.nd rfl (by first | exact Or.inl rfl | exact Or.inr rfl)) (pss_cons (ps_set (i := 4) sc.nd rfl (Or.inl rfl) (callK c_law_right_one ⟨rfl, rfl, rfl, rfl, rfl⟩ gd hr (pa_cons (pv 1) pa_nil)))
    (pss_cons (ps_for PassesOwn.never rfl (pi_range1 (by rfl) T.n_range (pa_cons (pe_ix (ixK (K := G.K) rfl) (pe_lst (pa_cons pe_int (pa_cons pe_int (pa_cons pe_int (pa_cons pe_int pa_nil))))) (callK c_law_draw ⟨rfl, rfl, rfl, rfl, rfl⟩ gd hr (pa_cons (pv 1) (pa_cons pe_int pa_nil))) (fun _ _ => rfl)) pa_nil)) (pg_name (i := 5) sc.nd rfl (by first | exact Or.inl rfl | exact Or.inr rfl)) (pss_one (ps_set (i := 4) sc.nd rfl (Or.inl rfl) (pe_ifExp (PW.pt (pw_and (truK (K := G.K) rfl (pe_callB (isiK (K := G.K) rfl) (by rfl) T.n_isinstance PyProof.Rows.boot_isinstance (pa_cons (pv 4) (pa_cons (pe_ty (T := "tuple") T.n_tuple) pa_nil)))) (pw_and1 (pt_cmpR (neK (K := G.K) rfl hr) (pv 4) (pe_tup pa_nil) (nomark _))))) (callK c_law_bent ⟨rfl, rfl, rfl, rfl, rfl⟩ gd hr (pa_cons (pv 1) (pa_cons (pv 4) pa_nil))) (pv 4)))))
    (pss_cons (ps_set (i := 6) sc.nd rfl (Or.inl rfl) (pe_callB (call_repr gd hs (u66 hr) rfl) (by rfl) T.n_repr PyProof.Rows.boot_repr (pa_cons (pv 4) pa_nil)))
    (pss_cons (ps_set (i := 7) sc.nd rfl (Or.inl rfl) (callK c_law_due ⟨rfl, rfl, rfl, rfl, rfl⟩ gd hr (pa_cons (pv 4) pa_nil)))
    (pss_one (ps_if (PW.pt (pw_or (pt_cmpR (neK (K := G.K) rfl hr) (pe_callB (call_repr gd hs (u66 hr) rfl) (by rfl) T.n_repr PyProof.Rows.boot_repr (pa_cons (callK c_is_demand ⟨rfl, rfl, rfl, rfl, rfl⟩ gd hr (pa_cons (pv 4) pa_nil)) pa_nil)) (pe_callB (call_repr gd hs (u66 hr) rfl) (by rfl) T.n_repr PyProof.Rows.boot_repr (pa_cons (pv 7) pa_nil)) (nomark _)) (pw_or (pt_cmpR (neK (K := G.K) rfl hr) (pe_callB (call_repr gd hs (u66 hr) rfl) (by rfl) T.n_repr PyProof.Rows.boot_repr (pa_cons (callKK0 c_is_demand ⟨rfl, rfl, rfl, rfl, rfl⟩ gd hr (pk_cons (pv 4) pk_nil)) pa_nil)) (pe_callB (call_repr gd hs (u66 hr) rfl) (by rfl) T.n_repr PyProof.Rows.boot_repr (pa_cons (pv 7) pa_nil)) (nomark _)) (pw_or1 (pt_cmpR (neK (K := G.K) rfl hr) (pe_callB (call_repr gd hs (u66 hr) rfl) (by rfl) T.n_repr PyProof.Rows.boot_repr (pa_cons (pv 4) pa_nil)) (pv 6) (nomark _)))))) (pss_one (ps_ret pe_bl)) pss_nil)))))))
    (pss_cons (ps_set (i := 3) sc.nd rfl (Or.inl rfl) (pe_lst (pa_cons (pe_tup (pa_cons pe_str (pa_cons pe_str (pa_cons pe_int (pa_cons pe_str (pa_cons pe_int pa_nil)))))) (pa_cons (pe_tup (pa_cons pe_str (pa_cons pe_str (pa_cons pe_int (pa_cons pe_str (pa_cons pe_int pa_nil)))))) (pa_cons (pe_tup (pa_cons pe_str (pa_cons pe_str (pa_cons pe_bl pa_nil)))) (pa_cons (pe_tup (pa_cons pe_str (pa_cons pe_str (pa_cons pe_int pa_nil)))) (pa_cons (pe_tup (pa_cons pe_str (pa_cons pe_int pa_nil))) pa_nil)))))))
    (pss_cons (ps_set (i := 3) sc.nd rfl (Or.inl rfl) (pe_op (addK (K := G.K) rfl) (pv 3) (pe_lst (pa_cons (pe_tup (pa_cons pe_str (pa_cons pe_str (pa_cons pe_int pa_nil)))) (pa_cons (pe_tup (pa_cons pe_str (pa_cons pe_str pa_nil))) (pa_cons (pe_lst (pa_cons pe_str pa_nil)) (pa_cons pe_str (pa_cons (pe_tup pa_nil) (pa_cons (pe_tup (pa_cons pe_str pa_nil)) (pa_cons (pe_tup (pa_cons pe_str (pa_cons pe_str (pa_cons pe_int pa_nil)))) pa_nil))))))))))
    (pss_cons (ps_if (pt_cmpR (neK (K := G.K) rfl hr) (pe_lc (own := [("_law_matter", 4)]) rfl sc.nd (piK (K := G.K) rfl (pv 3)) (blkOk_by (own := [("_law_matter", 4)]) (N := N_law) (sc := defScope s_law) (by decide +kernel)) (fun _ _ _ _ _ => (pg_name (i := 4) sc.nd rfl (by first | exact Or.inl rfl | exact Or.inr rfl))) (fun _ _ _ _ _ => (pts_one (pt_cmpR op_isnotA (callK c_is_demand ⟨rfl, rfl, rfl, rfl, rfl⟩ gd hr (pa_cons (pv 4) pa_nil)) pe_bl (nomark _)))) (fun _ _ _ _ _ => (pv 4))) (pe_lst pa_nil) (nomark _)) (pss_one (ps_ret pe_bl)) pss_nil)
    (pss_one (ps_ret (andK (K := G.K) rfl (pe_cmpR op_isA (callK c_is_demand ⟨rfl, rfl, rfl, rfl, rfl⟩ gd hr (pa_cons (pe_tup (pa_cons pe_str (pa_cons pe_str (pa_cons pe_int (pa_cons pe_str (pa_cons pe_int pa_nil)))))) pa_nil)) pe_bl (nomark _)) (pe_one (pe_cmpR op_isA (callK c_is_demand ⟨rfl, rfl, rfl, rfl, rfl⟩ gd hr (pa_cons (pe_tup (pa_cons pe_str (pa_cons pe_str (pa_cons (pe_op op_pow pe_int pe_int) pa_nil)))) pa_nil)) pe_bl (nomark _))))))))))), ?_⟩
  unfold m_law
  exact (es_seq (es_ownCall 1 (ea_cons (ev_var 0) ea_nil))
    (es_seq (es_for (ei_range1 (ea_cons (ev_int 12) ea_nil)) (eg_name 2) (es_seq (es_asg (ev_callI 1 ea_nil) (eg_name 4))
    (es_seq (es_for (ei_range1 (ea_cons (ev_op od_ix (ev_lst (ea_cons (ev_int 0) (ea_cons (ev_int 1) (ea_cons (ev_int 1) (ea_cons (ev_int 2) ea_nil))))) (ev_callI 1 (ea_cons (ev_int 4) ea_nil))) ea_nil)) (eg_name 5) (es_asg (ev_if (et_and (et_truth (ev_isi .tup (ev_var 4))) (et_B (ev_op od_neX (ev_var 4) (ev_tup ea_nil)))) (ev_callI 1 (ea_cons (ev_var 4) ea_nil)) (ev_var 4)) (eg_name 4)))
    (es_seq (es_asg (ev_cb cd_repr (ea_cons (ev_var 4) ea_nil)) (eg_name 6))
    (es_seq (es_asg (ev_callP (ea_cons (ev_var 4) ea_nil)) (eg_name 7))
    (es_if (et_or (et_B (ev_op od_neX (ev_cb cd_repr (ea_cons (ev_callP (ea_cons (ev_var 4) ea_nil)) ea_nil)) (ev_cb cd_repr (ea_cons (ev_var 7) ea_nil)))) (et_or (et_B (ev_op od_neX (ev_cb cd_repr (ea_cons (ev_callKw ea_nil (ea_cons (ev_var 4) ea_nil)) ea_nil)) (ev_cb cd_repr (ea_cons (ev_var 7) ea_nil)))) (et_B (ev_op od_neX (ev_cb cd_repr (ea_cons (ev_var 4) ea_nil)) (ev_var 6))))) (es_ret (ev_bl false)) es_next))))))
    (es_seq (es_asg (ev_lst (ea_cons (ev_tup (ea_cons (ev_str "either") (ea_cons (ev_str "x") (ea_cons (ev_int 1) (ea_cons (ev_str "x") (ea_cons (ev_int 1) ea_nil)))))) (ea_cons (ev_tup (ea_cons (ev_str "either") (ea_cons (ev_str "y") (ea_cons (ev_int 1) (ea_cons (ev_str "x") (ea_cons (ev_int 1) ea_nil)))))) (ea_cons (ev_tup (ea_cons (ev_str "one") (ea_cons (ev_str "x") (ea_cons (ev_bl true) ea_nil)))) (ea_cons (ev_tup (ea_cons (ev_str "one") (ea_cons (ev_str "x") (ea_cons (ev_int 0) ea_nil)))) (ea_cons (ev_tup (ea_cons (ev_str "nothing") (ea_cons (ev_int 1) ea_nil))) ea_nil)))))) (eg_name 3))
    (es_seq (es_asg (ev_op od_add (ev_var 3) (ev_lst (ea_cons (ev_tup (ea_cons (ev_str "one") (ea_cons (ev_str "self") (ea_cons (ev_int 1) ea_nil)))) (ea_cons (ev_tup (ea_cons (ev_str "one") (ea_cons (ev_str "x") ea_nil))) (ea_cons (ev_lst (ea_cons (ev_str "nothing") ea_nil)) (ea_cons (ev_str "nothing") (ea_cons (ev_tup ea_nil) (ea_cons (ev_tup (ea_cons (ev_str "Nothing") ea_nil)) (ea_cons (ev_tup (ea_cons (ev_str "starved") (ea_cons (ev_str "x") (ea_cons (ev_int 1) ea_nil)))) ea_nil))))))))) (eg_name 3))
    (es_seq (es_if (et_B (ev_op od_neX (ev_lc (vs := [4]) (ei_any (ev_var 3)) (eg_name 4) (et_B (ev_op od_isnot (ev_callP (ea_cons (ev_var 4) ea_nil)) (ev_bl false))) (ev_var 4)) (ev_lst ea_nil))) (es_ret (ev_bl false)) es_next)
    (es_ret (ev_andV (ev_op od_is (ev_callP (ea_cons (ev_tup (ea_cons (ev_str "either") (ea_cons (ev_str "x") (ea_cons (ev_int 1) (ea_cons (ev_str "xx") (ea_cons (ev_int 1) ea_nil)))))) ea_nil)) (ev_bl true)) (ev_op od_is (ev_callP (ea_cons (ev_tup (ea_cons (ev_str "one") (ea_cons (ev_str "in") (ea_cons (ev_op od_pow (ev_int 10) (ev_int 60)) ea_nil)))) ea_nil)) (ev_bl true)))))))))
end
end W23
namespace M23
open PySem L2 PySem.Spec PyProof.Rows En W23
theorem draw_rest (cs : List D) (t r n : Int) (hr : 0 < r) (hn : 0 < n) (hn2 : n < 1073741824) :
    f_law_draw [.lst cs, .int t, .int r] [.int n] = some (.int (r.fmod n), [.lst cs, .int t, .int (r.fdiv n)]) := by
  have h1 : n ≠ 0 := by omega
  have h2 : n.natAbs < 1073741824 := by omega
  simp [f_law_draw, fnI, m_law_draw, mSeq, O.seq, mIf, R.then, mTB, mOp, R.bind, mIxO, held, entryI, mC, lift, atI, ixN, pur, dGt, dOrd, hr, mAsg, mVar, dMod, dI, gSet, optO, mPut, dFdiv, Sl.put, mRet, O.valI, io0, h1, h2]
/-- the number that a cell and its place are mixed to -/
def mix1 (c t : Int) : Int := ((c.fmod 2147483249 + 60795 * t + 1439) ^ 3).fmod 2147483647
def mix2 (c t : Int) : Int := ((mix1 c t * (t + 20333) + 7 * t * t + 3) ^ 3).fmod 2147483629
def great (c : Int) : Int := 2 * (if c < 0 then -c else c) + (if c < 0 then 1 else 0)
def draw0 (cs : List D) (c t n : Int) : D × List D :=
  if t < (cs.length : Int) ∧ 1000000000000000000 ≤ (if c < 0 then -c else c) then (.int ((great c).fmod n), [.lst cs, .int (t + 1), .int ((great c).fdiv n)])
  else (.int (((mix2 c t).fdiv 64).fmod n), [.lst cs, .int (t + 1), .int 0])
theorem fmod_lo (a : Int) {m : Int} (h : 0 < m) : 0 ≤ a.fmod m := Int.fmod_nonneg_of_pos a h
theorem fmod_hi (a : Int) {m : Int} (h : 0 < m) : a.fmod m < m := Int.fmod_lt_of_pos a h
theorem bound2 (x t : Int) (hx : 0 ≤ x) (hx2 : x < 2147483647) (h0 : 0 ≤ t) (h1 : t < 1000000) : 0 ≤ x * (t + 20333) + 7 * t * t + 3 ∧ x * (t + 20333) + 7 * t * t + 3 < 3000000000000000 := by
  have a1 : 0 ≤ x * (t + 20333) := Int.mul_nonneg hx (by omega)
  have a2 : x * (t + 20333) ≤ 2147483647 * 1020333 := Int.mul_le_mul (by omega) (by omega) (by omega) (by omega)
  have b0 : 7 * t * t = 7 * (t * t) := Int.mul_assoc _ _ _
  have b1 : 0 ≤ t * t := Int.mul_nonneg h0 h0
  have b2 : t * t ≤ 1000000 * 1000000 := Int.mul_le_mul (by omega) (by omega) (by omega) (by omega)
  rw [b0]
  omega
theorem at30 {α : Type} (a b c : α) : atI [a, b, c] (0 : Int) = some a := rfl
theorem at31 {α : Type} (a b c : α) : atI [a, b, c] (1 : Int) = some b := rfl
theorem at32 {α : Type} (a b c : α) : atI [a, b, c] (2 : Int) = some c := rfl
theorem ix30 : ixN 3 (0 : Int) = some 0 := rfl
theorem ix31 : ixN 3 (1 : Int) = some 1 := rfl
theorem ix32 : ixN 3 (2 : Int) = some 2 := rfl
theorem draw_new_some (cs : List D) (c t n : Int) (h0 : 0 ≤ t) (h1 : t < 1000000) (hn : 0 < n) (hn2 : n < 1073741824) (ne : cs ≠ []) (hl : cs.length ≤ 1000) (hc : atI cs (t.fmod cs.length) = some (.int c)) :
    f_law_draw [.lst cs, .int t, .int 0] [.int n] = some (draw0 cs c t n) := by
  have n1 : n ≠ 0 := by omega
  have n2 : n.natAbs < 1073741824 := by omega
  have l0 : 0 < cs.length := List.length_pos_iff.mpr ne
  have l1 : (cs.length : Int) ≠ 0 := by omega
  have e1 : cs.isEmpty = false := by cases cs with | nil => exact absurd rfl ne | cons => rfl
  have m0 := fmod_lo c (m := 2147483249) (by decide)
  have m1 := fmod_hi c (m := 2147483249) (by decide)
  have p1 : (c.fmod 2147483249 + 60795 * t + 1439).natAbs < 2 ^ 64 := by omega
  have q0 := fmod_lo ((c.fmod 2147483249 + 60795 * t + 1439) ^ 3) (m := 2147483647) (by decide)
  have q1 := fmod_hi ((c.fmod 2147483249 + 60795 * t + 1439) ^ 3) (m := 2147483647) (by decide)
  have b := bound2 _ t q0 q1 h0 h1
  have p2 : (mix1 c t * (t + 20333) + 7 * t * t + 3).natAbs < 2 ^ 64 := by unfold mix1; omega
  have s1 : smallB 60795 = true := by decide
  have s2 : smallB (t + 20333) = true := by unfold smallB; simp; omega
  have s3 : smallB t = true := by unfold smallB; simp; omega
  have s4 : smallB 7 = true := by decide
  have s5 : smallB 2 = true := by decide
  unfold mix1 at p2
  by_cases g : t < (cs.length : Int) ∧ 1000000000000000000 ≤ (if c < 0 then -c else c)
  · unfold draw0
    rw [if_pos g]
    obtain ⟨g1, g2⟩ := g
    simp [f_law_draw, fnI, m_law_draw, mSeq, O.seq, mIf, R.then, mTB, mOp, R.bind, mIxO, held, entryI, mC, lift, at30, at31, at32, ix30, ix31, ix32, pur, dGt, dOrd, mAsg, mVar, dMod, dI, gSet, optO, mPut, dFdiv, Sl.put, mRet, O.valI, io0, n1, n2, mNext, dAdd, dMul, s1, s2, s3, s4, s5, dNeX, dEqF, scalD, emptD, mLst, mNil, e1, ne, mCB, mCons, dLen, l1, dIx, mAnd, dLt, dGe, dAbs, dPow, dInt, hc, g1, g2, great]
  · unfold draw0
    rw [if_neg g]
    by_cases g1 : t < (cs.length : Int)
    · have g2 : ¬ 1000000000000000000 ≤ (if c < 0 then -c else c) := fun z => g ⟨g1, z⟩
      simp [f_law_draw, fnI, m_law_draw, mSeq, O.seq, mIf, R.then, mTB, mOp, R.bind, mIxO, held, entryI, mC, lift, at30, at31, at32, ix30, ix31, ix32, pur, dGt, dOrd, mAsg, mVar, dMod, dI, gSet, optO, mPut, dFdiv, Sl.put, mRet, O.valI, io0, n1, n2, mNext, dAdd, dMul, s1, s2, s3, s4, s5, dNeX, dEqF, scalD, emptD, mLst, mNil, e1, ne, mCB, mCons, dLen, l1, dIx, mAnd, dLt, dGe, dAbs, dPow, dInt, hc, g1, g2, p1, p2, mix1, mix2]
    · simp [f_law_draw, fnI, m_law_draw, mSeq, O.seq, mIf, R.then, mTB, mOp, R.bind, mIxO, held, entryI, mC, lift, at30, at31, at32, ix30, ix31, ix32, pur, dGt, dOrd, mAsg, mVar, dMod, dI, gSet, optO, mPut, dFdiv, Sl.put, mRet, O.valI, io0, n1, n2, mNext, dAdd, dMul, s1, s2, s3, s4, s5, dNeX, dEqF, scalD, emptD, mLst, mNil, e1, ne, mCB, mCons, dLen, l1, dIx, mAnd, dLt, dGe, dAbs, dPow, dInt, hc, g1, p1, p2, mix1, mix2]
end M23
namespace M23
open PySem L2 PySem.Spec PyProof.Rows En W23
theorem draw_new_none (t n : Int) (h0 : 0 ≤ t) (h1 : t < 1000000) (hn : 0 < n) (hn2 : n < 1073741824) :
    f_law_draw [.lst [], .int t, .int 0] [.int n] = some (draw0 [] (60795 * t + 1439) t n) := by
  have n1 : n ≠ 0 := by omega
  have n2 : n.natAbs < 1073741824 := by omega
  have m0 := fmod_lo (60795 * t + 1439) (m := 2147483249) (by decide)
  have m1 := fmod_hi (60795 * t + 1439) (m := 2147483249) (by decide)
  have p1 : ((60795 * t + 1439).fmod 2147483249 + 60795 * t + 1439).natAbs < 2 ^ 64 := by omega
  have q0 := fmod_lo (((60795 * t + 1439).fmod 2147483249 + 60795 * t + 1439) ^ 3) (m := 2147483647) (by decide)
  have q1 := fmod_hi (((60795 * t + 1439).fmod 2147483249 + 60795 * t + 1439) ^ 3) (m := 2147483647) (by decide)
  have b := bound2 _ t q0 q1 h0 h1
  have p2 : (mix1 (60795 * t + 1439) t * (t + 20333) + 7 * t * t + 3).natAbs < 2 ^ 64 := by unfold mix1; omega
  have s1 : smallB 60795 = true := by decide
  have s2 : smallB (t + 20333) = true := by unfold smallB; simp; omega
  have s3 : smallB t = true := by unfold smallB; simp; omega
  have s4 : smallB 7 = true := by decide
  unfold mix1 at p2
  have g1 : ¬ t < 0 := by omega
  simp [draw0, f_law_draw, fnI, m_law_draw, mSeq, O.seq, mIf, R.then, mTB, mOp, R.bind, mIxO, held, entryI, mC, lift, at30, at31, at32, ix30, ix31, ix32, pur, dGt, dOrd, mAsg, mVar, dMod, dI, gSet, optO, mPut, dFdiv, Sl.put, mRet, O.valI, io0, n1, n2, mNext, dAdd, dMul, s1, s2, s3, s4, dNeX, dEqF, scalD, emptD, mLst, mNil, mCB, mCons, dLen, dIx, mAnd, dLt, dGe, dAbs, dPow, dInt, g1, p1, p2, mix1, mix2]
/-- the pen holds numbers, a place and a rest -/
def POk (N : Nat) (cs : List D) : Prop := ∃ (ns : List Int) (t r : Int), cs = [.lst (ns.map .int), .int t, .int r] ∧ ns.length ≤ 63 ∧ 0 ≤ t ∧ t ≤ N ∧ 0 ≤ r
theorem fdiv_nn {a n : Int} (ha : 0 ≤ a) (hn : 0 < n) : 0 ≤ a.fdiv n := Int.fdiv_nonneg ha (by omega)
theorem mix2_nn (c t : Int) : 0 ≤ mix2 c t := fmod_lo _ (by decide)
theorem draw0_ok {N : Nat} {ns : List Int} {c t n : Int} (hl : ns.length ≤ 63) (h0 : 0 ≤ t) (h1 : t ≤ N) (hn : 0 < n) :
    ∃ d cs', draw0 (ns.map .int) c t n = (.int d, cs') ∧ 0 ≤ d ∧ d < n ∧ POk (N + 1) cs' := by
  unfold draw0
  by_cases g : t < ((ns.map D.int).length : Int) ∧ 1000000000000000000 ≤ (if c < 0 then -c else c)
  · rw [if_pos g]
    refine ⟨_, _, rfl, fmod_lo _ hn, fmod_hi _ hn, ns, _, _, rfl, hl, by omega, by omega, fdiv_nn ?_ hn⟩
    unfold great
    split <;> omega
  · rw [if_neg g]
    exact ⟨_, _, rfl, fmod_lo _ hn, fmod_hi _ hn, ns, _, _, rfl, hl, by omega, by omega, Int.le_refl _⟩
theorem atI_some {α : Type} {xs : List α} {i : Int} (h0 : 0 ≤ i) (h1 : i < xs.length) : ∃ x, atI xs i = some x ∧ x ∈ xs := by
  have h2 : i.toNat < xs.length := by omega
  refine ⟨xs[i.toNat], ?_, List.getElem_mem h2⟩
  have e : ixN xs.length i = some i.toNat := by unfold ixN; rw [if_pos h0, if_pos h1]
  unfold atI
  rw [e, Option.bind_some, List.getElem?_eq_getElem h2]
theorem draw_ok {N : Nat} {cs : List D} {n : Int} (h : POk N cs) (hN : N < 1000000) (hn : 0 < n) (hn2 : n < 1073741824) :
    ∃ d cs', f_law_draw cs [.int n] = some (.int d, cs') ∧ 0 ≤ d ∧ d < n ∧ POk (N + 1) cs' := by
  obtain ⟨ns, t, r, rfl, hl, h0, h1, hr⟩ := h
  by_cases z : 0 < r
  · rw [draw_rest _ _ _ _ z hn hn2]
    exact ⟨_, _, rfl, fmod_lo _ hn, fmod_hi _ hn, ns, _, _, rfl, hl, h0, by omega, fdiv_nn hr hn⟩
  · have z : r = 0 := by omega
    subst z
    by_cases e : ns = []
    · subst e
      rw [List.map_nil, draw_new_none t n h0 (by omega) hn hn2]
      obtain ⟨d, cs', h2, h3, h4, h5⟩ := draw0_ok (N := N) (ns := []) (c := 60795 * t + 1439) hl h0 h1 hn
      exact ⟨d, cs', congrArg some h2, h3, h4, h5⟩
    · have hp : (0 : Int) < ((ns.map D.int).length : Nat) := by
        have := List.length_pos_iff.mpr e
        rw [List.length_map]; omega
      obtain ⟨x, hx, hm⟩ := atI_some (xs := ns.map D.int) (fmod_lo t hp) (fmod_hi t hp)
      obtain ⟨c, _, rfl⟩ := List.mem_map.mp hm
      rw [draw_new_some (ns.map .int) c t n h0 (by omega) hn hn2 (by simpa using e) (by simp; omega) hx]
      obtain ⟨d, cs', h2, h3, h4, h5⟩ := draw0_ok (N := N) (ns := ns) (c := c) hl h0 h1 hn
      exact ⟨d, cs', congrArg some h2, h3, h4, h5⟩
theorem pen_ok (ns : List Int) : ∃ cs, f_law_pen [.scr ns] = some cs ∧ POk 0 cs := by
  refine ⟨[.lst ((cutL ns none (some 63)).map .int), .int 0, .int 0], ?_, cutL ns none (some 63), 0, 0, rfl, ?_, by decide, by decide, by decide⟩
  · simp [f_law_pen, fnN, m_law_pen, entry, mCons, mCB, mSl, mVar, mC, mPart, mNil, R.bind, lift, dSl, dList, sizeLine]
  · unfold cutL
    rw [List.length_take]
    have : HT.sIx ns.length ns.length (some 63) ≤ 63 := by
      unfold HT.sIx
      simp
      omega
    omega
end M23
namespace M23
open PySem L2 PySem.Spec PyProof.Rows En W23
/-- no object, no script -/
def pl : D → Bool
  | .obj _ _ => false
  | .scr _ => false
  | _ => true
def az : Str := "abcdefghijklmnopqrstuvwxyz"
def wordB (x : Str) : Bool := decide (1 ≤ x.length) && decide (x.length ≤ 8) && (x.cps.toList.all fun c => decide (c ∈ az.cps.toList))
def nameB (x : Str) : Bool := wordB x && !decide (x = "self")
def isName : D → Bool
  | .str x => nameB x
  | _ => false
def isAsk (p n : D) : Bool := isName p && (match n with | .int i => decide (1 ≤ i) | _ => false)
def sigB (y : Str) : Bool := match oneSign y with
  | some c => decide (c ∈ az.cps.toList)
  | none => false
theorem word_lc (x : Str) (hx : x.length ≤ sizeLine) : mLc [1] (mItems (mVar 0)) (gSet 1) mYes (mOp (pur (dIn false)) (mVar 1) (mC (.str az))) [.dat (.str x), .emp] = .ok (.lst (x.cps.toList.map fun c => .bl (decide (c ∈ az.cps.toList)))) [.dat (.str x), .emp] := by
  have e := lcD_pure (vs := [1]) (mg := gSet 1) (mt := mYes) (me := mOp (pur (dIn false)) (mVar 1) (mC (.str az))) (ρ := [.dat (.str x), .emp]) (fun _ => true) (fun d => match d with | .str y => .bl (sigB y) | _ => .non) (En.signs x) [] (fun d hd => by
    unfold En.signs at hd
    obtain ⟨c, hc, rfl⟩ := List.mem_map.mp hd
    refine ⟨_, _, rfl, rfl, fun z => (by cases z), fun _ => ⟨[.dat (.str x), .dat (.str ⟨#[c]⟩)], ?_, rfl⟩⟩
    simp [mOp, mVar, mC, R.bind, pur, dIn, dInB, inSign, oneSign_one, lift, sigB]) (by
      have : x.length = x.cps.toList.length := by simp [Str.length]
      simp only [En.signs, List.length_map, List.length_nil, ← this]; omega)
  rw [List.filter_eq_self.mpr (fun _ _ => rfl), List.nil_append] at e
  have e0 : (En.signs x).map (fun d => match d with | .str y => D.bl (sigB y) | _ => .non) = x.cps.toList.map fun c => .bl (decide (c ∈ az.cps.toList)) := by
    unfold En.signs
    rw [List.map_map]
    rfl
  rw [e0] at e
  show (R.bind (mItems (mVar 0) [.dat (.str x), .emp]) _) = _
  have e1 : mItems (mVar 0) [.dat (.str x), .emp] = .ok (En.signs x) [.dat (.str x), .emp] := rfl
  rw [e1]
  show R.bind (lcD _ _ _ _ (En.signs x) [] [.dat (.str x), .emp]) _ = _
  rw [e]
  rfl
theorem is_word_str (x : Str) (hx : x.length ≤ sizeLine) : f_is_word [.str x] = some (.bl (wordB x)) := by
  have hL := word_lc x hx
  have hb : dAll [.lst (x.cps.toList.map fun c => .bl (decide (c ∈ az.cps.toList)))] = some (.bl (x.cps.toList.all fun c => decide (c ∈ az.cps.toList))) := by
    rw [dAll, bools_map (fun c => decide (c ∈ az.cps.toList)) x.cps.toList, Option.map_some, List.all_map]; rfl
  generalize hl : (x.cps.toList.map fun c => D.bl (decide (c ∈ az.cps.toList))) = l at hL hb
  unfold az at hL
  unfold f_is_word m_is_word fnP
  generalize mLc _ _ _ _ _ = L at hL ⊢
  by_cases h1 : 1 ≤ x.length
  · have h1' : (1 : Int) ≤ (x.length : Nat) := by omega
    by_cases h8 : x.length ≤ 8
    · have h8' : ((x.length : Nat) : Int) ≤ 8 := by omega
      simp [entry, mSeq, O.seq, mIf, R.then, mOr, mNot, mTru, mUn, mVar, dIsi, D.isT, lift, R.bind, dTru, mTB, mChain, mC, mCB, mCons, mNil, dLen, hx, pur, dLe, dOrd, h1, h8, h1', h8', mNext, mRet, hL, hb, O.val, wordB]
    · have h8' : ¬ ((x.length : Nat) : Int) ≤ 8 := by omega
      simp [entry, mSeq, O.seq, mIf, R.then, mOr, mNot, mTru, mUn, mVar, dIsi, D.isT, lift, R.bind, dTru, mTB, mChain, mC, mCB, mCons, mNil, dLen, hx, pur, dLe, dOrd, h1, h8, mNext, mRet, O.val, wordB, h1', h8']
  · have h1' : ¬ (1 : Int) ≤ (x.length : Nat) := by omega
    simp [entry, mSeq, O.seq, mIf, R.then, mOr, mNot, mTru, mUn, mVar, dIsi, D.isT, lift, R.bind, dTru, mTB, mChain, mC, mCB, mCons, mNil, dLen, hx, pur, dLe, dOrd, h1, mNext, mRet, O.val, wordB, h1']
theorem is_word_no {d : D} (h : pl d = true) (h' : ∀ x, d ≠ .str x) : f_is_word [d] = some (.bl false) := by
  cases d <;> first | exact absurd rfl (h' _) | exact absurd h Bool.false_ne_true | simp [f_is_word, fnP, m_is_word, entry, mSeq, O.seq, mIf, R.then, mOr, mNot, mTru, mUn, mVar, dIsi, D.isT, lift, R.bind, dTru, mRet, mC, O.val]
/-- a text is no longer than what the model writes -/
def sh : D → Bool
  | .str x => decide (x.length ≤ sizeLine) && PyData.strOk x
  | _ => true
theorem sh_len {x : Str} (h : sh (.str x) = true) : x.length ≤ sizeLine := by
  simp only [sh, Bool.and_eq_true, decide_eq_true_eq] at h
  exact h.1
theorem is_pipe_eq {d : D} (h : pl d = true) (hs : sh d = true) : f_is_pipe [d] = some (.bl (isName d)) := by
  by_cases e : ∃ x, d = .str x
  · obtain ⟨x, rfl⟩ := e
    have hw := is_word_str x (sh_len hs)
    cases hb : wordB x
    · rw [hb] at hw
      simp [f_is_pipe, fnP, m_is_pipe, entry, mRet, mAndV, mCB, mCons, mNil, mVar, R.bind, lift, hw, dTru, R.then, O.val, isName, nameB, hb]
    · rw [hb] at hw
      simp [f_is_pipe, fnP, m_is_pipe, entry, mRet, mAndV, mCB, mCons, mNil, mVar, R.bind, lift, hw, dTru, R.then, O.val, isName, nameB, mOp, pur, dNeX, dEqF, scalD, mC, hb]
  · have hw := is_word_no h (fun x hx => e ⟨x, hx⟩)
    have : isName d = false := by cases d <;> first | rfl | exact absurd ⟨_, rfl⟩ e
    simp [f_is_pipe, fnP, m_is_pipe, entry, mRet, mAndV, mCB, mCons, mNil, mVar, R.bind, lift, hw, dTru, R.then, O.val, this]
theorem is_ask_eq {p n : D} (h : pl p = true) (h2 : pl n = true) (hs : sh p = true) : f_is_ask [p, n] = some (.bl (isAsk p n)) := by
  have e := is_pipe_eq h hs
  cases hb : isName p
  · simp [f_is_ask, fnP, m_is_ask, entry, mRet, mAndV, mCB, mCons, mNil, mVar, R.bind, lift, e, hb, dTru, R.then, O.val, isAsk]
  · cases n <;> first | exact absurd h2 Bool.false_ne_true | simp [f_is_ask, f_is_integer, m_is_integer, mUn, dIsi, D.isT, mNotV, fnP, m_is_ask, entry, mRet, mAndV, mCB, mCons, mNil, mVar, R.bind, lift, e, hb, dTru, R.then, O.val, isAsk, mOp, pur, dGe, dOrd, mC]
def offD (d : D) : Bool := match d with
  | .str y => !sigB y
  | _ => false
theorem off_none (l : List Nat) : ((l.map fun c => D.str ⟨#[c]⟩).filter offD).isEmpty = l.all fun c => decide (c ∈ az.cps.toList) := by
  induction l with
  | nil => rfl
  | cons c l ih =>
    rw [List.map_cons, List.all_cons]
    have h0 : offD (D.str ⟨#[c]⟩) = !decide (c ∈ az.cps.toList) := rfl
    cases hc : decide (c ∈ az.cps.toList)
    · rw [List.filter_cons_of_pos (by rw [h0, hc]; rfl)]; rfl
    · rw [List.filter_cons_of_neg (by rw [h0, hc]; decide), ih]; rfl
theorem name_lc (x : Str) (hx : x.length ≤ sizeLine) : mLc [1] (mItems (mVar 0)) (gSet 1) (mTB (mOp (pur (dIn true)) (mVar 1) (mC (.str az)))) (mVar 1) [.dat (.str x), .emp] = .ok (.lst ((En.signs x).filter offD)) [.dat (.str x), .emp] := by
  have e := lcD_pure (vs := [1]) (mg := gSet 1) (mt := mTB (mOp (pur (dIn true)) (mVar 1) (mC (.str az)))) (me := mVar 1) (ρ := [.dat (.str x), .emp]) offD (fun d => d) (En.signs x) [] (fun d hd => by
    unfold En.signs at hd
    obtain ⟨c, hc, rfl⟩ := List.mem_map.mp hd
    refine ⟨_, [.dat (.str x), .dat (.str ⟨#[c]⟩)], rfl, ?_, fun _ => rfl, fun _ => ⟨_, rfl, rfl⟩⟩
    simp [mOp, mVar, mC, R.bind, pur, dIn, dInB, inSign, oneSign_one, lift, gSet, mTB, offD, sigB]) (by
      have : x.length = x.cps.toList.length := by simp [Str.length]
      simp only [En.signs, List.length_map, List.length_nil, ← this]; omega)
  rw [List.map_id', List.nil_append] at e
  show (R.bind (mItems (mVar 0) [.dat (.str x), .emp]) _) = _
  have e1 : mItems (mVar 0) [.dat (.str x), .emp] = .ok (En.signs x) [.dat (.str x), .emp] := rfl
  rw [e1]
  show R.bind (lcD _ _ _ _ (En.signs x) [] [.dat (.str x), .emp]) _ = _
  rw [e]
  rfl
theorem law_name_eq {d : D} (h : pl d = true) (hs : sh d = true) : f_law_is_name [d] = some (.bl (isName d)) := by
  by_cases e : ∃ x, d = .str x
  · obtain ⟨x, rfl⟩ := e
    have hx := sh_len hs
    have hL := name_lc x hx
    have hb := off_none x.cps.toList
    unfold En.signs at hL
    generalize ((x.cps.toList.map fun c => D.str ⟨#[c]⟩).filter offD) = l at hL hb
    unfold az at hL
    unfold f_law_is_name m_law_is_name fnP
    generalize mLc _ _ _ _ _ = L at hL ⊢
    by_cases h1 : 1 ≤ x.length
    · have h1' : (1 : Int) ≤ (x.length : Nat) := by omega
      by_cases h8 : x.length ≤ 8
      · have h8' : ((x.length : Nat) : Int) ≤ 8 := by omega
        by_cases hself : x = "self"
        · have c1 : decide (x = "self") = true := decide_eq_true hself
          simp [entry, mSeq, O.seq, mIf, R.then, mOr, mNot, mTru, mUn, mVar, dIsi, D.isT, lift, R.bind, dTru, mTB, mChain, mC, mCB, mCons, mNil, dLen, hx, pur, dLe, dOrd, h1, h8, h1', h8', mNext, mRet, O.val, isName, nameB, mOp, dEqX, dEqF, scalD, c1, -decide_eq_true_eq]
        · have c1 : decide (x = "self") = false := decide_eq_false hself
          simp [entry, mSeq, O.seq, mIf, R.then, mOr, mNot, mTru, mUn, mVar, dIsi, D.isT, lift, R.bind, dTru, mTB, mChain, mC, mCB, mCons, mNil, dLen, hx, pur, dLe, dOrd, h1, h8, h1', h8', mNext, mRet, O.val, isName, nameB, mOp, dEqX, dEqF, scalD, c1, hL, mLst, emptD, wordB, -decide_eq_true_eq, -List.all_eq_true]
          rw [hb]
          simp
      · have h8' : ¬ ((x.length : Nat) : Int) ≤ 8 := by omega
        simp [entry, mSeq, O.seq, mIf, R.then, mOr, mNot, mTru, mUn, mVar, dIsi, D.isT, lift, R.bind, dTru, mTB, mChain, mC, mCB, mCons, mNil, dLen, hx, pur, dLe, dOrd, h1, h8, h1', h8', mNext, mRet, O.val, isName, nameB, wordB]
    · have h1' : ¬ (1 : Int) ≤ (x.length : Nat) := by omega
      simp [entry, mSeq, O.seq, mIf, R.then, mOr, mNot, mTru, mUn, mVar, dIsi, D.isT, lift, R.bind, dTru, mTB, mChain, mC, mCB, mCons, mNil, dLen, hx, pur, dLe, dOrd, h1, h1', mNext, mRet, O.val, isName, nameB, wordB]
  · cases d <;> first | exact absurd ⟨_, rfl⟩ e | exact absurd h Bool.false_ne_true | simp [f_law_is_name, fnP, m_law_is_name, entry, mSeq, O.seq, mIf, R.then, mOr, mNot, mTru, mUn, mVar, dIsi, D.isT, lift, R.bind, dTru, mRet, mC, O.val, isName]
theorem law_ask_eq {p n : D} (h : pl p = true) (h2 : pl n = true) (hs : sh p = true) : f_law_is_ask [.tup [p, n]] = some (.bl (isAsk p n)) := by
  have e := law_name_eq h hs
  have a0 : atI [p, n] (0 : Int) = some p := rfl
  have a1 : atI [p, n] (1 : Int) = some n := rfl
  cases hb : isName p
  · simp [f_law_is_ask, fnP, m_law_is_ask, entry, mSeq, O.seq, mIf, R.then, mOr, mNot, mTru, mUn, mVar, mOp, mC, pur, dIx, a0, a1, dIsi, D.isT, lift, R.bind, dTru, mRet, mC, O.val, isAsk, mCB, mCons, mNil, e, hb]
  · cases n <;> first | exact absurd h2 Bool.false_ne_true | simp [f_law_is_ask, fnP, m_law_is_ask, entry, mSeq, O.seq, mIf, R.then, mOr, mNot, mTru, mUn, mVar, mOp, mC, pur, dIx, a0, a1, dIsi, D.isT, lift, R.bind, dTru, mRet, mC, O.val, isAsk, mCB, mCons, mNil, e, hb, mNext, dGt, dOrd]
    all_goals omega
end M23
namespace M23
open PySem L2 PySem.Spec PyProof.Rows En W23
def ltD : D → D → Bool
  | .str y, .str z => ltS y z
  | _, _ => false
def demandB : D → Bool
  | .tup [.str x] => decide (x = "nothing") || decide (x = "starved")
  | .tup [.str x, p, n] => decide (x = "one") && isAsk p n
  | .tup [.str x, p, n, q, m] => decide (x = "either") && (isAsk p n && (isAsk q m && ltD p q))
  | _ => false
theorem dem_no {d : D} (h : pl d = true) (h' : ∀ x, d ≠ .tup x) : f_is_demand [d] = some (.bl false) ∧ f_law_due [d] = some (.bl false) := by
  cases d <;> first | exact absurd rfl (h' _) | exact absurd h Bool.false_ne_true | simp [f_is_demand, m_is_demand, f_law_due, m_law_due, demandB, fnP, entry, mSeq, O.seq, mIf, R.then, mOr, mNot, mTru, mUn, mVar, dIsi, D.isT, lift, R.bind, dTru, mRet, mC, O.val]
theorem sbeq (a b : Str) : (a == b) = decide (b = a) := by
  rw [show (a == b) = decide (a = b) from rfl]
  exact decide_eq_decide.mpr eq_comm
theorem in_ns (x : Str) (h : sh (.str x) = true) : dIn false (.tup [.str x]) (.tup [.tup [.str "nothing"], .tup [.str "starved"]]) = some (.bl (decide (x = "nothing") || decide (x = "starved"))) := by
  simp only [sh, Bool.and_eq_true, decide_eq_true_eq] at h
  have s1 : SeqAt.shaped (.tuple [.str x]) = true := by
    simp [SeqAt.shaped, PyData.canLay0, PyData.canLayAll0, h.2, PyData.depth, PyData.depthAll]
  have s2 : SeqAt.shaped (.tuple [.tuple [.str "nothing"], .tuple [.str "starved"]]) = true := by decide +kernel
  simp [dIn, dInB, inSign, inFlat, seqD, flatD, inDeep, toPy, toPys, s1, s2, PyData.eqv, PyData.eqvAll, sbeq]
theorem in_ns2 (x : Str) : dIn false (.str x) (.tup [.str "nothing", .str "starved"]) = some (.bl (decide (x = "nothing") || decide (x = "starved"))) := by
  simp [dIn, dInB, inSign, inFlat, seqD, flatD, flatsD, inV, eqV, sbeq]
theorem name_str {p : D} (h : isName p = true) : ∃ x, p = .str x := by
  cases p <;> first | exact ⟨_, rfl⟩ | cases h
theorem ask_str {p n : D} (h : isAsk p n = true) : ∃ x, p = .str x := by
  unfold isAsk at h
  exact name_str (Bool.and_eq_true_iff.mp h).1
theorem lt_eq {p q : D} (hp : ∃ x, p = .str x) (hq : ∃ x, q = .str x) : dLt p q = some (.bl (ltD p q)) := by
  obtain ⟨x, rfl⟩ := hp
  obtain ⟨y, rfl⟩ := hq
  rfl
theorem in_135 (n : Int) : dIn true (.int n) (.tup [.int 1, .int 3, .int 5]) = some (.bl (!(decide (n = 1) || decide (n = 3) || decide (n = 5)))) := by
  have e (a : Int) : (a == n) = decide (n = a) := decide_eq_decide.mpr eq_comm
  simp [dIn, dInB, inSign, inFlat, seqD, flatD, flatsD, inV, eqV, e, Bool.or_assoc]
theorem demB_odd {a : D} {r : List D} (h : ∀ x, a ≠ .str x) : demandB (.tup (a :: r)) = false := by
  unfold demandB
  split <;> first | rfl | (rename_i z; cases z; exact absurd rfl (h _))
theorem isi_odd {a : D} (h : ∀ x, a ≠ .str x) (hp : pl a = true) : a.isT .str = some false := by
  cases a <;> first | rfl | exact absurd rfl (h _) | exact absurd hp Bool.false_ne_true
theorem atI_head {α : Type} (a : α) (r : List α) : atI (a :: r) (0 : Int) = some a := by
  have h : (0 : Int) < ((a :: r).length : Nat) := by rw [List.length_cons]; omega
  unfold atI ixN
  rw [if_pos (by decide), if_pos h]
  rfl
theorem dem_odd {a : D} {r : List D} (h : ∀ x, a ≠ .str x) (hp : pl a = true) : f_is_demand [.tup (a :: r)] = some (.bl false) := by
  have e0 : dLen [.tup (a :: r)] = some (.int ((r.length : Nat) + 1 : Int)) := rfl
  have in0 : ∃ b, dIn true (.int ((r.length : Nat) + 1 : Int)) (.tup [.int 1, .int 3, .int 5]) = some (.bl b) := ⟨_, in_135 _⟩
  obtain ⟨b, in0⟩ := in0
  cases a with
  | str x => exact absurd rfl (h x)
  | obj => exact absurd hp Bool.false_ne_true
  | scr => exact absurd hp Bool.false_ne_true
  | _ => cases b <;> simp [f_is_demand, m_is_demand, fnP, entry, mSeq, O.seq, mIf, R.then, mOr, mNot, mTru, mUn, mVar, dIsi, D.isT, lift, R.bind, dTru, mRet, mC, O.val, mTB, mOp, mCB, mCons, mNil, mTup, pur, dIx, sizeLine, mNext, atI_head, e0, in0]
theorem at2_0 {α : Type} (a b : α) : atI [a, b] (0 : Int) = some a := rfl
theorem at2_1 {α : Type} (a b : α) : atI [a, b] (1 : Int) = some b := rfl
theorem at3_0 {α : Type} (a b c : α) : atI [a, b, c] (0 : Int) = some a := rfl
theorem at3_1 {α : Type} (a b c : α) : atI [a, b, c] (1 : Int) = some b := rfl
theorem at3_2 {α : Type} (a b c : α) : atI [a, b, c] (2 : Int) = some c := rfl
theorem at4_0 {α : Type} (a b c d : α) : atI [a, b, c, d] (0 : Int) = some a := rfl
theorem at4_1 {α : Type} (a b c d : α) : atI [a, b, c, d] (1 : Int) = some b := rfl
theorem at4_2 {α : Type} (a b c d : α) : atI [a, b, c, d] (2 : Int) = some c := rfl
theorem at4_3 {α : Type} (a b c d : α) : atI [a, b, c, d] (3 : Int) = some d := rfl
theorem at5_0 {α : Type} (a b c d e : α) : atI [a, b, c, d, e] (0 : Int) = some a := rfl
theorem at5_1 {α : Type} (a b c d e : α) : atI [a, b, c, d, e] (1 : Int) = some b := rfl
theorem at5_2 {α : Type} (a b c d e : α) : atI [a, b, c, d, e] (2 : Int) = some c := rfl
theorem at5_3 {α : Type} (a b c d e : α) : atI [a, b, c, d, e] (3 : Int) = some d := rfl
theorem at5_4 {α : Type} (a b c d e : α) : atI [a, b, c, d, e] (4 : Int) = some e := rfl
theorem at1_0 {α : Type} (a : α) : atI [a] (0 : Int) = some a := rfl
theorem dem_eq {ds : List D} (h : ∀ d ∈ ds, pl d = true ∧ sh d = true) : f_is_demand [.tup ds] = some (.bl (demandB (.tup ds))) := by
  have in1 := in_135 1
  have in2 := in_135 2
  have in3 := in_135 3
  have in4 := in_135 4
  have in5 := in_135 5
  match ds, h with
  | [], _ => rfl
  | a :: r, h =>
    have h0 := h a (List.mem_cons_self ..)
    by_cases hs : ∃ x, a = .str x
    · obtain ⟨x, rfl⟩ := hs
      match r, h with
      | [], h =>
        simp [f_is_demand, m_is_demand, demandB, at1_0, at2_0, at3_0, at3_1, at3_2, at4_0, at5_0, at5_1, at5_2, at5_3, at5_4, fnP, entry, mSeq, O.seq, mIf, R.then, mOr, mNot, mTru, mUn, mVar, dIsi, D.isT, lift, R.bind, dTru, mRet, mC, O.val, mTB, mOp, mCB, mCons, mNil, dLen, mTup, pur, dIx, sizeLine, mNext, dEqX, dNeX, dEqF, scalD, mAndV, in1, in2, in3, in4, in5, in_ns x h0.2]
      | [b], h =>
        simp [f_is_demand, m_is_demand, demandB, at1_0, at2_0, at3_0, at3_1, at3_2, at4_0, at5_0, at5_1, at5_2, at5_3, at5_4, fnP, entry, mSeq, O.seq, mIf, R.then, mOr, mNot, mTru, mUn, mVar, dIsi, D.isT, lift, R.bind, dTru, mRet, mC, O.val, mTB, mOp, mCB, mCons, mNil, dLen, mTup, pur, dIx, sizeLine, mNext, dEqX, dNeX, dEqF, scalD, mAndV, in1, in2, in3, in4, in5]
      | [b, c], h =>
        have hb := h b (by simp)
        have hc := h c (by simp)
        have e := is_ask_eq hb.1 hc.1 hb.2
        by_cases z : x = "one"
        · simp [f_is_demand, m_is_demand, demandB, at1_0, at2_0, at3_0, at3_1, at3_2, at4_0, at5_0, at5_1, at5_2, at5_3, at5_4, fnP, entry, mSeq, O.seq, mIf, R.then, mOr, mNot, mTru, mUn, mVar, dIsi, D.isT, lift, R.bind, dTru, mRet, mC, O.val, mTB, mOp, mCB, mCons, mNil, dLen, mTup, pur, dIx, sizeLine, mNext, dEqX, dNeX, dEqF, scalD, mAndV, in1, in2, in3, in4, in5, e, z]
        · simp [f_is_demand, m_is_demand, demandB, at1_0, at2_0, at3_0, at3_1, at3_2, at4_0, at5_0, at5_1, at5_2, at5_3, at5_4, fnP, entry, mSeq, O.seq, mIf, R.then, mOr, mNot, mTru, mUn, mVar, dIsi, D.isT, lift, R.bind, dTru, mRet, mC, O.val, mTB, mOp, mCB, mCons, mNil, dLen, mTup, pur, dIx, sizeLine, mNext, dEqX, dNeX, dEqF, scalD, mAndV, in1, in2, in3, in4, in5, e, z]
      | [b, c, d], h =>
        simp [f_is_demand, m_is_demand, demandB, at1_0, at2_0, at3_0, at3_1, at3_2, at4_0, at5_0, at5_1, at5_2, at5_3, at5_4, fnP, entry, mSeq, O.seq, mIf, R.then, mOr, mNot, mTru, mUn, mVar, dIsi, D.isT, lift, R.bind, dTru, mRet, mC, O.val, mTB, mOp, mCB, mCons, mNil, dLen, mTup, pur, dIx, sizeLine, mNext, dEqX, dNeX, dEqF, scalD, mAndV, in1, in2, in3, in4, in5]
      | [b, c, d, g], h =>
        have hb := h b (by simp)
        have hc := h c (by simp)
        have hd := h d (by simp)
        have hg := h g (by simp)
        have e := is_ask_eq hb.1 hc.1 hb.2
        have e2 := is_ask_eq hd.1 hg.1 hd.2
        by_cases z : x = "either"
        · cases q1 : isAsk b c with
          | false => rw [q1] at e; simp [f_is_demand, m_is_demand, demandB, at1_0, at2_0, at3_0, at3_1, at3_2, at4_0, at5_0, at5_1, at5_2, at5_3, at5_4, fnP, entry, mSeq, O.seq, mIf, R.then, mOr, mNot, mTru, mUn, mVar, dIsi, D.isT, lift, R.bind, dTru, mRet, mC, O.val, mTB, mOp, mCB, mCons, mNil, dLen, mTup, pur, dIx, sizeLine, mNext, dEqX, dNeX, dEqF, scalD, mAndV, in1, in2, in3, in4, in5, e, e2, z, q1]
          | true =>
            cases q2 : isAsk d g with
            | false => rw [q1] at e; rw [q2] at e2; simp [f_is_demand, m_is_demand, demandB, at1_0, at2_0, at3_0, at3_1, at3_2, at4_0, at5_0, at5_1, at5_2, at5_3, at5_4, fnP, entry, mSeq, O.seq, mIf, R.then, mOr, mNot, mTru, mUn, mVar, dIsi, D.isT, lift, R.bind, dTru, mRet, mC, O.val, mTB, mOp, mCB, mCons, mNil, dLen, mTup, pur, dIx, sizeLine, mNext, dEqX, dNeX, dEqF, scalD, mAndV, in1, in2, in3, in4, in5, e, e2, z, q1, q2]
            | true => rw [q1] at e; rw [q2] at e2; simp [f_is_demand, m_is_demand, demandB, at1_0, at2_0, at3_0, at3_1, at3_2, at4_0, at5_0, at5_1, at5_2, at5_3, at5_4, fnP, entry, mSeq, O.seq, mIf, R.then, mOr, mNot, mTru, mUn, mVar, dIsi, D.isT, lift, R.bind, dTru, mRet, mC, O.val, mTB, mOp, mCB, mCons, mNil, dLen, mTup, pur, dIx, sizeLine, mNext, dEqX, dNeX, dEqF, scalD, mAndV, in1, in2, in3, in4, in5, e, e2, z, q1, q2, lt_eq (ask_str q1) (ask_str q2)]
        · simp [f_is_demand, m_is_demand, demandB, at1_0, at2_0, at3_0, at3_1, at3_2, at4_0, at5_0, at5_1, at5_2, at5_3, at5_4, fnP, entry, mSeq, O.seq, mIf, R.then, mOr, mNot, mTru, mUn, mVar, dIsi, D.isT, lift, R.bind, dTru, mRet, mC, O.val, mTB, mOp, mCB, mCons, mNil, dLen, mTup, pur, dIx, sizeLine, mNext, dEqX, dNeX, dEqF, scalD, mAndV, in1, in2, in3, in4, in5, e, e2, z]
      | b :: c :: d :: g :: k :: r, h =>
        have a0 : atI (D.str x :: b :: c :: d :: g :: k :: r) (0 : Int) = some (.str x) := atI_head _ _
        have in0 := in_135 ((D.str x :: b :: c :: d :: g :: k :: r).length : Nat)
        have n1 : ¬ (((D.str x :: b :: c :: d :: g :: k :: r).length : Nat) : Int) = 1 := by simp only [List.length_cons]; omega
        have n3 : ¬ (((D.str x :: b :: c :: d :: g :: k :: r).length : Nat) : Int) = 3 := by simp only [List.length_cons]; omega
        have n5 : ¬ (((D.str x :: b :: c :: d :: g :: k :: r).length : Nat) : Int) = 5 := by simp only [List.length_cons]; omega
        have e0 : dLen [.tup (D.str x :: b :: c :: d :: g :: k :: r)] = some (.int ((D.str x :: b :: c :: d :: g :: k :: r).length : Nat)) := rfl
        rw [decide_eq_false n1, decide_eq_false n3, decide_eq_false n5] at in0
        have eb : demandB (.tup (D.str x :: b :: c :: d :: g :: k :: r)) = false := rfl
        rw [eb]
        generalize (D.str x :: b :: c :: d :: g :: k :: r) = l at a0 in0 e0
        simp [f_is_demand, m_is_demand, fnP, entry, mSeq, O.seq, mIf, R.then, mOr, mNot, mTru, mUn, mVar, dIsi, D.isT, lift, R.bind, dTru, mRet, mC, O.val, mTB, mOp, mCB, mCons, mNil, dLen, mTup, pur, dIx, sizeLine, mNext, dEqX, dNeX, dEqF, scalD, mAndV, in1, in2, in3, in4, in5, e0, a0, in0]
    · have hs' : ∀ x, a ≠ .str x := fun x e => hs ⟨x, e⟩
      rw [demB_odd hs', dem_odd hs' h0.1]
theorem due_odd {a : D} {r : List D} (h : ∀ x, a ≠ .str x) (hp : pl a = true) : f_law_due [.tup (a :: r)] = some (.bl false) := by
  have e := isi_odd h hp
  cases a with
  | str x => exact absurd rfl (h x)
  | obj => exact absurd hp Bool.false_ne_true
  | scr => exact absurd hp Bool.false_ne_true
  | _ => simp [f_law_due, m_law_due, fnP, entry, mSeq, O.seq, mIf, R.then, mOr, mNot, mTru, mUn, mVar, dIsi, D.isT, lift, R.bind, dTru, mRet, mC, O.val, mTB, mOp, mCB, mCons, mNil, mTup, pur, dIx, sizeLine, mNext, dEqX, dNeX, dEqF, scalD, emptD, mAndV, mSl, mPart, dSl, atI_head]
theorem cut3 (a b c : D) : cutL [a, b, c] (some (1 : Int)) none = [b, c] := rfl
theorem cut5a (a b c d e : D) : cutL [a, b, c, d, e] (some (1 : Int)) (some (3 : Int)) = [b, c] := rfl
theorem cut5b (a b c d e : D) : cutL [a, b, c, d, e] (some (3 : Int)) none = [d, e] := rfl
theorem due_eq {ds : List D} (h : ∀ d ∈ ds, pl d = true ∧ sh d = true) : f_law_due [.tup ds] = some (.bl (demandB (.tup ds))) := by
  match ds, h with
  | [], _ => rfl
  | a :: r, h =>
    have h0 := h a (List.mem_cons_self ..)
    by_cases hs : ∃ x, a = .str x
    · obtain ⟨x, rfl⟩ := hs
      have e0 : dLen [.tup (D.str x :: r)] = some (.int ((r.length : Nat) + 1 : Int)) := rfl
      have hin := in_ns2 x
      by_cases z0 : (decide (x = "nothing") || decide (x = "starved")) = true
      · rw [z0] at hin
        have ed : demandB (.tup (D.str x :: r)) = decide (((r.length : Nat) + 1 : Int) = 1) := by
          cases r with
          | nil => exact z0
          | cons b r =>
            rw [decide_eq_false (by rw [List.length_cons]; omega)]
            have n1 : x ≠ "one" := by
              rcases Bool.or_eq_true_iff.mp z0 with q | q <;> (rw [of_decide_eq_true q]; decide +kernel)
            have n2 : x ≠ "either" := by
              rcases Bool.or_eq_true_iff.mp z0 with q | q <;> (rw [of_decide_eq_true q]; decide +kernel)
            unfold demandB
            split <;> first | rfl | (rename_i z; cases z <;> first | (rw [decide_eq_false n1] <;> rfl) | (rw [decide_eq_false n2] <;> rfl))
        rw [ed]
        simp [f_law_due, m_law_due, fnP, entry, mSeq, O.seq, mIf, R.then, mOr, mNot, mTru, mUn, mVar, dIsi, D.isT, lift, R.bind, dTru, mRet, mC, O.val, mTB, mOp, mCB, mCons, mNil, mTup, pur, dIx, sizeLine, mNext, dEqX, dNeX, dEqF, scalD, emptD, mAndV, mSl, mPart, dSl, atI_head, hin, e0]
      · rw [Bool.not_eq_true] at z0
        rw [z0] at hin
        by_cases z1 : x = "one"
        · have ed : ∀ b c, demandB (.tup [D.str x, b, c]) = isAsk b c := fun b c => by
            show (decide (x = "one") && isAsk b c) = _
            rw [decide_eq_true z1]; rfl
          match r, h, e0 with
          | [b, c], h, e0 =>
            have hb := h b (by simp)
            have hc := h c (by simp)
            have e := law_ask_eq hb.1 hc.1 hb.2
            rw [ed]
            subst z1
            simp [f_law_due, m_law_due, fnP, entry, mSeq, O.seq, mIf, R.then, mOr, mNot, mTru, mUn, mVar, dIsi, D.isT, lift, R.bind, dTru, mRet, mC, O.val, mTB, mOp, mCB, mCons, mNil, mTup, pur, dIx, sizeLine, mNext, dEqX, dNeX, dEqF, scalD, emptD, mAndV, mSl, mPart, dSl, atI_head, hin, dLen, cut3, e]
          | [], _, e0 =>
            rw [show demandB (.tup [D.str x]) = false from z0]
            subst z1
            simp [f_law_due, m_law_due, fnP, entry, mSeq, O.seq, mIf, R.then, mOr, mNot, mTru, mUn, mVar, dIsi, D.isT, lift, R.bind, dTru, mRet, mC, O.val, mTB, mOp, mCB, mCons, mNil, mTup, pur, dIx, sizeLine, mNext, dEqX, dNeX, dEqF, scalD, emptD, mAndV, mSl, mPart, dSl, atI_head, hin, dLen]
          | [b], _, e0 =>
            rw [show demandB (.tup [D.str x, b]) = false from rfl]
            subst z1
            simp [f_law_due, m_law_due, fnP, entry, mSeq, O.seq, mIf, R.then, mOr, mNot, mTru, mUn, mVar, dIsi, D.isT, lift, R.bind, dTru, mRet, mC, O.val, mTB, mOp, mCB, mCons, mNil, mTup, pur, dIx, sizeLine, mNext, dEqX, dNeX, dEqF, scalD, emptD, mAndV, mSl, mPart, dSl, atI_head, hin, dLen]
          | [b, c, d], _, e0 =>
            rw [show demandB (.tup [D.str x, b, c, d]) = false from rfl]
            subst z1
            simp [f_law_due, m_law_due, fnP, entry, mSeq, O.seq, mIf, R.then, mOr, mNot, mTru, mUn, mVar, dIsi, D.isT, lift, R.bind, dTru, mRet, mC, O.val, mTB, mOp, mCB, mCons, mNil, mTup, pur, dIx, sizeLine, mNext, dEqX, dNeX, dEqF, scalD, emptD, mAndV, mSl, mPart, dSl, atI_head, hin, dLen]
          | [b, c, d, g], _, e0 =>
            have : demandB (.tup [D.str x, b, c, d, g]) = false := by
              show (decide (x = "either") && _) = _
              rw [z1, decide_eq_false (by decide +kernel)]; rfl
            rw [this]
            subst z1
            simp [f_law_due, m_law_due, fnP, entry, mSeq, O.seq, mIf, R.then, mOr, mNot, mTru, mUn, mVar, dIsi, D.isT, lift, R.bind, dTru, mRet, mC, O.val, mTB, mOp, mCB, mCons, mNil, mTup, pur, dIx, sizeLine, mNext, dEqX, dNeX, dEqF, scalD, emptD, mAndV, mSl, mPart, dSl, atI_head, hin, dLen]
          | b :: c :: d :: g :: k :: r, _, e0 =>
            rw [show demandB (.tup (D.str x :: b :: c :: d :: g :: k :: r)) = false from rfl]
            have n3 : ¬ (((b :: c :: d :: g :: k :: r).length : Nat) + 1 : Int) = 3 := by simp only [List.length_cons]; omega
            generalize b :: c :: d :: g :: k :: r = l at e0 n3
            subst z1
            simp [f_law_due, m_law_due, fnP, entry, mSeq, O.seq, mIf, R.then, mOr, mNot, mTru, mUn, mVar, dIsi, D.isT, lift, R.bind, dTru, mRet, mC, O.val, mTB, mOp, mCB, mCons, mNil, mTup, pur, dIx, sizeLine, mNext, dEqX, dNeX, dEqF, scalD, emptD, mAndV, mSl, mPart, dSl, atI_head, hin, e0, n3]
        · by_cases z2 : x = "either"
          · match r, h, e0 with
            | [b, c, d, g], h, e0 =>
              have hb := h b (by simp)
              have hc := h c (by simp)
              have hd := h d (by simp)
              have hg := h g (by simp)
              have e := law_ask_eq hb.1 hc.1 hb.2
              have e2 := law_ask_eq hd.1 hg.1 hd.2
              have ed : demandB (.tup [D.str x, b, c, d, g]) = (isAsk b c && (isAsk d g && ltD b d)) := by
                show (decide (x = "either") && _) = _
                rw [decide_eq_true z2]; rfl
              rw [ed]
              subst z2
              cases q1 : isAsk b c with
              | false => rw [q1] at e; simp [f_law_due, m_law_due, fnP, entry, mSeq, O.seq, mIf, R.then, mOr, mNot, mTru, mUn, mVar, dIsi, D.isT, lift, R.bind, dTru, mRet, mC, O.val, mTB, mOp, mCB, mCons, mNil, mTup, pur, dIx, sizeLine, mNext, dEqX, dNeX, dEqF, scalD, emptD, mAndV, mSl, mPart, dSl, atI_head, hin, z1, dLen, cut5a, cut5b, e, e2]
              | true =>
                cases q2 : isAsk d g with
                | false => rw [q1] at e; rw [q2] at e2; simp [f_law_due, m_law_due, fnP, entry, mSeq, O.seq, mIf, R.then, mOr, mNot, mTru, mUn, mVar, dIsi, D.isT, lift, R.bind, dTru, mRet, mC, O.val, mTB, mOp, mCB, mCons, mNil, mTup, pur, dIx, sizeLine, mNext, dEqX, dNeX, dEqF, scalD, emptD, mAndV, mSl, mPart, dSl, atI_head, hin, z1, dLen, cut5a, cut5b, e, e2]
                | true => rw [q1] at e; rw [q2] at e2; simp [f_law_due, m_law_due, fnP, entry, mSeq, O.seq, mIf, R.then, mOr, mNot, mTru, mUn, mVar, dIsi, D.isT, lift, R.bind, dTru, mRet, mC, O.val, mTB, mOp, mCB, mCons, mNil, mTup, pur, dIx, sizeLine, mNext, dEqX, dNeX, dEqF, scalD, emptD, mAndV, mSl, mPart, dSl, atI_head, hin, z1, dLen, cut5a, cut5b, e, e2, at5_1, at5_3, lt_eq (ask_str q1) (ask_str q2)]
            | [b, c], h, e0 =>
              have : demandB (.tup [D.str x, b, c]) = false := by
                show (decide (x = "one") && _) = _
                rw [decide_eq_false z1]; rfl
              rw [this]
              subst z2
              simp [f_law_due, m_law_due, fnP, entry, mSeq, O.seq, mIf, R.then, mOr, mNot, mTru, mUn, mVar, dIsi, D.isT, lift, R.bind, dTru, mRet, mC, O.val, mTB, mOp, mCB, mCons, mNil, mTup, pur, dIx, sizeLine, mNext, dEqX, dNeX, dEqF, scalD, emptD, mAndV, mSl, mPart, dSl, atI_head, hin, z1, dLen]
            | [], _, e0 =>
              rw [show demandB (.tup [D.str x]) = false from z0]
              subst z2
              simp [f_law_due, m_law_due, fnP, entry, mSeq, O.seq, mIf, R.then, mOr, mNot, mTru, mUn, mVar, dIsi, D.isT, lift, R.bind, dTru, mRet, mC, O.val, mTB, mOp, mCB, mCons, mNil, mTup, pur, dIx, sizeLine, mNext, dEqX, dNeX, dEqF, scalD, emptD, mAndV, mSl, mPart, dSl, atI_head, hin, z1, dLen]
            | [b], _, e0 =>
              rw [show demandB (.tup [D.str x, b]) = false from rfl]
              subst z2
              simp [f_law_due, m_law_due, fnP, entry, mSeq, O.seq, mIf, R.then, mOr, mNot, mTru, mUn, mVar, dIsi, D.isT, lift, R.bind, dTru, mRet, mC, O.val, mTB, mOp, mCB, mCons, mNil, mTup, pur, dIx, sizeLine, mNext, dEqX, dNeX, dEqF, scalD, emptD, mAndV, mSl, mPart, dSl, atI_head, hin, z1, dLen]
            | [b, c, d], _, e0 =>
              rw [show demandB (.tup [D.str x, b, c, d]) = false from rfl]
              subst z2
              simp [f_law_due, m_law_due, fnP, entry, mSeq, O.seq, mIf, R.then, mOr, mNot, mTru, mUn, mVar, dIsi, D.isT, lift, R.bind, dTru, mRet, mC, O.val, mTB, mOp, mCB, mCons, mNil, mTup, pur, dIx, sizeLine, mNext, dEqX, dNeX, dEqF, scalD, emptD, mAndV, mSl, mPart, dSl, atI_head, hin, z1, dLen]
            | b :: c :: d :: g :: k :: r, _, e0 =>
              rw [show demandB (.tup (D.str x :: b :: c :: d :: g :: k :: r)) = false from rfl]
              have n3 : ¬ (((b :: c :: d :: g :: k :: r).length : Nat) + 1 : Int) = 5 := by simp only [List.length_cons]; omega
              generalize b :: c :: d :: g :: k :: r = l at e0 n3
              subst z2
              simp [f_law_due, m_law_due, fnP, entry, mSeq, O.seq, mIf, R.then, mOr, mNot, mTru, mUn, mVar, dIsi, D.isT, lift, R.bind, dTru, mRet, mC, O.val, mTB, mOp, mCB, mCons, mNil, mTup, pur, dIx, sizeLine, mNext, dEqX, dNeX, dEqF, scalD, emptD, mAndV, mSl, mPart, dSl, atI_head, hin, z1, e0, n3]
          · have ed : demandB (.tup (D.str x :: r)) = false := by
              unfold demandB
              split <;> first | rfl | (rename_i z; cases z <;> first | exact z0 | (rw [decide_eq_false z1] <;> rfl) | (rw [decide_eq_false z2] <;> rfl))
            rw [ed]
            simp [f_law_due, m_law_due, fnP, entry, mSeq, O.seq, mIf, R.then, mOr, mNot, mTru, mUn, mVar, dIsi, D.isT, lift, R.bind, dTru, mRet, mC, O.val, mTB, mOp, mCB, mCons, mNil, mTup, pur, dIx, sizeLine, mNext, dEqX, dNeX, dEqF, scalD, emptD, mAndV, mSl, mPart, dSl, atI_head, hin, z1, z2, e0]
    · have hs' : ∀ x, a ≠ .str x := fun x e => hs ⟨x, e⟩
      rw [demB_odd hs', due_odd hs' h0.1]
end M23
namespace M23
open PySem L2 PySem.Spec PyProof.Rows En W23
def okI (i : Int) : Bool := decide (i ∈ [0, 1, -1, 2, 24, 10 ^ 59])
def okS (x : Str) : Bool := decide (x.length ≤ 12) && PyData.strOk x
/-- the parts that a matter is made of -/
def el : Nat → D → Bool
  | _, .non => true
  | _, .bl _ => true
  | _, .int i => okI i
  | _, .str x => okS x
  | _, .lst [] => true
  | _, .dct [] => true
  | n + 1, .tup ds => decide (ds.length ≤ 15) && ds.all (el n)
  | _, _ => false
def bk : Nat → Nat
  | 0 => 12
  | n + 1 => 15 * (bk n + 1)
theorem bk_ge : ∀ n, 12 ≤ bk n
  | 0 => Nat.le_refl _
  | n + 1 => by have := bk_ge n; simp only [bk]; omega
theorem okI_shw {i : Int} (h : okI i = true) : Shw 70 0 0 (.int i) := by
  unfold okI at h
  simp only [List.mem_cons, List.not_mem_nil, or_false, decide_eq_true_eq] at h
  rcases h with rfl | rfl | rfl | rfl | rfl | rfl <;> exact Shw.int (by decide +kernel) (by decide +kernel)
theorem okS_shw {x : Str} (h : okS x = true) : Shw 70 0 12 (.str x) := by
  unfold okS at h
  simp only [Bool.and_eq_true, decide_eq_true_eq] at h
  exact (Shw.str (low_ok h.2)).mono (Nat.le_refl _) h.1
theorem el_shw : ∀ (n : Nat) (d : D), el n d = true → Shw 70 (n + 1) (bk n) d
  | n, .non, _ => Shw.non.mono (by omega) (Nat.zero_le _)
  | n, .bl _, _ => (Shw.bl _).mono (by omega) (Nat.zero_le _)
  | n, .int i, h => (okI_shw (by cases n <;> simpa only [el] using h)).mono (by omega) (Nat.zero_le _)
  | n, .str x, h => (okS_shw (by cases n <;> simpa only [el] using h)).mono (by omega) (bk_ge n)
  | n, .lst [], _ => (Shw.lst (n := 0) (b := 0) (ds := []) (fun _ h => by cases h)).mono (by omega) (by simp)
  | n, .lst (_ :: _), h => by cases n <;> simp [el] at h
  | n, .dct [], _ => Shw.dct0.mono (by omega) (Nat.zero_le _)
  | n, .dct (_ :: _), h => by cases n <;> simp [el] at h
  | 0, .tup ds, h => by simp [el] at h
  | n + 1, .tup ds, h => by
    simp only [el, Bool.and_eq_true, decide_eq_true_eq, List.all_eq_true] at h
    refine (Shw.tup fun d hd => el_shw n d (h.2 d hd)).mono (Nat.le_refl _) ?_
    simp only [bk]
    exact Nat.mul_le_mul_right _ h.1
  | n, .obj _ _, h => by cases n <;> simp [el] at h
  | n, .scr _, h => by cases n <;> simp [el] at h
theorem el_up : ∀ (n : Nat) (d : D), el n d = true → el (n + 1) d = true
  | n, .non, _ => rfl
  | n, .bl _, _ => rfl
  | n, .int i, h => by cases n <;> simpa only [el] using h
  | n, .str x, h => by cases n <;> simpa only [el] using h
  | n, .lst [], _ => rfl
  | n, .lst (_ :: _), h => by cases n <;> simp [el] at h
  | n, .dct [], _ => rfl
  | n, .dct (_ :: _), h => by cases n <;> simp [el] at h
  | 0, .tup ds, h => by simp [el] at h
  | n + 1, .tup ds, h => by
    simp only [el, Bool.and_eq_true, decide_eq_true_eq, List.all_eq_true] at h ⊢
    exact ⟨h.1, fun d hd => el_up n d (h.2 d hd)⟩
  | n, .obj _ _, h => by cases n <;> simp [el] at h
  | n, .scr _, h => by cases n <;> simp [el] at h
theorem el_pl {n : Nat} {d : D} (h : el n d = true) : pl d = true ∧ sh d = true := by
  cases d with
  | obj => cases n <;> simp [el] at h
  | scr => cases n <;> simp [el] at h
  | str x =>
    have h' : okS x = true := by cases n <;> simpa only [el] using h
    simp only [okS, Bool.and_eq_true, decide_eq_true_eq] at h'
    refine ⟨rfl, ?_⟩
    simp only [sh, Bool.and_eq_true, decide_eq_true_eq]
    exact ⟨Nat.le_trans h'.1 (by decide), h'.2⟩
  | _ => exact ⟨rfl, rfl⟩
/-- what a turn tries -/
def Mat (n k : Nat) (d : D) : Prop := (∃ ds, d = .tup ds ∧ ds.length ≤ k ∧ ∀ e ∈ ds, el n e = true) ∨ (pl d = true ∧ (∀ ds, d ≠ .tup ds) ∧ ∃ z, shownD d = some z)
theorem Mat.up {n k : Nat} {d : D} (h : Mat n k d) : Mat (n + 1) k d := by
  rcases h with ⟨ds, rfl, h1, h2⟩ | h
  · exact .inl ⟨ds, rfl, h1, fun e he => el_up n e (h2 e he)⟩
  · exact .inr h
theorem Mat.more {n k k' : Nat} {d : D} (h : Mat n k d) (hk : k ≤ k') : Mat n k' d := by
  rcases h with ⟨ds, rfl, h1, h2⟩ | h
  · exact .inl ⟨ds, rfl, by omega, h2⟩
  · exact .inr h
theorem tup_shw {n k : Nat} {ds : List D} (hk : ds.length ≤ k) (h : ∀ e ∈ ds, el n e = true) : Shw 70 (n + 2) (k * (bk n + 1)) (.tup ds) :=
  (Shw.tup fun d hd => el_shw n d (h d hd)).mono (Nat.le_refl _) (Nat.mul_le_mul_right _ hk)
theorem lst_shw {n k : Nat} {ds : List D} (hk : ds.length ≤ k) (h : ∀ e ∈ ds, el n e = true) : Shw 70 (n + 2) (k * (bk n + 1)) (.lst ds) :=
  (Shw.lst fun d hd => el_shw n d (h d hd)).mono (Nat.le_refl _) (Nat.mul_le_mul_right _ hk)
theorem Mat.fair {d : D} (h : Mat 2 45 d) : ∃ b z, f_law_due [d] = some (.bl b) ∧ f_is_demand [d] = some (.bl b) ∧ shownD d = some z := by
  rcases h with ⟨ds, rfl, h1, h2⟩ | ⟨h1, h2, z, h3⟩
  · have q : ∀ d ∈ ds, pl d = true ∧ sh d = true := fun d hd => el_pl (h2 d hd)
    obtain ⟨z, hz, _⟩ := (tup_shw h1 h2).shown (by decide) (by decide) (by decide)
    exact ⟨_, z, due_eq q, dem_eq q, hz⟩
  · exact ⟨false, z, (dem_no h1 h2).2, (dem_no h1 h2).1, h3⟩
end M23
namespace M23
open PySem L2 PySem.Spec PyProof.Rows En W23
theorem pop_ok {ds : List D} {i : Int} (h0 : 0 ≤ i) (h1 : i < ds.length) : ∃ k y, seqIndex? i ds.length = some k ∧ ds[k]? = some y ∧ y ∈ ds ∧ (ds.eraseIdx k).length + 1 = ds.length ∧ ∀ z ∈ ds.eraseIdx k, z ∈ ds := by
  have h2 : i.toNat < ds.length := by omega
  refine ⟨i.toNat, ds[i.toNat], ?_, List.getElem?_eq_getElem h2, List.getElem_mem h2, ?_, fun z hz => List.mem_of_mem_eraseIdx hz⟩
  · unfold seqIndex?
    have n : ¬ i < 0 := by omega
    simp [n, h0, h1]
  · rw [List.length_eraseIdx_of_lt h2]; omega
def oneL (l : List Str) : Bool := decide (l.length = 6) && l.all okS
theorem names_gen {N : Nat} {cs : List D} (LS : List (List Str)) (hLS : LS.length = 4 ∧ LS.all oneL = true) (h : POk N cs) (hN : N + 3 < 1000000) :
    ∃ x y cs', fnI N_law_names 2 (mPick 2 3 LS (mCallI f_law_draw 0 (mCons (mC (.int 4)) mNil)) (mRet (mLc [4] (mRange dRange1 (mCons (mVar 1) mNil)) (gSet 4) mYes (mPopAt 3 (mCallI f_law_draw 0 (mCons (mLenO 3) mNil)))))) cs [.int 2] = some (.lst [.str x, .str y], cs') ∧ okS x = true ∧ okS y = true ∧ POk (N + 3) cs' := by
  obtain ⟨d1, cs1, e1, a1, b1, p1⟩ := draw_ok h (n := 4) (by omega) (by decide) (by decide)
  obtain ⟨l, hl, hm⟩ := atI_some (xs := LS) a1 (by rw [hLS.1]; exact b1)
  have ho := List.all_eq_true.mp hLS.2 l hm
  simp only [oneL, Bool.and_eq_true, decide_eq_true_eq, List.all_eq_true] at ho
  obtain ⟨d2, cs2, e2, a2, b2, p2⟩ := draw_ok p1 (n := 6) (by omega) (by decide) (by decide)
  obtain ⟨d3, cs3, e3, a3, b3, p3⟩ := draw_ok p2 (n := 5) (by omega) (by decide) (by decide)
  have lm : (l.map D.str).length = 6 := by rw [List.length_map]; exact ho.1
  have hmem : ∀ z ∈ l.map D.str, ∃ x, z = .str x ∧ okS x = true := fun z hz => by
    obtain ⟨x, hx, rfl⟩ := List.mem_map.mp hz
    exact ⟨x, rfl, ho.2 x hx⟩
  generalize hL : l.map D.str = L at lm hmem
  obtain ⟨k, y, q1, q2, q3, q4, q5⟩ := pop_ok (ds := L) a2 (by rw [lm]; exact b2)
  have lm2 : (L.eraseIdx k).length = 5 := by omega
  obtain ⟨k', y', r1, r2, r3, r4, r5⟩ := pop_ok (ds := L.eraseIdx k) a3 (by rw [lm2]; exact b3)
  obtain ⟨x, rfl, ox⟩ := hmem y q3
  obtain ⟨x', rfl, ox'⟩ := hmem y' (q5 _ r3)
  refine ⟨x, x', cs3, ?_, ox, ox', p3⟩
  rw [lm] at q1
  rw [lm2] at r1
  have g1 : (-9223372036854775808 ≤ d2 ∧ d2 < 9223372036854775808) := by omega
  have g2 : (-9223372036854775808 ≤ d3 ∧ d3 < 9223372036854775808) := by omega
  simp [fnI, entryI, mPick, mCallI, held, mCons, mC, mNil, R.bind, e1, Sl.put, R.then, hl, hL, mRet, mLc, mRange, mVar, dRange1, in62, lift, rangeD, List.range, List.range.loop, wipeE, lcD, gSet, mYes, mPopAt, mLenO, lm, lm2, e2, e3, q1, q2, r1, r2, g1, g2, sizeLine, O.valI, io0]
theorem names_ok {N : Nat} {cs : List D} (h : POk N cs) (hN : N + 3 < 1000000) : ∃ x y cs', f_law_names cs [.int 2] = some (.lst [.str x, .str y], cs') ∧ okS x = true ∧ okS y = true ∧ POk (N + 3) cs' :=
  names_gen _ ⟨rfl, by decide +kernel⟩ h hN
end M23
namespace M23
open PySem L2 PySem.Spec PyProof.Rows En W23
theorem sort2 {x y : Str} (hx : okS x = true) (hy : okS y = true) : ∃ u v, sortStr [x, y] = [u, v] ∧ okS u = true ∧ okS v = true := by
  have hl : (sortStr [x, y]).length = 2 := by unfold sortStr; rw [List.length_mergeSort]; rfl
  have hm : ∀ z ∈ sortStr [x, y], okS z = true := fun z hz => by
    unfold sortStr at hz
    rw [List.mem_mergeSort] at hz
    simp only [List.mem_cons, List.not_mem_nil, or_false] at hz
    rcases hz with rfl | rfl <;> assumption
  match sortStr [x, y], hl, hm with
  | [u, v], _, hm => exact ⟨u, v, rfl, hm u (by simp), hm v (by simp)⟩
def drawE (i : Nat) (n : Int) : ME := mCallI f_law_draw i (mCons (mC (.int n)) mNil)
theorem drawE_ok {N : Nat} {cs : List D} {n : Int} (r : En.Env) (h : POk N cs) (hN : N < 1000000) (hn : 0 < n) (hn2 : n < 1073741824) :
    ∃ d cs', drawE 0 n (.io cs :: r) = .ok (.int d) (.io cs' :: r) ∧ 0 ≤ d ∧ d < n ∧ POk (N + 1) cs' := by
  obtain ⟨d, cs', e, a, b, p⟩ := draw_ok h hN hn hn2
  refine ⟨d, cs', ?_, a, b, p⟩
  simp [drawE, mCallI, held, mCons, mC, mNil, R.bind, e, Sl.put]
/-- one of a written list, drawn -/
theorem oneOf {N : Nat} {cs : List D} {n : Int} {L : ME} {xs : List D} (r : En.Env) (hL : ∀ ρ, L ρ = .ok (.lst xs) ρ) (hx : n = xs.length) (h : POk N cs) (hN : N < 1000000) (hn : 0 < n) (hn2 : n < 1073741824) :
    ∃ x cs', mOp (pur dIx) L (drawE 0 n) (.io cs :: r) = .ok x (.io cs' :: r) ∧ x ∈ xs ∧ POk (N + 1) cs' := by
  obtain ⟨d, cs', e, a, b, p⟩ := drawE_ok r h hN hn hn2
  obtain ⟨x, hx', hm⟩ := atI_some (xs := xs) a (by rw [← hx]; exact b)
  refine ⟨x, cs', ?_, hm, p⟩
  simp [mOp, hL, R.bind, e, pur, dIx, hx', lift]
def L4 : ME := mLst (mCons (mC (.int 1)) (mCons (mC (.int 2)) (mCons (mC (.int 24)) (mCons (mOp (pur dPow) (mC (.int 10)) (mC (.int 59))) mNil))))
def L8 : ME := mLst (mCons (mC (.int 0)) (mCons (mC (.int 1)) (mCons (mC (.int 2)) (mCons (mC (.int 3)) (mCons (mC (.int 3)) (mCons (mC (.int 3)) (mCons (mC (.int 2)) (mCons (mC (.int 3)) mNil))))))))
def askE : ME := mOp (pur dIx) L4 (drawE 0 4)
def pickE : ME := mOp (pur dIx) L8 (drawE 0 8)
def nameE : ME := mCallI f_law_names 0 (mCons (mC (.int 2)) mNil)
theorem L4_eq (ρ : En.Env) : L4 ρ = .ok (.lst [.int 1, .int 2, .int 24, .int (10 ^ 59)]) ρ := by
  simp [L4, mLst, mCons, mC, mNil, mOp, R.bind, pur, dPow, dI, lift, sizeLine]
theorem L8_eq (ρ : En.Env) : L8 ρ = .ok (.lst [.int 0, .int 1, .int 2, .int 3, .int 3, .int 3, .int 2, .int 3]) ρ := by
  simp [L8, mLst, mCons, mC, mNil, R.bind, sizeLine]
theorem askE_ok {N : Nat} {cs : List D} (r : En.Env) (h : POk N cs) (hN : N < 1000000) : ∃ i cs', askE (.io cs :: r) = .ok (.int i) (.io cs' :: r) ∧ okI i = true ∧ POk (N + 1) cs' := by
  obtain ⟨x, cs', e, m, p⟩ := oneOf r L4_eq rfl h hN (by decide) (by decide)
  simp only [List.mem_cons, List.not_mem_nil, or_false] at m
  rcases m with rfl | rfl | rfl | rfl <;> exact ⟨_, cs', e, by decide +kernel, p⟩
theorem pickE_ok {N : Nat} {cs : List D} (r : En.Env) (h : POk N cs) (hN : N < 1000000) : ∃ (i : Int) (cs' : List D), pickE (.io cs :: r) = .ok (.int i) (.io cs' :: r) ∧ (0 ≤ i ∧ i < 4) ∧ POk (N + 1) cs' := by
  obtain ⟨x, cs', e, m, p⟩ := oneOf r L8_eq rfl h hN (by decide) (by decide)
  simp only [List.mem_cons, List.not_mem_nil, or_false] at m
  rcases m with rfl | rfl | rfl | rfl | rfl | rfl | rfl | rfl <;> exact ⟨_, cs', e, by decide, p⟩
theorem nameE_ok {N : Nat} {cs : List D} (r : En.Env) (h : POk N cs) (hN : N + 3 < 1000000) : ∃ x y cs', nameE (.io cs :: r) = .ok (.lst [.str x, .str y]) (.io cs' :: r) ∧ okS x = true ∧ okS y = true ∧ POk (N + 3) cs' := by
  obtain ⟨x, y, cs', e, a, b, p⟩ := names_ok h hN
  refine ⟨x, y, cs', ?_, a, b, p⟩
  simp [nameE, mCallI, held, mCons, mC, mNil, R.bind, e, Sl.put]
theorem right_eq : m_law_right_one = (mSeq (mAsg (mCB dSortS (mCons nameE mNil)) (gSet 1))
    (mSeq (mAsg (mLc [4] (mRange dRange1 (mCons (mC (.int 2)) mNil)) (gSet 4) mYes askE) (gSet 2))
    (mSeq (mAsg (mLst (mCons (mTup (mCons (mC (.str "nothing")) mNil)) (mCons (mTup (mCons (mC (.str "starved")) mNil)) (mCons (mTup (mCons (mC (.str "one")) (mCons (mOp (pur dIx) (mVar 1) (mC (.int 0))) (mCons (mOp (pur dIx) (mVar 2) (mC (.int 0))) mNil)))) (mCons (mTup (mCons (mC (.str "either")) (mCons (mOp (pur dIx) (mVar 1) (mC (.int 0))) (mCons (mOp (pur dIx) (mVar 2) (mC (.int 0))) (mCons (mOp (pur dIx) (mVar 1) (mC (.int 1))) (mCons (mOp (pur dIx) (mVar 2) (mC (.int 1))) mNil)))))) mNil))))) (gSet 3))
    (mRet (mOp (pur dIx) (mVar 3) pickE))))) := rfl
theorem right_ok {N : Nat} {cs : List D} (h : POk N cs) (hN : N + 6 < 1000000) : ∃ d cs', f_law_right_one cs [] = some (d, cs') ∧ Mat 0 5 d ∧ POk (N + 6) cs' := by
  obtain ⟨x, y, cs1, e1, ox, oy, p1⟩ := nameE_ok [.emp, .emp, .emp, .emp] h (by omega)
  obtain ⟨u, v, hs, ou, ov⟩ := sort2 ox oy
  obtain ⟨i, cs2, e2, oi, p2⟩ := askE_ok [.dat (.lst [.str u, .str v]), .emp, .emp, .dat (.int 0)] p1 (by omega)
  obtain ⟨j, cs3, e3, oj, p3⟩ := askE_ok [.dat (.lst [.str u, .str v]), .emp, .emp, .dat (.int 1)] p2 (by omega)
  let some3 : List D := [.tup [.str "nothing"], .tup [.str "starved"], .tup [.str "one", .str u, .int i], .tup [.str "either", .str u, .int i, .str v, .int j]]
  obtain ⟨k, cs4, e4, ok, p4⟩ := pickE_ok [.dat (.lst [.str u, .str v]), .dat (.lst [.int i, .int j]), .dat (.lst some3), .emp] p3 (by omega)
  obtain ⟨d, hd, hm⟩ := atI_some (xs := some3) ok.1 (by exact ok.2)
  refine ⟨d, cs4, ?_, ?_, p4⟩
  · unfold f_law_right_one
    rw [right_eq]
    simp only [some3] at e4 hd
    simp [fnI, entryI, mSeq, O.seq, mAsg, R.then, mCB, mCons, mNil, R.bind, e1, dSortS, strsD, hs, lift, gSet, optO, mLc, mRange, mC, dRange1, in62, rangeD, List.range, List.range.loop, wipeE, lcD, mYes, e2, e3, sizeLine, mLst, mTup, mOp, mVar, pur, dIx, at2_0, at2_1, mRet, e4, hd, O.valI, io0]
  · simp only [some3, List.mem_cons, List.not_mem_nil, or_false] at hm
    have o1 : el 0 (.str "nothing") = true := by decide +kernel
    have o2 : el 0 (.str "starved") = true := by decide +kernel
    have o3 : el 0 (.str "one") = true := by decide +kernel
    have o4 : el 0 (.str "either") = true := by decide +kernel
    have o5 : el 0 (.str u) = true := ou
    have o6 : el 0 (.str v) = true := ov
    have o7 : el 0 (.int i) = true := oi
    have o8 : el 0 (.int j) = true := oj
    rcases hm with rfl | rfl | rfl | rfl
    · exact .inl ⟨_, rfl, by simp, fun e he => by simp at he; subst he; exact o1⟩
    · exact .inl ⟨_, rfl, by simp, fun e he => by simp at he; subst he; exact o2⟩
    · exact .inl ⟨_, rfl, by simp, fun e he => by simp at he; rcases he with rfl | rfl | rfl <;> assumption⟩
    · exact .inl ⟨_, rfl, by simp, fun e he => by simp at he; rcases he with rfl | rfl | rfl | rfl | rfl <;> assumption⟩
end M23
namespace M23
open PySem L2 PySem.Spec PyProof.Rows En W23
/-- a tuple of parts -/
def TT (n k : Nat) (ρ : En.Env) (ma : ME) : Prop := ∃ ds, ma ρ = .ok (.tup ds) ρ ∧ ds.length ≤ k ∧ ∀ e ∈ ds, el n e = true
def MM (n k : Nat) (ρ : En.Env) (ma : ME) : Prop := ∃ d, ma ρ = .ok d ρ ∧ Mat n k d
def ML (n k m : Nat) (ρ : En.Env) (ma : MA) : Prop := ∃ ds, ma ρ = .ok ds ρ ∧ ds.length = m ∧ ∀ d ∈ ds, Mat n k d
section
variable {n k k' m : Nat} {ρ : En.Env} {ma mb : ME} {mas : MA}
theorem TT.mm (h : TT n k ρ ma) (hk : k ≤ k') : MM n k' ρ ma := by
  obtain ⟨ds, e, h1, h2⟩ := h
  exact ⟨_, e, .inl ⟨ds, rfl, by omega, h2⟩⟩
theorem TT.add (h : TT n k ρ ma) (h' : TT n k' ρ mb) (hk : k + k' ≤ 1000) : TT n (k + k') ρ (mOp (pur dAdd) ma mb) := by
  obtain ⟨ds, e, h1, h2⟩ := h
  obtain ⟨ds', e', h1', h2'⟩ := h'
  have hl : ds.length + ds'.length ≤ sizeLine := Nat.le_trans (by omega : _ ≤ 1000) (by decide)
  refine ⟨ds ++ ds', ?_, by rw [List.length_append]; omega, fun x hx => (List.mem_append.mp hx).elim (h2 x) (h2' x)⟩
  simp [mOp, e, e', R.bind, pur, dAdd, hl, lift]
theorem cut_sub {α : Type} {xs : List α} {lo hi : Option Int} : ∀ x ∈ cutL xs lo hi, x ∈ xs := fun x hx => List.mem_of_mem_drop (List.mem_of_mem_take hx)
theorem cut_len {α : Type} {xs : List α} {lo hi : Option Int} : (cutL xs lo hi).length ≤ xs.length := by
  unfold cutL
  rw [List.length_take, List.length_drop]; omega
theorem TT.sl {ml mh : MO} {lo hi : Option Int} (h : TT n k ρ ma) (hl : ml ρ = .ok lo ρ) (hh : mh ρ = .ok hi ρ) : TT n k ρ (mSl ma ml mh) := by
  obtain ⟨ds, e, h1, h2⟩ := h
  refine ⟨cutL ds lo hi, ?_, Nat.le_trans cut_len h1, fun x hx => h2 x (cut_sub x hx)⟩
  simp [mSl, e, hl, hh, R.bind, dSl, lift]
theorem TT.rev (h : TT n k ρ ma) : TT n k ρ (mRevT ma) := by
  obtain ⟨ds, e, h1, h2⟩ := h
  refine ⟨ds.reverse, ?_, by rw [List.length_reverse]; exact h1, fun x hx => h2 x (List.mem_reverse.mp hx)⟩
  simp [mRevT, e, R.bind]
theorem TT.one {d : D} (h : ma ρ = .ok d ρ) (hd : el n d = true) : TT n 1 ρ (mTup (mCons ma mNil)) := by
  refine ⟨[d], ?_, Nat.le_refl _, fun x hx => by simp at hx; subst hx; exact hd⟩
  simp [mTup, mCons, mNil, h, R.bind, sizeLine]
theorem TT.up (h : TT n k ρ ma) : TT (n + 1) k ρ ma := by
  obtain ⟨ds, e, h1, h2⟩ := h
  exact ⟨ds, e, h1, fun x hx => el_up n x (h2 x hx)⟩
theorem ML.nil : ML n k 0 ρ mNil := ⟨[], rfl, rfl, fun _ h => by cases h⟩
theorem ML.cons (h : MM n k ρ ma) (h' : ML n k m ρ mas) : ML n k (m + 1) ρ (mCons ma mas) := by
  obtain ⟨d, e, h1⟩ := h
  obtain ⟨ds, e', h2, h3⟩ := h'
  refine ⟨d :: ds, ?_, by rw [List.length_cons, h2], fun x hx => ?_⟩
  · simp [mCons, e, e', R.bind]
  · rcases List.mem_cons.mp hx with rfl | hx
    · exact h1
    · exact h3 x hx
end
def O17 : ME := (mLst (mCons (mC .non) (mCons (mC (.bl true)) (mCons (mC (.bl false)) (mCons (mC (.int 0)) (mCons (mUn dNeg (mC (.int 1))) (mCons (mC (.int 1)) (mCons (mC (.str "one")) (mCons (mC (.str "either")) (mCons (mC (.str "")) (mCons (mC (.str "x")) (mCons (mC (.str "self")) (mCons (mC (.str "X")) (mCons (mC (.str "abcdefghi")) (mCons (mC (.str "x1")) (mCons (mC (.str " x")) (mCons (mTup (mCons (mC (.str "x")) (mCons (mC (.int 1)) mNil))) (mCons (mLst mNil) mNil))))))))))))))))))
def O6 : ME := (mLst (mCons (mC (.dct [])) (mCons (mC (.str "nothing")) (mCons (mC (.str "starved")) (mCons (mC (.str "1")) (mCons (mOp (pur dPow) (mC (.int 10)) (mC (.int 59))) (mCons (mC (.str "x\n")) mNil)))))))
def o17 : List D := [.non, .bl true, .bl false, .int 0, .int (-1), .int 1, .str "one", .str "either", .str "", .str "x", .str "self", .str "X", .str "abcdefghi", .str "x1", .str " x", .tup [.str "x", .int 1], .lst []]
def o6 : List D := [.dct [], .str "nothing", .str "starved", .str "1", .int (10 ^ 59), .str "x\n"]
theorem O17_eq (ρ : En.Env) : O17 ρ = .ok (.lst o17) ρ := by
  simp [O17, o17, mLst, mCons, mC, mNil, mUn, dNeg, R.bind, sizeLine, lift, mTup]
theorem O6_eq (ρ : En.Env) : O6 ρ = .ok (.lst o6) ρ := by
  simp [O6, o6, mLst, mCons, mC, mNil, mOp, R.bind, pur, dPow, dI, lift, sizeLine]
theorem odd_el : (o17 ++ o6).all (el 1) = true := by decide +kernel
theorem el_10 {n : Nat} {d : D} (h : el 1 d = true) : el (n + 1) d = true := by
  induction n with
  | zero => exact h
  | succ n ih => exact el_up _ _ ih
def A3 : MA := (mCons (mOp (pur dAdd) (mOp (pur dAdd) (mSl (mVar 1) (mC none) (mPart (mVar 2))) (mTup (mCons (mVar 4) mNil))) (mSl (mVar 1) (mPart (mOp (pur dAdd) (mVar 2) (mC (.int 1)))) (mC none))) (mCons (mOp (pur dAdd) (mOp (pur dAdd) (mSl (mVar 1) (mC none) (mPart (mVar 2))) (mTup (mCons (mVar 4) mNil))) (mSl (mVar 1) (mPart (mVar 2)) (mC none))) (mCons (mOp (pur dAdd) (mSl (mVar 1) (mC none) (mPart (mVar 2))) (mSl (mVar 1) (mPart (mOp (pur dAdd) (mVar 2) (mC (.int 1)))) (mC none))) mNil)))
def B5 : MA := (mCons (mCB dList (mCons (mVar 1) mNil)) (mCons (mOp (pur dAdd) (mOp (pur dAdd) (mSl (mVar 1) (mC none) (mPart (mC (.int 1)))) (mSl (mVar 1) (mPart (mC (.int 3))) (mC none))) (mSl (mVar 1) (mPart (mC (.int 1))) (mPart (mC (.int 3))))) (mCons (mOp (pur dAdd) (mVar 1) (mSl (mVar 1) (mPart (mC (.int 1))) (mC none))) (mCons (mRevT (mVar 1)) (mCons (mCB dStr (mCons (mVar 1) mNil)) mNil)))))
def C5 : MA := (mCons (mVar 4) (mCons (mTup (mCons (mVar 1) mNil)) (mCons (mOp (pur dAdd) (mOp (pur dAdd) (mSl (mVar 1) (mC none) (mPart (mC (.int 1)))) (mSl (mVar 1) (mPart (mC (.int 1))) (mPart (mC (.int 3))))) (mSl (mVar 1) (mPart (mC (.int 1))) (mPart (mC (.int 3))))) (mCons (mSl (mVar 1) (mC none) (mPart (mC (.int 3)))) (mCons (mDict1 "x" (mC (.int 1))) mNil)))))
def lenE (i : Nat) : ME := mCallI f_law_draw 0 (mCons (mCB dLen (mCons (mVar i) mNil)) mNil)
theorem bent_eq : m_law_bent = (mSeq (mAsg (lenE 1) (gSet 2)) (mSeq (mAsg O17 (gSet 3)) (mSeq (mAsg (mOp (pur dAdd) (mVar 3) O6) (gSet 3)) (mSeq (mAsg (mOp (pur dIx) (mVar 3) (lenE 3)) (gSet 4)) (mSeq (mAsg (mLst A3) (gSet 5)) (mSeq (mAsg (mOp (pur dAdd) (mVar 5) (mLst B5)) (gSet 5)) (mSeq (mAsg (mOp (pur dAdd) (mVar 5) (mLst C5)) (gSet 5)) (mRet (mOp (pur dIx) (mVar 5) (lenE 5)))))))))) := rfl
theorem lists_ok {n k : Nat} {ds : List D} {cs : List D} {at' : Int} {odd part : D} {s5 : Sl} (hn : n ≤ 1) (hk : k ≤ 15) (hk1 : 1 ≤ k) (h1 : ds.length ≤ k) (h2 : ∀ e ∈ ds, el n e = true) (hm : part ∈ o17 ++ o6) :
    ML (n + 1) (3 * k) 3 [.io cs, .dat (.tup ds), .dat (.int at'), .dat odd, .dat part, s5] A3 ∧ ML (n + 1) (3 * k) 5 [.io cs, .dat (.tup ds), .dat (.int at'), .dat odd, .dat part, s5] B5 ∧ ML (n + 1) (3 * k) 5 [.io cs, .dat (.tup ds), .dat (.int at'), .dat odd, .dat part, s5] C5 := by
  have hp : el (n + 1) part = true := el_10 (List.all_eq_true.mp odd_el _ hm)
  generalize hρ : [Sl.io cs, .dat (.tup ds), .dat (.int at'), .dat odd, .dat part, s5] = ρ
  have v1 : mVar 1 ρ = .ok (.tup ds) ρ := by subst hρ; rfl
  have v2 : mVar 2 ρ = .ok (.int at') ρ := by subst hρ; rfl
  have v4 : mVar 4 ρ = .ok part ρ := by subst hρ; rfl
  have t0 : TT n k ρ (mVar 1) := ⟨ds, v1, h1, h2⟩
  have t : TT (n + 1) k ρ (mVar 1) := t0.up
  have c0 : (mC none : MO) ρ = .ok none ρ := rfl
  have p2 : mPart (mVar 2) ρ = .ok (some at') ρ := by simp [mPart, v2, R.bind]
  have p2' : mPart (mOp (pur dAdd) (mVar 2) (mC (.int 1))) ρ = .ok (some (at' + 1)) ρ := by simp [mPart, mOp, mC, v2, R.bind, pur, dAdd, lift]
  have pc : ∀ i : Int, mPart (mC (.int i)) ρ = .ok (some i) ρ := fun i => rfl
  have one := TT.one v4 hp
  refine ⟨?_, ?_, ?_⟩
  · exact .cons (((t.sl c0 p2).add one (by omega)).add (t.sl p2' c0) (by omega) |>.mm (by omega)) (.cons (((t.sl c0 p2).add one (by omega)).add (t.sl p2 c0) (by omega) |>.mm (by omega)) (.cons ((t.sl c0 p2).add (t.sl p2' c0) (by omega) |>.mm (by omega)) .nil))
  · refine .cons ?_ (.cons (((t.sl c0 (pc 1)).add (t.sl (pc 3) c0) (by omega)).add (t.sl (pc 1) (pc 3)) (by omega) |>.mm (by omega)) (.cons (t.add (t.sl (pc 1) c0) (by omega) |>.mm (by omega)) (.cons (t.rev.mm (by omega)) (.cons ?_ .nil))))
    · obtain ⟨z, hz, _⟩ := ((lst_shw h1 h2).mono (n' := 3) (b' := 2940) (by omega) (by
        have : bk n ≤ 195 := by
          have : n = 0 ∨ n = 1 := by omega
          rcases this with rfl | rfl <;> decide
        exact Nat.le_trans (Nat.mul_le_mul hk (Nat.add_le_add_right this 1)) (by decide))).shown (by decide) (by decide) (by decide)
      refine ⟨.lst ds, by simp [mCB, mCons, mNil, v1, R.bind, dList, lift], .inr ⟨rfl, (fun _ h => by cases h), z, hz⟩⟩
    · obtain ⟨z, hz, hl, hw⟩ := ((tup_shw h1 h2).mono (n' := 3) (b' := 2940) (by omega) (by
        have : bk n ≤ 195 := by
          have : n = 0 ∨ n = 1 := by omega
          rcases this with rfl | rfl <;> decide
        exact Nat.le_trans (Nat.mul_le_mul hk (Nat.add_le_add_right this 1)) (by decide))).shown (by decide) (by decide) (by decide)
      obtain ⟨z', hz', _⟩ := ((Shw.str (B := 70) hw).mono (Nat.le_refl _) hl).shown (by decide) (by decide) (by decide)
      exact ⟨.str z, by simp [mCB, mCons, mNil, v1, R.bind, dStr, D.isRef, hz, lift], .inr ⟨rfl, (fun _ h => by cases h), z', hz'⟩⟩
  · refine .cons ?_ (.cons ?_ (.cons (((t.sl c0 (pc 1)).add (t.sl (pc 1) (pc 3)) (by omega)).add (t.sl (pc 1) (pc 3)) (by omega) |>.mm (by omega)) (.cons ((t.sl c0 (pc 3)).mm (by omega)) (.cons ?_ .nil))))
    · refine ⟨part, v4, ?_⟩
      by_cases hq : ∃ es, part = .tup es
      · obtain ⟨es, rfl⟩ := hq
        have h3 : es.length ≤ 2 := by
          simp [o17, o6] at hm
          rw [hm]; decide
        simp only [el, Bool.and_eq_true, decide_eq_true_eq, List.all_eq_true] at hp
        exact .inl ⟨es, rfl, by omega, fun e he => el_up _ _ (hp.2 e he)⟩
      · obtain ⟨z, hz, _⟩ := ((el_shw _ _ hp).mono (n' := 3) (b' := 2940) (by omega) (by
          have : n = 0 ∨ n = 1 := by omega
          rcases this with rfl | rfl <;> decide)).shown (by decide) (by decide) (by decide)
        exact .inr ⟨(el_pl hp).1, fun es e => hq ⟨es, e⟩, z, hz⟩
    · refine (TT.one v1 ?_).mm (by omega)
      simp only [el, Bool.and_eq_true, decide_eq_true_eq, List.all_eq_true]
      exact ⟨by omega, h2⟩
    · have hx : Shw 70 1 5 (.dct [(.inr "x", .int 1)]) := ⟨.dict [(.str "x", .int 1)], rfl, by decide +kernel, by decide +kernel, by decide +kernel, by decide +kernel⟩
      obtain ⟨z, hz, _⟩ := hx.shown (by decide) (by decide) (by decide)
      exact ⟨_, rfl, .inr ⟨rfl, (fun _ h => by cases h), z, hz⟩⟩
theorem lenE_ok {N : Nat} {cs : List D} {n : Nat} {d : D} (i : Nat) (r : En.Env) (hd : mVar i (.io cs :: r) = .ok d (.io cs :: r)) (hl : dLen [d] = some (.int n)) (h : POk N cs) (hN : N < 1000000) (hn : 0 < n) (hn2 : n < 1073741824) :
    ∃ (j : Int) (cs' : List D), lenE i (.io cs :: r) = .ok (.int j) (.io cs' :: r) ∧ 0 ≤ j ∧ j < n ∧ POk (N + 1) cs' := by
  obtain ⟨j, cs', e, a, b, p⟩ := draw_ok h hN (n := n) (by omega) (by omega)
  refine ⟨j, cs', ?_, a, b, p⟩
  simp [lenE, mCallI, held, mCB, mCons, mNil, hd, R.bind, hl, lift, e, Sl.put]
theorem bent_ok {N n k : Nat} {cs ds : List D} (hn : n ≤ 1) (hk : k ≤ 15) (hk1 : 1 ≤ k) (h0 : ds ≠ []) (h1 : ds.length ≤ k) (h2 : ∀ e ∈ ds, el n e = true) (h : POk N cs) (hN : N + 3 < 1000000) :
    ∃ d cs', f_law_bent cs [.tup ds] = some (d, cs') ∧ Mat (n + 1) (3 * k) d ∧ POk (N + 3) cs' := by
  have hp : 0 < ds.length := List.length_pos_iff.mpr h0
  obtain ⟨at', cs1, e1, _, _, p1⟩ := lenE_ok (n := ds.length) (d := .tup ds) 1 [.dat (.tup ds), .emp, .emp, .emp, .emp] rfl rfl h (by omega) hp (by omega)
  obtain ⟨j, cs2, e2, j0, j1, p2⟩ := lenE_ok (n := 23) (d := .lst (o17 ++ o6)) 3 [.dat (.tup ds), .dat (.int at'), .dat (.lst (o17 ++ o6)), .emp, .emp] rfl rfl p1 (by omega) (by omega) (by omega)
  obtain ⟨part, hpart, hm⟩ := atI_some (xs := o17 ++ o6) j0 j1
  obtain ⟨⟨as, a1, a2, a3⟩, _⟩ := lists_ok (cs := cs2) (at' := at') (odd := .lst (o17 ++ o6)) (s5 := .emp) hn hk hk1 h1 h2 hm
  obtain ⟨_, ⟨bs, b1, b2, b3⟩, _⟩ := lists_ok (cs := cs2) (at' := at') (odd := .lst (o17 ++ o6)) (s5 := .dat (.lst as)) hn hk hk1 h1 h2 hm
  obtain ⟨_, _, ⟨gs, g1, g2, g3⟩⟩ := lists_ok (cs := cs2) (at' := at') (odd := .lst (o17 ++ o6)) (s5 := .dat (.lst (as ++ bs))) hn hk hk1 h1 h2 hm
  have ln : (as ++ bs ++ gs).length = 13 := by rw [List.length_append, List.length_append]; omega
  obtain ⟨z, cs3, e3, z0, z1, p3⟩ := lenE_ok (n := 13) (d := .lst (as ++ bs ++ gs)) 5 [.dat (.tup ds), .dat (.int at'), .dat (.lst (o17 ++ o6)), .dat part, .dat (.lst (as ++ bs ++ gs))] rfl (by rw [dLen, ln]) p2 (by omega) (by omega) (by omega)
  obtain ⟨d, hd, hdm⟩ := atI_some (xs := as ++ bs ++ gs) z0 (by rw [ln]; exact z1)
  refine ⟨d, cs3, ?_, ?_, p3⟩
  · have oa : dAdd (.lst o17) (.lst o6) = some (.lst (o17 ++ o6)) := rfl
    have ob : dAdd (.lst as) (.lst bs) = some (.lst (as ++ bs)) := by
      simp [dAdd, a2, b2, sizeLine]
    have oc : dAdd (.lst (as ++ bs)) (.lst gs) = some (.lst (as ++ bs ++ gs)) := by
      simp [dAdd, a2, b2, g2, sizeLine]
    have la : as.length ≤ sizeLine := by rw [a2]; decide
    have lb : bs.length ≤ sizeLine := by rw [b2]; decide
    have lg : gs.length ≤ sizeLine := by rw [g2]; decide
    generalize o17 ++ o6 = od at *
    generalize hq : as ++ bs ++ gs = al at *
    generalize hq2 : as ++ bs = ab at *
    have O17e := O17_eq
    have O6e := O6_eq
    unfold f_law_bent
    rw [bent_eq]
    simp [fnI, entryI, mSeq, O.seq, mAsg, R.then, e1, gSet, optO, O17e, O6e, mOp, mVar, R.bind, pur, oa, lift, e2, dIx, hpart, mLst, a1, la, b1, lb, ob, g1, lg, oc, mRet, e3, hd, O.valI, io0]
  · rcases List.mem_append.mp hdm with q | q
    · rcases List.mem_append.mp q with q | q
      · exact a3 d q
      · exact b3 d q
    · exact g3 d q
end M23
namespace M23
open PySem L2 PySem.Spec PyProof.Rows En W23
theorem forD_inv {mg : D → En.Env → Option En.Env} {body : MS} (I : Nat → En.Env → Prop) : ∀ (ds : List D) (j : Nat) (ρ : En.Env),
    (∀ i d ρ, j ≤ i → i < j + ds.length → I i ρ → ∃ ρ1 ρ2, mg d ρ = some ρ1 ∧ body ρ1 = .nx ρ2 ∧ I (i + 1) ρ2) → I j ρ → ∃ ρ', forD mg body ds ρ = .nx ρ' ∧ I (j + ds.length) ρ'
  | [], j, ρ, _, h => ⟨ρ, rfl, h⟩
  | d :: ds, j, ρ, hs, h => by
    obtain ⟨ρ1, ρ2, e1, e2, h1⟩ := hs j d ρ (Nat.le_refl _) (by rw [List.length_cons]; omega) h
    obtain ⟨ρ', e3, h2⟩ := forD_inv I ds (j + 1) ρ2 (fun i d ρ a b => hs i d ρ (by omega) (by rw [List.length_cons]; omega)) h1
    refine ⟨ρ', ?_, ?_⟩
    · simp only [forD, e1, e2, e3]
    · rw [List.length_cons, show j + (ds.length + 1) = j + 1 + ds.length by omega]; exact h2
def cntE : ME := (mOp (pur dIx) (mLst (mCons (mC (.int 0)) (mCons (mC (.int 1)) (mCons (mC (.int 1)) (mCons (mC (.int 2)) mNil))))) (mCallI f_law_draw 1 (mCons (mC (.int 4)) mNil)))
def innS : MS := (mAsg (mIfE (mAnd (mTru (mUn (dIsi .tup) (mVar 4))) (mTB (mOp (pur dNeX) (mVar 4) (mTup mNil)))) (mCallI f_law_bent 1 (mCons (mVar 4) mNil)) (mVar 4)) (gSet 4))
def tailS : MS := (mSeq (mAsg (mCB dRepr (mCons (mVar 4) mNil)) (gSet 6))
    (mSeq (mAsg (mCB f_law_due (mCons (mVar 4) mNil)) (gSet 7))
    (mIf (mOr (mTB (mOp (pur dNeX) (mCB dRepr (mCons (mCB f_is_demand (mCons (mVar 4) mNil)) mNil)) (mCB dRepr (mCons (mVar 7) mNil)))) (mOr (mTB (mOp (pur dNeX) (mCB dRepr (mCons (mCallKw 0 1 f_is_demand mNil (mCons (mVar 4) mNil)) mNil)) (mCB dRepr (mCons (mVar 7) mNil)))) (mTB (mOp (pur dNeX) (mCB dRepr (mCons (mVar 4) mNil)) (mVar 6))))) (mRet (mC (.bl false))) mNext)))
def bodyS : MS := (mSeq (mAsg (mCallI f_law_right_one 1 mNil) (gSet 4)) (mSeq (mFor (mRange dRange1 (mCons cntE mNil)) (gSet 5) innS) tailS))
def a5 : ME := (mLst (mCons (mTup (mCons (mC (.str "either")) (mCons (mC (.str "x")) (mCons (mC (.int 1)) (mCons (mC (.str "x")) (mCons (mC (.int 1)) mNil)))))) (mCons (mTup (mCons (mC (.str "either")) (mCons (mC (.str "y")) (mCons (mC (.int 1)) (mCons (mC (.str "x")) (mCons (mC (.int 1)) mNil)))))) (mCons (mTup (mCons (mC (.str "one")) (mCons (mC (.str "x")) (mCons (mC (.bl true)) mNil)))) (mCons (mTup (mCons (mC (.str "one")) (mCons (mC (.str "x")) (mCons (mC (.int 0)) mNil)))) (mCons (mTup (mCons (mC (.str "nothing")) (mCons (mC (.int 1)) mNil))) mNil))))))
def a7 : ME := (mLst (mCons (mTup (mCons (mC (.str "one")) (mCons (mC (.str "self")) (mCons (mC (.int 1)) mNil)))) (mCons (mTup (mCons (mC (.str "one")) (mCons (mC (.str "x")) mNil))) (mCons (mLst (mCons (mC (.str "nothing")) mNil)) (mCons (mC (.str "nothing")) (mCons (mTup mNil) (mCons (mTup (mCons (mC (.str "Nothing")) mNil)) (mCons (mTup (mCons (mC (.str "starved")) (mCons (mC (.str "x")) (mCons (mC (.int 1)) mNil)))) mNil))))))))
def l5 : List D := [.tup [.str "either", .str "x", .int 1, .str "x", .int 1], .tup [.str "either", .str "y", .int 1, .str "x", .int 1], .tup [.str "one", .str "x", .bl true], .tup [.str "one", .str "x", .int 0], .tup [.str "nothing", .int 1]]
def l7 : List D := [.tup [.str "one", .str "self", .int 1], .tup [.str "one", .str "x"], .lst [.str "nothing"], .str "nothing", .tup [], .tup [.str "Nothing"], .tup [.str "starved", .str "x", .int 1]]
def lcE : ME := (mLc [4] (mItems (mVar 3)) (gSet 4) (mTB (mOp (pur dIsNot) (mCB f_is_demand (mCons (mVar 4) mNil)) (mC (.bl false)))) (mVar 4))
def e1E : ME := (mTup (mCons (mC (.str "either")) (mCons (mC (.str "x")) (mCons (mC (.int 1)) (mCons (mC (.str "xx")) (mCons (mC (.int 1)) mNil))))))
def e2E : ME := (mTup (mCons (mC (.str "one")) (mCons (mC (.str "in")) (mCons (mOp (pur dPow) (mC (.int 10)) (mC (.int 60))) mNil))))
theorem law_eq : m_law = (mSeq (mOwnCall 1 f_law_pen (mCons (mVar 0) mNil)) (mSeq (mFor (mRange dRange1 (mCons (mC (.int 12)) mNil)) (gSet 2) bodyS) (mSeq (mAsg a5 (gSet 3)) (mSeq (mAsg (mOp (pur dAdd) (mVar 3) a7) (gSet 3)) (mSeq (mIf (mTB (mOp (pur dNeX) lcE (mLst mNil))) (mRet (mC (.bl false))) mNext)
    (mRet (mAndV (mOp (pur dIsN) (mCB f_is_demand (mCons e1E mNil)) (mC (.bl true))) (mOp (pur dIsN) (mCB f_is_demand (mCons e2E mNil)) (mC (.bl true)))))))))) := rfl
theorem a5_eq (ρ : En.Env) : a5 ρ = .ok (.lst l5) ρ := by
  simp [a5, l5, mLst, mTup, mCons, mC, mNil, R.bind, sizeLine]
theorem a7_eq (ρ : En.Env) : a7 ρ = .ok (.lst l7) ρ := by
  simp [a7, l7, mLst, mTup, mCons, mC, mNil, R.bind, sizeLine]
theorem dem_const (ds : List D) (h : ds.all (fun d => pl d && sh d) = true) (b : Bool) (hb : demandB (.tup ds) = b) : f_is_demand [.tup ds] = some (.bl b) := by
  rw [← hb]
  refine dem_eq fun d hd => ?_
  have := List.all_eq_true.mp h d hd
  simpa only [Bool.and_eq_true] using this
theorem all_no : ∀ d ∈ l5 ++ l7, f_is_demand [d] = some (.bl false) := fun d hd => by
  simp only [l5, l7, List.cons_append, List.nil_append, List.mem_cons, List.not_mem_nil, or_false] at hd
  rcases hd with rfl | rfl | rfl | rfl | rfl | rfl | rfl | rfl | rfl | rfl | rfl | rfl <;>
    first | exact dem_const _ (by decide +kernel) _ (by decide +kernel) | exact (dem_no rfl (fun _ h => by cases h)).1
theorem e1_eq (ρ : En.Env) : mCB f_is_demand (mCons e1E mNil) ρ = .ok (.bl true) ρ := by
  have h := dem_const [.str "either", .str "x", .int 1, .str "xx", .int 1] (by decide +kernel) true (by decide +kernel)
  have e : e1E ρ = .ok (.tup [.str "either", .str "x", .int 1, .str "xx", .int 1]) ρ := by simp [e1E, mTup, mCons, mC, mNil, R.bind, sizeLine]
  simp [mCB, mCons, mNil, e, R.bind, h, lift]
theorem e2_eq (ρ : En.Env) : mCB f_is_demand (mCons e2E mNil) ρ = .ok (.bl true) ρ := by
  have h := dem_const [.str "one", .str "in", .int (10 ^ 60)] (by decide +kernel) true (by decide +kernel)
  have e : e2E ρ = .ok (.tup [.str "one", .str "in", .int (10 ^ 60)]) ρ := by simp [e2E, mTup, mCons, mC, mNil, R.bind, sizeLine, mOp, pur, dPow, dI, lift]
  simp only [mCB, mCons, mNil, e, R.bind, h, lift]
theorem lc_gen (s0 s1 s2 s4 s5 s6 s7 : Sl) (ll : List D) (hall : ∀ d ∈ ll, f_is_demand [d] = some (.bl false)) (hl : ll.length ≤ sizeLine) : lcE [s0, s1, s2, .dat (.lst ll), s4, s5, s6, s7] = .ok (.lst []) [s0, s1, s2, .dat (.lst ll), .emp, s5, s6, s7] := by
  have e := lcD_pure (vs := [4]) (mg := gSet 4) (mt := mTB (mOp (pur dIsNot) (mCB f_is_demand (mCons (mVar 4) mNil)) (mC (.bl false)))) (me := mVar 4) (ρ := [s0, s1, s2, .dat (.lst ll), .emp, s5, s6, s7]) (fun _ => false) (fun d => d) ll [] (fun d hd => by
    have h := hall d hd
    refine ⟨_, [s0, s1, s2, .dat (.lst ll), .dat d, s5, s6, s7], rfl, ?_, fun _ => rfl, fun z => (by cases z)⟩
    simp [mOp, mVar, mC, R.bind, pur, lift, gSet, mTB, mCB, mCons, mNil, h, dIsNot]) (by rw [List.length_nil, Nat.zero_add]; exact hl)
  rw [List.filter_eq_nil_iff.mpr (fun _ _ => Bool.false_ne_true)] at e
  unfold lcE mLc
  have e1 : mItems (mVar 3) [s0, s1, s2, .dat (.lst ll), s4, s5, s6, s7] = .ok ll [s0, s1, s2, .dat (.lst ll), s4, s5, s6, s7] := rfl
  have e2 : wipeE [s0, s1, s2, .dat (.lst ll), s4, s5, s6, s7] [4] = [s0, s1, s2, .dat (.lst ll), .emp, s5, s6, s7] := rfl
  simp only [e1, R.bind, e2, e]
  rfl
theorem lc_eq (s0 s1 s2 s4 s5 s6 s7 : Sl) : lcE [s0, s1, s2, .dat (.lst (l5 ++ l7)), s4, s5, s6, s7] = .ok (.lst []) [s0, s1, s2, .dat (.lst (l5 ++ l7)), .emp, s5, s6, s7] :=
  lc_gen s0 s1 s2 s4 s5 s6 s7 (l5 ++ l7) all_no (by decide)
/-- the state at a turn -/
def Tn (s0 : Sl) (N : Nat) (ρ : En.Env) : Prop := ∃ cs s2 s3 s4 s5 s6 s7, ρ = [s0, .own cs, s2, s3, s4, s5, s6, s7] ∧ POk N cs
def Bn (s0 : Sl) (N j : Nat) (ρ : En.Env) : Prop := ∃ cs s2 s3 d s5 s6 s7, ρ = [s0, .own cs, s2, s3, .dat d, s5, s6, s7] ∧ POk (N + 3 * j) cs ∧ Mat j (5 * 3 ^ j) d
theorem inn_ok {s0 : Sl} {N j : Nat} {ρ : En.Env} {x : D} (hj : j ≤ 1) (hN : N + 10 < 1000000) (h : Bn s0 N j ρ) : ∃ ρ1 ρ2, gSet 5 x ρ = some ρ1 ∧ innS ρ1 = .nx ρ2 ∧ Bn s0 N (j + 1) ρ2 := by
  obtain ⟨cs, s2, s3, d, s5, s6, s7, rfl, p, m⟩ := h
  have hk : 5 * 3 ^ j ≤ 15 := by
    have : j = 0 ∨ j = 1 := by omega
    rcases this with rfl | rfl <;> decide
  have hk1 : 1 ≤ 5 * 3 ^ j := by
    have : j = 0 ∨ j = 1 := by omega
    rcases this with rfl | rfl <;> decide
  have up : Mat (j + 1) (5 * 3 ^ (j + 1)) d := m.up.more (by rw [Nat.pow_succ]; omega)
  have p' : POk (N + 3 * (j + 1)) cs := by
    obtain ⟨ns, t, r, q1, q2, q3, q4, q5⟩ := p
    exact ⟨ns, t, r, q1, q2, q3, by omega, q5⟩
  by_cases hd : ∃ ds, d = .tup ds ∧ ds ≠ []
  · obtain ⟨ds, rfl, ne⟩ := hd
    rcases m with ⟨ds', e, h1, h2⟩ | ⟨_, h2, _⟩
    · cases e
      obtain ⟨d', cs', e', m', p''⟩ := bent_ok hj hk hk1 ne h1 h2 p (by omega)
      refine ⟨_, [s0, .own cs', s2, s3, .dat d', .dat x, s6, s7], rfl, ?_, cs', s2, s3, d', .dat x, s6, s7, rfl, ?_, ?_⟩
      · have ie : ds.isEmpty = false := by cases ds with | nil => exact absurd rfl ne | cons => rfl
        simp [innS, mAsg, mIfE, mAnd, mTru, mUn, dIsi, D.isT, mVar, gSet, lift, R.bind, dTru, mTB, mOp, mTup, mNil, pur, dNeX, dEqF, scalD, emptD, ie, sizeLine, mCallI, held, mCons, e', Sl.put, R.then, optO, ne]
      · rw [show N + 3 * (j + 1) = N + 3 * j + 3 by omega]; exact p''
      · rw [show 5 * 3 ^ (j + 1) = 3 * (5 * 3 ^ j) by rw [Nat.pow_succ]; omega]; exact m'
    · exact absurd rfl (h2 _)
  · refine ⟨_, [s0, .own cs, s2, s3, .dat d, .dat x, s6, s7], rfl, ?_, cs, s2, s3, d, .dat x, s6, s7, rfl, p', up⟩
    by_cases ht : ∃ ds, d = .tup ds
    · obtain ⟨ds, rfl⟩ := ht
      have : ds = [] := by
        cases ds with
        | nil => rfl
        | cons a b => exact absurd ⟨_, rfl, by simp⟩ hd
      subst this
      simp [innS, mAsg, mIfE, mAnd, mTru, mUn, dIsi, D.isT, mVar, gSet, lift, R.bind, dTru, mTB, mOp, mTup, mNil, pur, dNeX, dEqF, scalD, emptD, sizeLine, R.then, optO]
    · have hp : pl d = true := by
        rcases m with ⟨ds', e, _⟩ | ⟨h1, _⟩
        · exact absurd ⟨ds', e⟩ ht
        · exact h1
      have it : d.isT .tup = some false := by
        cases d <;> first | rfl | exact absurd ⟨_, rfl⟩ ht | exact absurd hp Bool.false_ne_true
      simp [innS, mAsg, mIfE, mAnd, mTru, mUn, dIsi, it, mVar, gSet, lift, R.bind, dTru, R.then, optO]
theorem shown_bl (b : Bool) : ∃ z, shownD (.bl b) = some z := by
  obtain ⟨z, hz, _⟩ := (Shw.bl (B := 70) b).shown (by decide) (by decide) (by decide)
  exact ⟨z, hz⟩
theorem tail_ok {s0 s2 s3 s5 s6 s7 : Sl} {cs : List D} {d : D} (m : Mat 2 45 d) : ∃ s6' s7', tailS [s0, .own cs, s2, s3, .dat d, s5, s6, s7] = .nx [s0, .own cs, s2, s3, .dat d, s5, s6', s7'] := by
  obtain ⟨b, z, e1, e2, e3⟩ := m.fair
  obtain ⟨y, hy⟩ := shown_bl b
  refine ⟨.dat (.str z), .dat (.bl b), ?_⟩
  simp [tailS, mSeq, O.seq, mAsg, mCB, mCons, mNil, mVar, R.bind, dRepr, e1, e2, e3, hy, lift, R.then, gSet, optO, mIf, mOr, mTB, mOp, pur, dNeX, dEqF, scalD, mCallKw, mNext]
end M23
namespace M23
open PySem L2 PySem.Spec PyProof.Rows En W23
theorem in62_2 {m : Nat} (h : m ≤ 2) : in62 (m : Int) = true := by
  have : m = 0 ∨ m = 1 ∨ m = 2 := by omega
  rcases this with rfl | rfl | rfl <;> decide
theorem seq_nx {a b : MS} {ρ ρ1 : En.Env} (h : a ρ = .nx ρ1) : mSeq a b ρ = b ρ1 := by unfold mSeq; rw [h]; rfl
theorem asg_ok {me : ME} {mg : D → En.Env → Option En.Env} {ρ ρ1 ρ2 : En.Env} {d : D} (h : me ρ = .ok d ρ1) (h2 : mg d ρ1 = some ρ2) : mAsg me mg ρ = .nx ρ2 := by unfold mAsg; rw [h]; show optO (mg d ρ1) = _; rw [h2]; rfl
theorem for_ok {mi : MA} {mg : D → En.Env → Option En.Env} {body : MS} {ρ ρ1 ρ2 : En.Env} {ds : List D} (h : mi ρ = .ok ds ρ1) (h2 : forD mg body ds ρ1 = .nx ρ2) : mFor mi mg body ρ = .nx ρ2 := by unfold mFor; rw [h]; exact h2
theorem body_r1 {s0 s2 s3 s4 s5 s6 s7 : Sl} {cs cs1 : List D} {d : D} (e1 : f_law_right_one cs [] = some (d, cs1)) : mCallI f_law_right_one 1 mNil [s0, .own cs, s2, s3, s4, s5, s6, s7] = .ok d [s0, .own cs1, s2, s3, s4, s5, s6, s7] := by
  simp [mCallI, held, mNil, R.bind, e1, Sl.put]
theorem body_r2 {s0 s2 s3 s4 s5 s6 s7 : Sl} {cs cs1 : List D} {i : Int} {d : D} (e2 : f_law_draw cs [.int 4] = some (.int i, cs1)) (hc : atI [D.int 0, .int 1, .int 1, .int 2] i = some d) : cntE [s0, .own cs, s2, s3, s4, s5, s6, s7] = .ok d [s0, .own cs1, s2, s3, s4, s5, s6, s7] := by
  simp [cntE, mOp, mLst, mCons, mC, mNil, sizeLine, mCallI, held, R.bind, e2, Sl.put, pur, dIx, hc, lift]
theorem range_ok {f : List D → Option (List D)} {c : ME} {ρ ρ1 : En.Env} {d : D} {q : List D} (h : c ρ = .ok d ρ1) (e : f [d] = some q) : mRange f (mCons c mNil) ρ = .ok q ρ1 := by
  simp [mRange, mCons, mNil, h, R.bind, e, lift]
theorem range_012 {m : Nat} (hm : m ≤ 2) : dRange1 [.int m] = some (rangeD 0 m) := by
  have : m = 0 ∨ m = 1 ∨ m = 2 := by omega
  rcases this with rfl | rfl | rfl <;> simp [dRange1, in62]
theorem body_all {s0 s2 s3 s4 s5 s6 s7 : Sl} {cs cs1 cs2 cs3 : List D} {d d' : D} {i : Int} {m : Nat} {s2' s3' s5' s6' s7' s6'' s7'' : Sl} (e1 : f_law_right_one cs [] = some (d, cs1)) (e2 : f_law_draw cs1 [.int 4] = some (.int i, cs2)) (hc : atI [D.int 0, .int 1, .int 1, .int 2] i = some (.int m)) (hm : m ≤ 2)
    (f1 : forD (gSet 5) innS (rangeD 0 m) [s0, .own cs2, s2, s3, .dat d, s5, s6, s7] = .nx [s0, .own cs3, s2', s3', .dat d', s5', s6', s7']) (ht : tailS [s0, .own cs3, s2', s3', .dat d', s5', s6', s7'] = .nx [s0, .own cs3, s2', s3', .dat d', s5', s6'', s7'']) :
    bodyS [s0, .own cs, s2, s3, s4, s5, s6, s7] = .nx [s0, .own cs3, s2', s3', .dat d', s5', s6'', s7''] := by
  unfold bodyS
  have q1 := asg_ok (mg := gSet 4) (ρ2 := [s0, .own cs1, s2, s3, .dat d, s5, s6, s7]) (body_r1 (s0 := s0) (s2 := s2) (s3 := s3) (s4 := s4) (s5 := s5) (s6 := s6) (s7 := s7) e1) rfl
  have q2 := for_ok (range_ok (body_r2 (s0 := s0) (s2 := s2) (s3 := s3) (s4 := .dat d) (s5 := s5) (s6 := s6) (s7 := s7) e2 hc) (range_012 hm)) f1
  rw [seq_nx q1, seq_nx q2]
  exact ht
theorem body_ok {s0 : Sl} {N : Nat} {ρ : En.Env} {x : D} (hN : N + 20 < 1000000) (h : Tn s0 N ρ) : ∃ ρ1 ρ2, gSet 2 x ρ = some ρ1 ∧ bodyS ρ1 = .nx ρ2 ∧ Tn s0 (N + 13) ρ2 := by
  obtain ⟨cs, s2, s3, s4, s5, s6, s7, rfl, p⟩ := h
  obtain ⟨d, cs1, e1, m1, p1⟩ := right_ok p (by omega)
  obtain ⟨i, cs2, e2, i0, i1, p2⟩ := draw_ok p1 (n := 4) (by omega) (by decide) (by decide)
  obtain ⟨c, hc, hcm⟩ := atI_some (xs := [D.int 0, .int 1, .int 1, .int 2]) i0 i1
  have hr : ∃ m : Nat, c = .int m ∧ m ≤ 2 := by
    simp only [List.mem_cons, List.not_mem_nil, or_false] at hcm
    rcases hcm with rfl | rfl | rfl | rfl
    · exact ⟨0, rfl, by omega⟩
    · exact ⟨1, rfl, by omega⟩
    · exact ⟨1, rfl, by omega⟩
    · exact ⟨2, rfl, by omega⟩
  obtain ⟨m, rfl, hm⟩ := hr
  have lr : (rangeD 0 m).length = m := by unfold rangeD; rw [List.length_map, List.length_range]
  obtain ⟨ρ', f1, cs3, s2', s3', d', s5', s6', s7', rfl, p3, m3⟩ := forD_inv (mg := gSet 5) (body := innS) (Bn s0 (N + 7)) (rangeD 0 m) 0 [s0, .own cs2, .dat x, s3, .dat d, s5, s6, s7] (fun i x ρ _ hi hb => inn_ok (by omega) (by omega) hb) ⟨cs2, .dat x, s3, d, s5, s6, s7, rfl, p2, m1⟩
  rw [lr, Nat.zero_add] at p3 m3
  have m4 : Mat 2 45 d' := by
    have : m = 0 ∨ m = 1 ∨ m = 2 := by omega
    rcases this with rfl | rfl | rfl
    · exact m3.up.up.more (by decide)
    · exact m3.up.more (by decide)
    · exact m3
  obtain ⟨s6'', s7'', ht⟩ := tail_ok (s0 := s0) (s2 := s2') (s3 := s3') (s5 := s5') (s6 := s6') (s7 := s7') (cs := cs3) m4
  refine ⟨[s0, .own cs, .dat x, s3, s4, s5, s6, s7], _, rfl, ?_, cs3, s2', s3', .dat d', s5', s6'', s7'', rfl, ?_⟩
  · exact body_all e1 e2 hc hm f1 ht
  · obtain ⟨ns, t, r, q1, q2, q3, q4, q5⟩ := p3
    exact ⟨ns, t, r, q1, q2, q3, by omega, q5⟩
theorem law_true (ns : List Int) : f_law [.scr ns] = some (.bl true) := by
  obtain ⟨cs, e1, p⟩ := pen_ok ns
  have lr : (rangeD 0 12).length = 12 := by decide
  obtain ⟨ρ', f1, cs3, s2', s3', s4', s5', s6', s7', rfl, p3⟩ := forD_inv (mg := gSet 2) (body := bodyS) (fun j => Tn (.dat (.scr ns)) (13 * j)) (rangeD 0 12) 0 [.dat (.scr ns), .own cs, .emp, .emp, .emp, .emp, .emp, .emp] (fun i x ρ _ hi hb => by
    rw [lr] at hi
    obtain ⟨ρ1, ρ2, a, b, c⟩ := body_ok (x := x) (by omega) hb
    exact ⟨ρ1, ρ2, a, b, by rw [show 13 * (i + 1) = 13 * i + 13 by omega]; exact c⟩) ⟨cs, _, _, _, _, _, _, rfl, p⟩
  have oa : dAdd (.lst l5) (.lst l7) = some (.lst (l5 ++ l7)) := rfl
  unfold f_law
  rw [law_eq]
  have A5 := a5_eq
  have A7 := a7_eq
  have E1 := e1_eq
  have E2 := e2_eq
  have LC := lc_eq
  generalize mCB f_is_demand (mCons e1E mNil) = X1 at E1 ⊢
  generalize mCB f_is_demand (mCons e2E mNil) = X2 at E2 ⊢
  generalize l5 ++ l7 = ll at oa LC
  simp [fnP, entry, mSeq, O.seq, mOwnCall, mCons, mVar, mNil, R.bind, R.then, e1, mFor, mRange, mC, dRange1, in62, lift, f1, mAsg, A5, gSet, optO, mOp, A7, pur, oa, mIf, mTB, LC, mLst, sizeLine, dNeX, dEqF, scalD, emptD, mNext, mRet, mAndV, E1, E2, dIsN, dTru, O.val]
end M23
namespace W23
open PySem L2 En
theorem txt_mk {K : PySem.W.Frag} {h : Heap} {mg : Str → Option Value} (X : K.In h) (G : h.Ns mainGlobals mg)
    {f1 : Addr} {oc1 kV1 dc1 pm1 cd1 ct1 : Value} {od1 an1 : Option Addr} {sl1 : Array (Option Value)} (a1 : PySem.W.nsIn K mainGlobals "is_integer" = some (some (.ref f1))) (l1 : K.lookup f1 = some ⟨oc1, od1, .func (PySem.W.fnOf "is_integer" "is_integer" (defArgs s_is_integer) (defBody s_is_integer) (defScope s_is_integer) .none kV1 dc1 pm1 an1 cd1 ct1), sl1⟩) (c1 : PySem.W.codeIn K cd1 "is_integer" = true) (k1 : PySem.W.keepIn K (.ref f1) = true)
    {f2 : Addr} {oc2 kV2 dc2 pm2 cd2 ct2 : Value} {od2 an2 : Option Addr} {sl2 : Array (Option Value)} (a2 : PySem.W.nsIn K mainGlobals "is_word" = some (some (.ref f2))) (l2 : K.lookup f2 = some ⟨oc2, od2, .func (PySem.W.fnOf "is_word" "is_word" (defArgs s_is_word) (defBody s_is_word) (defScope s_is_word) .none kV2 dc2 pm2 an2 cd2 ct2), sl2⟩) (c2 : PySem.W.codeIn K cd2 "is_word" = true) (k2 : PySem.W.keepIn K (.ref f2) = true)
    {f3 : Addr} {oc3 kV3 dc3 pm3 cd3 ct3 : Value} {od3 an3 : Option Addr} {sl3 : Array (Option Value)} (a3 : PySem.W.nsIn K mainGlobals "is_pipe" = some (some (.ref f3))) (l3 : K.lookup f3 = some ⟨oc3, od3, .func (PySem.W.fnOf "is_pipe" "is_pipe" (defArgs s_is_pipe) (defBody s_is_pipe) (defScope s_is_pipe) .none kV3 dc3 pm3 an3 cd3 ct3), sl3⟩) (c3 : PySem.W.codeIn K cd3 "is_pipe" = true) (k3 : PySem.W.keepIn K (.ref f3) = true)
    {f4 : Addr} {oc4 kV4 dc4 pm4 cd4 ct4 : Value} {od4 an4 : Option Addr} {sl4 : Array (Option Value)} (a4 : PySem.W.nsIn K mainGlobals "is_ask" = some (some (.ref f4))) (l4 : K.lookup f4 = some ⟨oc4, od4, .func (PySem.W.fnOf "is_ask" "is_ask" (defArgs s_is_ask) (defBody s_is_ask) (defScope s_is_ask) .none kV4 dc4 pm4 an4 cd4 ct4), sl4⟩) (c4 : PySem.W.codeIn K cd4 "is_ask" = true) (k4 : PySem.W.keepIn K (.ref f4) = true)
    {f5 : Addr} {oc5 kV5 dc5 pm5 cd5 ct5 : Value} {od5 an5 : Option Addr} {sl5 : Array (Option Value)} (a5 : PySem.W.nsIn K mainGlobals "is_demand" = some (some (.ref f5))) (l5 : K.lookup f5 = some ⟨oc5, od5, .func (PySem.W.fnOf "is_demand" "is_demand" (defArgs s_is_demand) (defBody s_is_demand) (defScope s_is_demand) .none kV5 dc5 pm5 an5 cd5 ct5), sl5⟩) (c5 : PySem.W.codeIn K cd5 "is_demand" = true) (k5 : PySem.W.keepIn K (.ref f5) = true)
    {f6 : Addr} {oc6 kV6 dc6 pm6 cd6 ct6 : Value} {od6 an6 : Option Addr} {sl6 : Array (Option Value)} (a6 : PySem.W.nsIn K mainGlobals "_law_pen" = some (some (.ref f6))) (l6 : K.lookup f6 = some ⟨oc6, od6, .func (PySem.W.fnOf "_law_pen" "_law_pen" (defArgs s_law_pen) (defBody s_law_pen) (defScope s_law_pen) .none kV6 dc6 pm6 an6 cd6 ct6), sl6⟩) (c6 : PySem.W.codeIn K cd6 "_law_pen" = true) (k6 : PySem.W.keepIn K (.ref f6) = true)
    {f7 : Addr} {oc7 kV7 dc7 pm7 cd7 ct7 : Value} {od7 an7 : Option Addr} {sl7 : Array (Option Value)} (a7 : PySem.W.nsIn K mainGlobals "_law_draw" = some (some (.ref f7))) (l7 : K.lookup f7 = some ⟨oc7, od7, .func (PySem.W.fnOf "_law_draw" "_law_draw" (defArgs s_law_draw) (defBody s_law_draw) (defScope s_law_draw) .none kV7 dc7 pm7 an7 cd7 ct7), sl7⟩) (c7 : PySem.W.codeIn K cd7 "_law_draw" = true) (k7 : PySem.W.keepIn K (.ref f7) = true)
    {f8 : Addr} {oc8 kV8 dc8 pm8 cd8 ct8 : Value} {od8 an8 : Option Addr} {sl8 : Array (Option Value)} (a8 : PySem.W.nsIn K mainGlobals "_law_pick" = some (some (.ref f8))) (l8 : K.lookup f8 = some ⟨oc8, od8, .func (PySem.W.fnOf "_law_pick" "_law_pick" (defArgs s_law_pick) (defBody s_law_pick) (defScope s_law_pick) .none kV8 dc8 pm8 an8 cd8 ct8), sl8⟩) (c8 : PySem.W.codeIn K cd8 "_law_pick" = true) (k8 : PySem.W.keepIn K (.ref f8) = true)
    {f9 : Addr} {oc9 kV9 dc9 pm9 cd9 ct9 : Value} {od9 an9 : Option Addr} {sl9 : Array (Option Value)} (a9 : PySem.W.nsIn K mainGlobals "_law_names" = some (some (.ref f9))) (l9 : K.lookup f9 = some ⟨oc9, od9, .func (PySem.W.fnOf "_law_names" "_law_names" (defArgs s_law_names) (defBody s_law_names) (defScope s_law_names) .none kV9 dc9 pm9 an9 cd9 ct9), sl9⟩) (c9 : PySem.W.codeIn K cd9 "_law_names" = true) (k9 : PySem.W.keepIn K (.ref f9) = true)
    {f10 : Addr} {oc10 kV10 dc10 pm10 cd10 ct10 : Value} {od10 an10 : Option Addr} {sl10 : Array (Option Value)} (a10 : PySem.W.nsIn K mainGlobals "_law_is_name" = some (some (.ref f10))) (l10 : K.lookup f10 = some ⟨oc10, od10, .func (PySem.W.fnOf "_law_is_name" "_law_is_name" (defArgs s_law_is_name) (defBody s_law_is_name) (defScope s_law_is_name) .none kV10 dc10 pm10 an10 cd10 ct10), sl10⟩) (c10 : PySem.W.codeIn K cd10 "_law_is_name" = true) (k10 : PySem.W.keepIn K (.ref f10) = true)
    {f11 : Addr} {oc11 kV11 dc11 pm11 cd11 ct11 : Value} {od11 an11 : Option Addr} {sl11 : Array (Option Value)} (a11 : PySem.W.nsIn K mainGlobals "_law_is_ask" = some (some (.ref f11))) (l11 : K.lookup f11 = some ⟨oc11, od11, .func (PySem.W.fnOf "_law_is_ask" "_law_is_ask" (defArgs s_law_is_ask) (defBody s_law_is_ask) (defScope s_law_is_ask) .none kV11 dc11 pm11 an11 cd11 ct11), sl11⟩) (c11 : PySem.W.codeIn K cd11 "_law_is_ask" = true) (k11 : PySem.W.keepIn K (.ref f11) = true)
    {f12 : Addr} {oc12 kV12 dc12 pm12 cd12 ct12 : Value} {od12 an12 : Option Addr} {sl12 : Array (Option Value)} (a12 : PySem.W.nsIn K mainGlobals "_law_due" = some (some (.ref f12))) (l12 : K.lookup f12 = some ⟨oc12, od12, .func (PySem.W.fnOf "_law_due" "_law_due" (defArgs s_law_due) (defBody s_law_due) (defScope s_law_due) .none kV12 dc12 pm12 an12 cd12 ct12), sl12⟩) (c12 : PySem.W.codeIn K cd12 "_law_due" = true) (k12 : PySem.W.keepIn K (.ref f12) = true)
    {f13 : Addr} {oc13 kV13 dc13 pm13 cd13 ct13 : Value} {od13 an13 : Option Addr} {sl13 : Array (Option Value)} (a13 : PySem.W.nsIn K mainGlobals "_law_right_one" = some (some (.ref f13))) (l13 : K.lookup f13 = some ⟨oc13, od13, .func (PySem.W.fnOf "_law_right_one" "_law_right_one" (defArgs s_law_right_one) (defBody s_law_right_one) (defScope s_law_right_one) .none kV13 dc13 pm13 an13 cd13 ct13), sl13⟩) (c13 : PySem.W.codeIn K cd13 "_law_right_one" = true) (k13 : PySem.W.keepIn K (.ref f13) = true)
    {f14 : Addr} {oc14 kV14 dc14 pm14 cd14 ct14 : Value} {od14 an14 : Option Addr} {sl14 : Array (Option Value)} (a14 : PySem.W.nsIn K mainGlobals "_law_bent" = some (some (.ref f14))) (l14 : K.lookup f14 = some ⟨oc14, od14, .func (PySem.W.fnOf "_law_bent" "_law_bent" (defArgs s_law_bent) (defBody s_law_bent) (defScope s_law_bent) .none kV14 dc14 pm14 an14 cd14 ct14), sl14⟩) (c14 : PySem.W.codeIn K cd14 "_law_bent" = true) (k14 : PySem.W.keepIn K (.ref f14) = true)
    {f15 : Addr} {oc15 kV15 dc15 pm15 cd15 ct15 : Value} {od15 an15 : Option Addr} {sl15 : Array (Option Value)} (a15 : PySem.W.nsIn K mainGlobals "law" = some (some (.ref f15))) (l15 : K.lookup f15 = some ⟨oc15, od15, .func (PySem.W.fnOf "law" "law" (defArgs s_law) (defBody s_law) (defScope s_law) .none kV15 dc15 pm15 an15 cd15 ct15), sl15⟩) (c15 : PySem.W.codeIn K cd15 "law" = true) (k15 : PySem.W.keepIn K (.ref f15) = true)
    (a16 : PySem.W.nsIn K mainGlobals "abs" = some none)
    (a17 : PySem.W.nsIn K mainGlobals "all" = some none)
    (a18 : PySem.W.nsIn K mainGlobals "bool" = some none)
    (a19 : PySem.W.nsIn K mainGlobals "int" = some none)
    (a20 : PySem.W.nsIn K mainGlobals "isinstance" = some none)
    (a21 : PySem.W.nsIn K mainGlobals "len" = some none)
    (a22 : PySem.W.nsIn K mainGlobals "list" = some none)
    (a23 : PySem.W.nsIn K mainGlobals "range" = some none)
    (a24 : PySem.W.nsIn K mainGlobals "repr" = some none)
    (a25 : PySem.W.nsIn K mainGlobals "sorted" = some none)
    (a26 : PySem.W.nsIn K mainGlobals "str" = some none)
    (a27 : PySem.W.nsIn K mainGlobals "tuple" = some none)
    {t28 : Tok} (a28 : PySem.W.nsIn K mainGlobals "LETTERS" = some (some (.str "abcdefghijklmnopqrstuvwxyz" t28)))
    {t29 : Tok} (a29 : PySem.W.nsIn K mainGlobals "LONGEST_NAME" = some (some (.int 8 t29)))
    {f30 : Addr} {t30 : Tok} {od30 : Option Addr} {n30 : Nat} {sl30 : Array (Option Value)} (a30 : PySem.W.nsIn K mainGlobals "NOTHING" = some (some (.ref f30))) (l30 : K.lookup f30 = some ⟨.type "tuple", od30, .seq #[.str "nothing" t30] n30, sl30⟩)
    {t31 : Tok} (a31 : PySem.W.nsIn K mainGlobals "NOT_A_PIPE" = some (some (.str "self" t31)))
    {f32 : Addr} {t32 : Tok} {od32 : Option Addr} {n32 : Nat} {sl32 : Array (Option Value)} (a32 : PySem.W.nsIn K mainGlobals "STARVED" = some (some (.ref f32))) (l32 : K.lookup f32 = some ⟨.type "tuple", od32, .seq #[.str "starved" t32] n32, sl32⟩)
    : Txt K mg where
  d_is_integer := defAt_mk X G a1 l1 c1 k1
  d_is_word := defAt_mk X G a2 l2 c2 k2
  d_is_pipe := defAt_mk X G a3 l3 c3 k3
  d_is_ask := defAt_mk X G a4 l4 c4 k4
  d_is_demand := defAt_mk X G a5 l5 c5 k5
  d_law_pen := defAt_mk X G a6 l6 c6 k6
  d_law_draw := defAt_mk X G a7 l7 c7 k7
  d_law_pick := defAt_mk X G a8 l8 c8 k8
  d_law_names := defAt_mk X G a9 l9 c9 k9
  d_law_is_name := defAt_mk X G a10 l10 c10 k10
  d_law_is_ask := defAt_mk X G a11 l11 c11 k11
  d_law_due := defAt_mk X G a12 l12 c12 k12
  d_law_right_one := defAt_mk X G a13 l13 c13 k13
  d_law_bent := defAt_mk X G a14 l14 c14 k14
  d_law := defAt_mk X G a15 l15 c15 k15
  n_abs := PySem.W.mg_none_of X G a16
  n_all := PySem.W.mg_none_of X G a17
  n_bool := PySem.W.mg_none_of X G a18
  n_int := PySem.W.mg_none_of X G a19
  n_isinstance := PySem.W.mg_none_of X G a20
  n_len := PySem.W.mg_none_of X G a21
  n_list := PySem.W.mg_none_of X G a22
  n_range := PySem.W.mg_none_of X G a23
  n_repr := PySem.W.mg_none_of X G a24
  n_sorted := PySem.W.mg_none_of X G a25
  n_str := PySem.W.mg_none_of X G a26
  n_tuple := PySem.W.mg_none_of X G a27
  c_LETTERS := ⟨t28, PySem.W.mg_of X G a28⟩
  c_LONGEST_NAME := ⟨t29, PySem.W.mg_of X G a29⟩
  c_NOTHING := tupC_str X G a30 l30
  c_NOT_A_PIPE := ⟨t31, PySem.W.mg_of X G a31⟩
  c_STARVED := tupC_str X G a32 l32
theorem all_mk {P : Program} {w : World} {K : PySem.W.Frag} {mg : Str → Option Value} {base : Heap} (T : Txt K mg) (hs : ∃ o, base.get? sysModules = some o) : Cal P w K mg base 5 "law" ["_law_script"] (SpP ⟨K, fun _ => none⟩ f_law) := by
  have c_is_integer := k_is_integer (P := P) (w := w) (base := base) (G := ⟨K, fun _ => none⟩) T rfl hs
  have c_is_word := k_is_word (P := P) (w := w) (base := base) (G := ⟨K, fun _ => none⟩) T rfl hs
  have c_is_pipe := k_is_pipe (P := P) (w := w) (base := base) (G := ⟨K, fun _ => none⟩) T rfl hs c_is_word
  have c_is_ask := k_is_ask (P := P) (w := w) (base := base) (G := ⟨K, fun _ => none⟩) T rfl hs c_is_pipe c_is_integer
  have c_is_demand := k_is_demand (P := P) (w := w) (base := base) (G := ⟨K, fun _ => none⟩) T rfl hs c_is_ask
  have c_law_pen := k_law_pen (P := P) (w := w) (base := base) (G := ⟨K, fun _ => none⟩) T rfl hs
  have c_law_draw := k_law_draw (P := P) (w := w) (base := base) (G := ⟨K, fun _ => none⟩) T rfl hs
  have c_law_pick := k_law_pick (P := P) (w := w) (base := base) (G := ⟨K, fun _ => none⟩) T rfl hs c_law_draw
  have c_law_names := k_law_names (P := P) (w := w) (base := base) (G := ⟨K, fun _ => none⟩) T rfl hs c_law_draw
  have c_law_is_name := k_law_is_name (P := P) (w := w) (base := base) (G := ⟨K, fun _ => none⟩) T rfl hs
  have c_law_is_ask := k_law_is_ask (P := P) (w := w) (base := base) (G := ⟨K, fun _ => none⟩) T rfl hs c_law_is_name
  have c_law_due := k_law_due (P := P) (w := w) (base := base) (G := ⟨K, fun _ => none⟩) T rfl hs c_law_is_ask
  have c_law_right_one := k_law_right_one (P := P) (w := w) (base := base) (G := ⟨K, fun _ => none⟩) T rfl hs c_law_names c_law_draw
  have c_law_bent := k_law_bent (P := P) (w := w) (base := base) (G := ⟨K, fun _ => none⟩) T rfl hs c_law_draw
  have c_law := k_law (P := P) (w := w) (base := base) (G := ⟨K, fun _ => none⟩) T rfl hs c_law_pen c_law_right_one c_law_draw c_law_bent c_law_due c_is_demand
  exact c_law
theorem fin_mk {P : Program} {w : World} {K : PySem.W.Frag} {h : Heap} {mg : Str → Option Value} {fa : Addr} {base : Heap} (X : K.In h) (G : h.Ns mainGlobals mg) (hmg : mg "law" = some (.ref fa)) (hs : ∃ o, base.get? sysModules = some o)
    {f1 : Addr} {oc1 kV1 dc1 pm1 cd1 ct1 : Value} {od1 an1 : Option Addr} {sl1 : Array (Option Value)} (a1 : PySem.W.nsIn K mainGlobals "is_integer" = some (some (.ref f1))) (l1 : K.lookup f1 = some ⟨oc1, od1, .func (PySem.W.fnOf "is_integer" "is_integer" (defArgs s_is_integer) (defBody s_is_integer) (defScope s_is_integer) .none kV1 dc1 pm1 an1 cd1 ct1), sl1⟩) (c1 : PySem.W.codeIn K cd1 "is_integer" = true) (k1 : PySem.W.keepIn K (.ref f1) = true)
    {f2 : Addr} {oc2 kV2 dc2 pm2 cd2 ct2 : Value} {od2 an2 : Option Addr} {sl2 : Array (Option Value)} (a2 : PySem.W.nsIn K mainGlobals "is_word" = some (some (.ref f2))) (l2 : K.lookup f2 = some ⟨oc2, od2, .func (PySem.W.fnOf "is_word" "is_word" (defArgs s_is_word) (defBody s_is_word) (defScope s_is_word) .none kV2 dc2 pm2 an2 cd2 ct2), sl2⟩) (c2 : PySem.W.codeIn K cd2 "is_word" = true) (k2 : PySem.W.keepIn K (.ref f2) = true)
    {f3 : Addr} {oc3 kV3 dc3 pm3 cd3 ct3 : Value} {od3 an3 : Option Addr} {sl3 : Array (Option Value)} (a3 : PySem.W.nsIn K mainGlobals "is_pipe" = some (some (.ref f3))) (l3 : K.lookup f3 = some ⟨oc3, od3, .func (PySem.W.fnOf "is_pipe" "is_pipe" (defArgs s_is_pipe) (defBody s_is_pipe) (defScope s_is_pipe) .none kV3 dc3 pm3 an3 cd3 ct3), sl3⟩) (c3 : PySem.W.codeIn K cd3 "is_pipe" = true) (k3 : PySem.W.keepIn K (.ref f3) = true)
    {f4 : Addr} {oc4 kV4 dc4 pm4 cd4 ct4 : Value} {od4 an4 : Option Addr} {sl4 : Array (Option Value)} (a4 : PySem.W.nsIn K mainGlobals "is_ask" = some (some (.ref f4))) (l4 : K.lookup f4 = some ⟨oc4, od4, .func (PySem.W.fnOf "is_ask" "is_ask" (defArgs s_is_ask) (defBody s_is_ask) (defScope s_is_ask) .none kV4 dc4 pm4 an4 cd4 ct4), sl4⟩) (c4 : PySem.W.codeIn K cd4 "is_ask" = true) (k4 : PySem.W.keepIn K (.ref f4) = true)
    {f5 : Addr} {oc5 kV5 dc5 pm5 cd5 ct5 : Value} {od5 an5 : Option Addr} {sl5 : Array (Option Value)} (a5 : PySem.W.nsIn K mainGlobals "is_demand" = some (some (.ref f5))) (l5 : K.lookup f5 = some ⟨oc5, od5, .func (PySem.W.fnOf "is_demand" "is_demand" (defArgs s_is_demand) (defBody s_is_demand) (defScope s_is_demand) .none kV5 dc5 pm5 an5 cd5 ct5), sl5⟩) (c5 : PySem.W.codeIn K cd5 "is_demand" = true) (k5 : PySem.W.keepIn K (.ref f5) = true)
    {f6 : Addr} {oc6 kV6 dc6 pm6 cd6 ct6 : Value} {od6 an6 : Option Addr} {sl6 : Array (Option Value)} (a6 : PySem.W.nsIn K mainGlobals "_law_pen" = some (some (.ref f6))) (l6 : K.lookup f6 = some ⟨oc6, od6, .func (PySem.W.fnOf "_law_pen" "_law_pen" (defArgs s_law_pen) (defBody s_law_pen) (defScope s_law_pen) .none kV6 dc6 pm6 an6 cd6 ct6), sl6⟩) (c6 : PySem.W.codeIn K cd6 "_law_pen" = true) (k6 : PySem.W.keepIn K (.ref f6) = true)
    {f7 : Addr} {oc7 kV7 dc7 pm7 cd7 ct7 : Value} {od7 an7 : Option Addr} {sl7 : Array (Option Value)} (a7 : PySem.W.nsIn K mainGlobals "_law_draw" = some (some (.ref f7))) (l7 : K.lookup f7 = some ⟨oc7, od7, .func (PySem.W.fnOf "_law_draw" "_law_draw" (defArgs s_law_draw) (defBody s_law_draw) (defScope s_law_draw) .none kV7 dc7 pm7 an7 cd7 ct7), sl7⟩) (c7 : PySem.W.codeIn K cd7 "_law_draw" = true) (k7 : PySem.W.keepIn K (.ref f7) = true)
    {f8 : Addr} {oc8 kV8 dc8 pm8 cd8 ct8 : Value} {od8 an8 : Option Addr} {sl8 : Array (Option Value)} (a8 : PySem.W.nsIn K mainGlobals "_law_pick" = some (some (.ref f8))) (l8 : K.lookup f8 = some ⟨oc8, od8, .func (PySem.W.fnOf "_law_pick" "_law_pick" (defArgs s_law_pick) (defBody s_law_pick) (defScope s_law_pick) .none kV8 dc8 pm8 an8 cd8 ct8), sl8⟩) (c8 : PySem.W.codeIn K cd8 "_law_pick" = true) (k8 : PySem.W.keepIn K (.ref f8) = true)
    {f9 : Addr} {oc9 kV9 dc9 pm9 cd9 ct9 : Value} {od9 an9 : Option Addr} {sl9 : Array (Option Value)} (a9 : PySem.W.nsIn K mainGlobals "_law_names" = some (some (.ref f9))) (l9 : K.lookup f9 = some ⟨oc9, od9, .func (PySem.W.fnOf "_law_names" "_law_names" (defArgs s_law_names) (defBody s_law_names) (defScope s_law_names) .none kV9 dc9 pm9 an9 cd9 ct9), sl9⟩) (c9 : PySem.W.codeIn K cd9 "_law_names" = true) (k9 : PySem.W.keepIn K (.ref f9) = true)
    {f10 : Addr} {oc10 kV10 dc10 pm10 cd10 ct10 : Value} {od10 an10 : Option Addr} {sl10 : Array (Option Value)} (a10 : PySem.W.nsIn K mainGlobals "_law_is_name" = some (some (.ref f10))) (l10 : K.lookup f10 = some ⟨oc10, od10, .func (PySem.W.fnOf "_law_is_name" "_law_is_name" (defArgs s_law_is_name) (defBody s_law_is_name) (defScope s_law_is_name) .none kV10 dc10 pm10 an10 cd10 ct10), sl10⟩) (c10 : PySem.W.codeIn K cd10 "_law_is_name" = true) (k10 : PySem.W.keepIn K (.ref f10) = true)
    {f11 : Addr} {oc11 kV11 dc11 pm11 cd11 ct11 : Value} {od11 an11 : Option Addr} {sl11 : Array (Option Value)} (a11 : PySem.W.nsIn K mainGlobals "_law_is_ask" = some (some (.ref f11))) (l11 : K.lookup f11 = some ⟨oc11, od11, .func (PySem.W.fnOf "_law_is_ask" "_law_is_ask" (defArgs s_law_is_ask) (defBody s_law_is_ask) (defScope s_law_is_ask) .none kV11 dc11 pm11 an11 cd11 ct11), sl11⟩) (c11 : PySem.W.codeIn K cd11 "_law_is_ask" = true) (k11 : PySem.W.keepIn K (.ref f11) = true)
    {f12 : Addr} {oc12 kV12 dc12 pm12 cd12 ct12 : Value} {od12 an12 : Option Addr} {sl12 : Array (Option Value)} (a12 : PySem.W.nsIn K mainGlobals "_law_due" = some (some (.ref f12))) (l12 : K.lookup f12 = some ⟨oc12, od12, .func (PySem.W.fnOf "_law_due" "_law_due" (defArgs s_law_due) (defBody s_law_due) (defScope s_law_due) .none kV12 dc12 pm12 an12 cd12 ct12), sl12⟩) (c12 : PySem.W.codeIn K cd12 "_law_due" = true) (k12 : PySem.W.keepIn K (.ref f12) = true)
    {f13 : Addr} {oc13 kV13 dc13 pm13 cd13 ct13 : Value} {od13 an13 : Option Addr} {sl13 : Array (Option Value)} (a13 : PySem.W.nsIn K mainGlobals "_law_right_one" = some (some (.ref f13))) (l13 : K.lookup f13 = some ⟨oc13, od13, .func (PySem.W.fnOf "_law_right_one" "_law_right_one" (defArgs s_law_right_one) (defBody s_law_right_one) (defScope s_law_right_one) .none kV13 dc13 pm13 an13 cd13 ct13), sl13⟩) (c13 : PySem.W.codeIn K cd13 "_law_right_one" = true) (k13 : PySem.W.keepIn K (.ref f13) = true)
    {f14 : Addr} {oc14 kV14 dc14 pm14 cd14 ct14 : Value} {od14 an14 : Option Addr} {sl14 : Array (Option Value)} (a14 : PySem.W.nsIn K mainGlobals "_law_bent" = some (some (.ref f14))) (l14 : K.lookup f14 = some ⟨oc14, od14, .func (PySem.W.fnOf "_law_bent" "_law_bent" (defArgs s_law_bent) (defBody s_law_bent) (defScope s_law_bent) .none kV14 dc14 pm14 an14 cd14 ct14), sl14⟩) (c14 : PySem.W.codeIn K cd14 "_law_bent" = true) (k14 : PySem.W.keepIn K (.ref f14) = true)
    {f15 : Addr} {oc15 kV15 dc15 pm15 cd15 ct15 : Value} {od15 an15 : Option Addr} {sl15 : Array (Option Value)} (a15 : PySem.W.nsIn K mainGlobals "law" = some (some (.ref f15))) (l15 : K.lookup f15 = some ⟨oc15, od15, .func (PySem.W.fnOf "law" "law" (defArgs s_law) (defBody s_law) (defScope s_law) .none kV15 dc15 pm15 an15 cd15 ct15), sl15⟩) (c15 : PySem.W.codeIn K cd15 "law" = true) (k15 : PySem.W.keepIn K (.ref f15) = true)
    (a16 : PySem.W.nsIn K mainGlobals "abs" = some none)
    (a17 : PySem.W.nsIn K mainGlobals "all" = some none)
    (a18 : PySem.W.nsIn K mainGlobals "bool" = some none)
    (a19 : PySem.W.nsIn K mainGlobals "int" = some none)
    (a20 : PySem.W.nsIn K mainGlobals "isinstance" = some none)
    (a21 : PySem.W.nsIn K mainGlobals "len" = some none)
    (a22 : PySem.W.nsIn K mainGlobals "list" = some none)
    (a23 : PySem.W.nsIn K mainGlobals "range" = some none)
    (a24 : PySem.W.nsIn K mainGlobals "repr" = some none)
    (a25 : PySem.W.nsIn K mainGlobals "sorted" = some none)
    (a26 : PySem.W.nsIn K mainGlobals "str" = some none)
    (a27 : PySem.W.nsIn K mainGlobals "tuple" = some none)
    {t28 : Tok} (a28 : PySem.W.nsIn K mainGlobals "LETTERS" = some (some (.str "abcdefghijklmnopqrstuvwxyz" t28)))
    {t29 : Tok} (a29 : PySem.W.nsIn K mainGlobals "LONGEST_NAME" = some (some (.int 8 t29)))
    {f30 : Addr} {t30 : Tok} {od30 : Option Addr} {n30 : Nat} {sl30 : Array (Option Value)} (a30 : PySem.W.nsIn K mainGlobals "NOTHING" = some (some (.ref f30))) (l30 : K.lookup f30 = some ⟨.type "tuple", od30, .seq #[.str "nothing" t30] n30, sl30⟩)
    {t31 : Tok} (a31 : PySem.W.nsIn K mainGlobals "NOT_A_PIPE" = some (some (.str "self" t31)))
    {f32 : Addr} {t32 : Tok} {od32 : Option Addr} {n32 : Nat} {sl32 : Array (Option Value)} (a32 : PySem.W.nsIn K mainGlobals "STARVED" = some (some (.ref f32))) (l32 : K.lookup f32 = some ⟨.type "tuple", od32, .seq #[.str "starved" t32] n32, sl32⟩)
    : ∃ fd : FuncData, (∀ (s : Shared) (u : Value), K.In s.heap → BindsTo s fd ⟨[u], []⟩ [("_law_script", u)]) ∧ FnG P w K mg base CX0 5 fa fd ["_law_script"] (SpP ⟨K, fun _ => none⟩ f_law) :=
  (all_mk (txt_mk X G a1 l1 c1 k1 a2 l2 c2 k2 a3 l3 c3 k3 a4 l4 c4 k4 a5 l5 c5 k5 a6 l6 c6 k6 a7 l7 c7 k7 a8 l8 c8 k8 a9 l9 c9 k9 a10 l10 c10 k10 a11 l11 c11 k11 a12 l12 c12 k12 a13 l13 c13 k13 a14 l14 c14 k14 a15 l15 c15 k15 a16 a17 a18 a19 a20 a21 a22 a23 a24 a25 a26 a27 a28 a29 a30 l30 a31 a32 l32) hs).law hmg
end W23
open PySem PySem.W PyProof.Rows in
set_option maxRecDepth 100000 in
set_option maxHeartbeats 0 in
theorem PySem.Challenge.cw_jamtally_k23_what_is_a_demand_holds : PySem.Challenge.rw_jamtally_k23_what_is_a_demand.Holds := by
  w_on; o_law; k_head; (case hw => w_witness2)
  k_fill
  refine En.walkG (l := PySem.Challenge.rw_jamtally_k23_what_is_a_demand) (n := 63) (k := 5) (x := "_law_script") (sp := fun K => En.SpP ⟨K, fun _ => none⟩ W23.f_law) rfl (by decide) rfl ⟨rfl, by decide, by decide⟩ rfl (fun w h Y => PySem.W.kIn_of Y) ?F (fun K H a ns _ hS => En.law_sp (M23.law_true ns) hS)
  case F =>
    intro w mg fa h KX G hmg base hb hn hs
    refine' W23.fin_mk KX G hmg hs ?a1 ?l1 ?c1 ?k1 ?a2 ?l2 ?c2 ?k2 ?a3 ?l3 ?c3 ?k3 ?a4 ?l4 ?c4 ?k4 ?a5 ?l5 ?c5 ?k5 ?a6 ?l6 ?c6 ?k6 ?a7 ?l7 ?c7 ?k7 ?a8 ?l8 ?c8 ?k8 ?a9 ?l9 ?c9 ?k9 ?a10 ?l10 ?c10 ?k10 ?a11 ?l11 ?c11 ?k11 ?a12 ?l12 ?c12 ?k12 ?a13 ?l13 ?c13 ?k13 ?a14 ?l14 ?c14 ?k14 ?a15 ?l15 ?c15 ?k15 ?a16 ?a17 ?a18 ?a19 ?a20 ?a21 ?a22 ?a23 ?a24 ?a25 ?a26 ?a27 ?a28 ?a29 ?a30 ?l30 ?a31 ?a32 ?l32
    (case a1 => k_is)
    (case l1 => k_is)
    (case c1 => k_is)
    (case k1 => k_is)
    (case a2 => k_is)
    (case l2 => k_is)
    (case c2 => k_is)
    (case k2 => k_is)
    (case a3 => k_is)
    (case l3 => k_is)
    (case c3 => k_is)
    (case k3 => k_is)
    (case a4 => k_is)
    (case l4 => k_is)
    (case c4 => k_is)
    (case k4 => k_is)
    (case a5 => k_is)
    (case l5 => k_is)
    (case c5 => k_is)
    (case k5 => k_is)
    (case a6 => k_is)
    (case l6 => k_is)
    (case c6 => k_is)
    (case k6 => k_is)
    (case a7 => k_is)
    (case l7 => k_is)
    (case c7 => k_is)
    (case k7 => k_is)
    (case a8 => k_is)
    (case l8 => k_is)
    (case c8 => k_is)
    (case k8 => k_is)
    (case a9 => k_is)
    (case l9 => k_is)
    (case c9 => k_is)
    (case k9 => k_is)
    (case a10 => k_is)
    (case l10 => k_is)
    (case c10 => k_is)
    (case k10 => k_is)
    (case a11 => k_is)
    (case l11 => k_is)
    (case c11 => k_is)
    (case k11 => k_is)
    (case a12 => k_is)
    (case l12 => k_is)
    (case c12 => k_is)
    (case k12 => k_is)
    (case a13 => k_is)
    (case l13 => k_is)
    (case c13 => k_is)
    (case k13 => k_is)
    (case a14 => k_is)
    (case l14 => k_is)
    (case c14 => k_is)
    (case k14 => k_is)
    (case a15 => k_is)
    (case l15 => k_is)
    (case c15 => k_is)
    (case k15 => k_is)
    (case a16 => k_is)
    (case a17 => k_is)
    (case a18 => k_is)
    (case a19 => k_is)
    (case a20 => k_is)
    (case a21 => k_is)
    (case a22 => k_is)
    (case a23 => k_is)
    (case a24 => k_is)
    (case a25 => k_is)
    (case a26 => k_is)
    (case a27 => k_is)
    (case a28 => k_is)
    (case a29 => k_is)
    (case a30 => k_is)
    (case l30 => k_is)
    (case a31 => k_is)
    (case a32 => k_is)
    (case l32 => k_is)

